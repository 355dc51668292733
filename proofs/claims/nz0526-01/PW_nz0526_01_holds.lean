import PyProof.Rows.All
import Wide.All
import OpenK.AllK
import Wide.FinOn
import KE.KLam
import KE.KDictAnyGet
import KE.KExtendNil
import KE.KIsNot
import KE.KItem
import KE.KListMore
import KE.KPopAny
import PyProof.DictCompW
import PyProof.DictWalks
import PyProof.ExcAttrAll.Exception
import PyProof.ExcBaseAll.Exception
import PyProof.ExcClass3
import PyProof.InstStoreFacts
import PyProof.IsiHeapPairs
import PyProof.IsiPairs
import PyProof.RangeFor
import PyProof.Rows.PlainEq
import PyProof.Rows.TupAssign
import PySem.Challenge.RW_nz0526_01
set_option Elab.async false
set_option maxRecDepth 100000
set_option maxHeartbeats 8000000
set_option linter.unusedSimpArgs false
set_option linter.unusedVariables false
namespace Mine
inductive V where
 | none | bool (b : Bool) | int (i : Int) | w (i : Nat) | dec (i : Int) | ref (a : Nat) | ext
 deriving DecidableEq
inductive Pv where | null | vector
 deriving DecidableEq
inductive An where
 | list (xs : List V)
 | tup (xs : List V)
 | dictW (kvs : List (Nat × V))
 | dictP (kvs : List (Nat × V))
 | dictI (kvs : List (Int × V))
 | inst (c : Pv) (fs : List (Nat × V))
 | tab
 deriving DecidableEq
abbrev MH := List An
inductive R (α : Type) where
 | ok (a : α) (H : MH)
 | exc (m : Nat) (H : MH)
 | bad
abbrev M (α : Type) := MH -> R α
def ret {α : Type} (a : α) : M α := fun H => .ok a H
def bad {α : Type} : M α := fun _ => .bad
def Pt {α : Type} (m : Nat) : M α := fun H => .exc m H
def bnd {α β : Type} (m : M α) (f : α -> M β) : M β := fun H => match m H with
 | .ok a H' => f a H'
 | .exc e H' => .exc e H'
 | .bad => .bad
def alloc (c : An) : M V := fun H => .ok (.ref H.length) (H ++ [c])
def AJ (v : V) : M An := fun H => match v with
 | .ref a => (match H[a]? with
  | some c => .ok c H
  | Option.none => .bad)
 | _ => .bad
def Dm (v : V) (c : An) : M Unit := fun H => match v with
 | .ref a => .ok () (H.set a c)
 | _ => .bad
inductive RW where | add | sub | mul | mod | fdiv
inductive R9 where | eq | ne | lt | le | gt | ge | isin | notin
inductive Ty where | str | int | list
mutual
def G4 : Nat -> MH -> V -> V -> Bool
 | 0, _, _, _ => false
 | n + 1, H, a, b => match a, b with
  | .none, .none => true
  | .bool x, .bool y => x == y
  | .int x, .int y => x == y
  | .w x, .w y => x == y
  | .dec x, .dec y => x == y
  | .ref x, .ref y => (match H[x]?, H[y]? with
   | some (.list xs), some (.list ys) => Ek n H xs ys
   | some (.tup xs), some (.tup ys) => Ek n H xs ys
   | some (.dictW []), some (.dictW []) => true
   | some (.dictW [(k, v)]), some (.dictW [(k', v')]) => k == k' && G4 n H v v'
   | _, _ => false)
  | _, _ => false
def Ek : Nat -> MH -> List V -> List V -> Bool
 | 0, _, _, _ => false
 | _ + 1, _, [], [] => true
 | n + 1, H, a :: r, b :: q => G4 n H a b && Ek n H r q
 | _ + 1, _, _, _ => false
end
def Fd : Nat := 64
def Fg (H : MH) (a b : V) : Option Bool := match a, b with
 | .int x, .int y => some (x == y)
 | .w x, .w y => some (x == y)
 | .none, .none => some true
 | .none, .w _ => some false
 | .w _, .none => some false
 | .int _, .w _ => some false
 | .w _, .int _ => some false
 | .dec x, .dec y => if x = y then some true else Option.none
 | .ref x, .w _ => (match H[x]? with
  | some (.list _) => some false
  | some (.tup _) => some false
  | _ => Option.none)
 | .ref x, .ref y => (match H[x]?, H[y]? with
  | some (.list []), some (.list (_ :: _)) => some false
  | some (.list (_ :: _)), some (.list []) => some false
  | some (.list []), some (.list []) => some true
  | _, _ => if G4 Fd H a b then some true else Option.none)
 | _, _ => Option.none
def wn : V -> Bool
 | .w _ => true
 | .none => true
 | _ => false
def Fz (k : Nat) (y : V) : Bool := decide (y = .w k)
def Bd (k : Nat) : List (Nat × V) -> Option V
 | [] => Option.none
 | p :: r => if p.1 = k then some p.2 else Bd k r
def Fo (k : Int) : List (Int × V) -> Option V
 | [] => Option.none
 | p :: r => if p.1 = k then some p.2 else Fo k r
def DS (k : Nat) (v : V) : List (Nat × V) -> List (Nat × V)
 | [] => [(k, v)]
 | p :: r => if p.1 = k then (k, v) :: r else p :: DS k v r
def N8 (k : Int) (v : V) : List (Int × V) -> List (Int × V)
 | [] => [(k, v)]
 | p :: r => if p.1 = k then (k, v) :: r else p :: N8 k v r
def Au {α : Type} : Option α -> M α
 | some a => ret a
 | Option.none => bad
def L4 (x c : V) : M Bool := fun H => match c with
 | .ref a => (match H[a]?, x with
  | some (.list xs), .w k => if xs.all wn = true then .ok (xs.any (Fz k)) H else .bad
  | some (.tup xs), .w k => if xs.all wn = true then .ok (xs.any (Fz k)) H else .bad
  | some (.dictW kvs), .w k => .ok (Bd k kvs).isSome H
  | some (.dictI kvs), .int k => .ok (Fo k kvs).isSome H
  | _, _ => .bad)
 | _ => .bad
def Fu (m : M Bool) : M Bool := bnd m fun b => ret !b
def DM (op : R9) (a b : V) : M Bool := match op with
 | .eq => fun H => Au (Fg H a b) H
 | .ne => Fu fun H => Au (Fg H a b) H
 | .isin => L4 a b
 | .notin => Fu (L4 a b)
 | .lt => (match a, b with | .int x, .int y => ret (decide (x < y)) | _, _ => bad)
 | .le => (match a, b with | .int x, .int y => ret (decide (x <= y)) | _, _ => bad)
 | .gt => (match a, b with | .int x, .int y => ret (decide (y < x)) | _, _ => bad)
 | .ge => (match a, b with | .int x, .int y => ret (decide (y <= x)) | _, _ => bad)
def Bz : Nat := 100000
def HK (op : RW) (a b : V) : M V := match op, a, b with
 | .add, .int x, .int y => ret (.int (x + y))
 | .sub, .int x, .int y => ret (.int (x - y))
 | .mod, .int x, .int y => if 0 < y then ret (.int (x % y)) else bad
 | .fdiv, .int x, .int y => if y = 1024 then ret (.int (x / y)) else bad
 | .mul, .ref l, .int k => bnd (AJ (.ref l)) fun c => (match c with
  | .list [x] => if 0 <= k /\ k <= 1000 then alloc (.list (List.replicate k.toNat x)) else bad
  | _ => bad)
 | .add, .ref l, .ref r => bnd (AJ (.ref l)) fun c => bnd (AJ (.ref r)) fun d => (match c, d with
  | .list xs, .list ys => if xs.length + ys.length <= Bz then alloc (.list (xs ++ ys)) else bad
  | _, _ => bad)
 | _, _, _ => bad
def Aw : V -> M Bool
 | .bool b => ret b
 | _ => bad
def MA (v : V) : M V := bnd (AJ v) fun c => match c with
 | .list xs => if xs.length <= Bz then ret (.int xs.length) else bad
 | _ => bad
def EW (o i : V) : M V := bnd (AJ o) fun c => match c, i with
 | .list xs, .int k => if 0 <= k /\ k <= Bz then Au xs[k.toNat]? else bad
 | .tup xs, .int k => if 0 <= k /\ k <= Bz then Au xs[k.toNat]? else bad
 | .dictW kvs, .w k => Au (Bd k kvs)
 | .dictP kvs, .w k => Au (Bd k kvs)
 | _, _ => bad
def DF (o : V) (a : Nat) : M V := bnd (AJ o) fun c => match c with
 | .inst _ fs => Au (Bd a fs)
 | _ => bad
def FL (o : V) (a : Nat) (v : V) : M Unit := bnd (AJ o) fun c => match c with
 | .inst k fs => if fs.length < 100 then Dm o (.inst k (DS a v fs)) else bad
 | _ => bad
def Cw (o k v : V) : M Unit := bnd (AJ o) fun c => match c, k with
 | .list xs, .int i => if 0 <= i /\ i < xs.length /\ xs.length <= Bz then Dm o (.list (xs.set i.toNat v)) else bad
 | .dictW kvs, .w i => if kvs.length < 100 then Dm o (.dictW (DS i v kvs)) else bad
 | .dictI kvs, .int i => if kvs.length < 100 /\ 0 <= i /\ i <= Bz then Dm o (.dictI (N8 i v kvs)) else bad
 | _, _ => bad
def cutTo (Ab : List Int) (o k : V) : M V := match o, k with
 | .ext, .int i => if i = 40 then alloc (.list ((Ab.take 40).map .int)) else bad
 | .ref _, .int i => bnd (AJ o) fun c => (match c with
  | .list xs => if 0 <= i /\ i <= Bz /\ xs.length <= Bz then alloc (.list (xs.take i.toNat)) else bad
  | _ => bad)
 | _, _ => bad
def cutFrom (o k : V) : M V := match k with
 | .int i => bnd (AJ o) fun c => (match c with
  | .list xs => if 0 <= i /\ i <= Bz /\ xs.length <= Bz then alloc (.list (xs.drop i.toNat)) else bad
  | _ => bad)
 | _ => bad
def LJ (v : V) : M V := bnd (AJ v) fun c => match c with
 | .list xs => if xs.length <= Bz then alloc (.list xs) else bad
 | _ => bad
def IN (v : V) : M V := bnd (AJ v) fun c => match c with
 | .dictW kvs => if kvs.length < 100 then alloc (.dictW kvs) else bad
 | _ => bad
def OS : V -> M V
 | .int i => if 0 <= i /\ i <= Bz then ret (.dec i) else bad
 | _ => bad
def QX (a b : V) : M V := match a, b with
 | .int x, .int y => ret (.int (if y > x then y else x))
 | _, _ => bad
def FH (v : V) (t : Ty) : M V := fun H => match v, t with
 | .w _, .str => .ok (.bool true) H
 | .int _, .str => .ok (.bool false) H
 | .w _, .int => .ok (.bool false) H
 | .int _, .int => .ok (.bool true) H
 | .ref a, t => (match H[a]?, t with
  | some (.list _), .list => .ok (.bool true) H
  | some (.tup _), .list => .ok (.bool false) H
  | some (.inst _ _), .str => .ok (.bool false) H
  | _, _ => .bad)
 | _, _ => .bad
def FF (v : V) : M V := bnd (AJ v) fun c => match c with
 | .inst .vector _ => ret (.bool true)
 | _ => bad
def E3 (o v : V) : M V := bnd (AJ o) fun c => match c with
 | .list xs => if xs.length <= Bz then bnd (Dm o (.list (xs ++ [v]))) fun _ => ret .none else bad
 | _ => bad
def Ds (o v : V) : M V := if o = v then bad else bnd (AJ o) fun c => bnd (AJ v) fun d => match c, d with
 | .list xs, .list ys => if xs.length + ys.length <= Bz then bnd (Dm o (.list (xs ++ ys))) fun _ => ret .none else bad
 | _, _ => bad
def FJ : V -> Bool
 | .int _ => true
 | _ => false
def MB (o : V) : M V := bnd (AJ o) fun c => match c with
 | .list xs => if xs.length <= Bz /\ xs.all FJ = true then (match xs.getLast? with
  | some x => bnd (Dm o (.list xs.dropLast)) fun _ => ret x
  | Option.none => bad) else bad
 | _ => bad
def EU (o : V) : M V := bnd (AJ o) fun c => match c with
 | .list xs => if xs.length <= Bz then bnd (Dm o (.list xs.reverse)) fun _ => ret .none else bad
 | _ => bad
def Fb (tp : Bool) (o x : V) : M V := bnd (AJ o) fun c => match tp, c, x with
 | false, .list xs, .w k => if xs.all wn = true /\ xs.length <= Bz then (match xs.findIdx? (Fz k) with | some i => ret (.int i) | Option.none => bad) else bad
 | true, .tup xs, .w k => if xs.all wn = true /\ xs.length <= Bz then (match xs.findIdx? (Fz k) with | some i => ret (.int i) | Option.none => bad) else bad
 | _, _, _ => bad
def LE (o k d : V) : M V := bnd (AJ o) fun c => match c, k with
 | .dictW kvs, .w i => ret ((Bd i kvs).getD d)
 | _, _ => bad
def LY (v : V) : M Unit := bnd (AJ v) fun c => match c with
 | .list _ => ret ()
 | _ => bad
def N9 (v : V) : M Unit := bnd (AJ v) fun c => match c with
 | .dictW _ => ret ()
 | _ => bad
def P7 (v : V) : M Bool := bnd (AJ v) fun c => match c with
 | .list _ => ret false
 | .tup _ => ret true
 | _ => bad
def JH (v : V) : M Unit := match v with
 | .w _ => ret ()
 | _ => bad
abbrev F8 := Nat -> Nat -> Option Bool
def CI (bg : F8) (o k : V) : M V := match o, k with
 | .w a, .w b => (match bg a b with
  | some t => ret (.bool t)
  | Option.none => bad)
 | _, _ => bad
inductive ME (F : Type) where
 | var (i : Nat)
 | cst (v : V)
 | usub (k : Nat)
 | gmax
 | attr (e : ME F) (a : Nat)
 | idx (e i : ME F)
 | cutTo (e k : ME F)
 | cutFrom (e k : ME F)
 | bin (op : RW) (a b : ME F)
 | cmp (op : R9) (a b : ME F)
 | isNone (neg : Bool) (e : ME F)
 | inW (neg : Bool) (e : ME F) (ws : List Nat)
 | and2 (a b : ME F)
 | or2 (a b : ME F)
 | not (a : ME F)
 | ite (c a b : ME F)
 | lst (es : List (ME F))
 | tup (es : List (ME F))
 | dct0
 | dct0I
 | dct1 (k : Nat) (e : ME F)
 | call (f : F) (es : List (ME F))
 | mk (c : Pv) (es : List (ME F))
 | len (e : ME F)
 | listOf (e : ME F)
 | dictOf (e : ME F)
 | strOf (e : ME F)
 | max2 (a b : ME F)
 | isV (e : ME F)
 | isT (e : ME F) (t : Ty)
 | append (o e : ME F)
 | extend (o e : ME F)
 | pop (o : ME F)
 | reverse (o : ME F)
 | index (o e : ME F)
 | get1 (o k : ME F)
 | get2 (o k d : ME F)
 | starts (o k : ME F)
 | mcall (o : ME F) (f : F)
 | comp (elt it : ME F)
 | compR (elt n : ME F)
 | compIf (elt cond n : ME F)
 | dcomp (v it : ME F)
 | kept (e : ME F)
 | bad
inductive MS (F : Type) where
 | asg (i : Nat) (e : ME F)
 | asgT (is : List Nat) (e : ME F)
 | setA (o : ME F) (a : Nat) (e : ME F)
 | setI (o k e : ME F)
 | augL (i : Nat) (e : ME F)
 | ex (e : ME F)
 | ret (e : ME F)
 | ret0
 | ifs (c : ME F) (t e : List (MS F))
 | forN (i : Nat) (n : ME F) (b : List (MS F))
 | forR (i : Nat) (lo hi : ME F) (b : List (MS F))
 | forE (i : Nat) (it : ME F) (b : List (MS F))
 | forD (i : Nat) (it : ME F) (b : List (MS F))
 | raise (m : Nat)
 | bad
structure Ef (F : Type) where
 Ab : List Int
 bg : F8
 initOf : Pv -> F
 call : F -> List V -> M V
abbrev Env := List (Option V)
def C8 (v : V) : M (List V) := bnd (AJ v) fun c => match c with
 | .list xs => if xs.length <= Bz then ret xs else bad
 | _ => bad
def getD (v : V) : M (List (Nat × V)) := bnd (AJ v) fun c => match c with
 | .dictW kvs => if kvs.length < 100 then ret kvs else bad
 | _ => bad
def stays (v : V) (c : An) : M Unit := bnd (AJ v) fun c' => if c' = c then ret () else bad
def B3 (lo hi : Int) : List V := (List.range (hi - lo).toNat).map fun (k : Nat) => .int (lo + (k : Int))
def By (f : V -> M (Option V)) (post : M Unit) : List V -> M (List V)
 | [] => ret []
 | x :: r => bnd (f x) fun y => bnd post fun _ => bnd (By f post r) fun ys => ret (y.toList ++ ys)
def still {α : Type} (m : M α) : M α := fun H => match m H with
 | .exc _ _ => .bad
 | r => r
def J4 (m : M V) : M V := fun H => match m H with
 | .exc e H' => .ok (.w e) H'
 | r => r
section
variable {F : Type} (C : Ef F)
mutual
def Aa : ME F -> Env -> M V
 | .var i, env => Au (env[i]?).join
 | .cst v, _ => ret v
 | .usub k, _ => ret (.int (-(k : Int)))
 | .gmax, _ => ret (.int 1000000)
 | .attr e a, env => bnd (Aa e env) fun o => DF o a
 | .idx e i, env => bnd (Aa e env) fun o => bnd (Aa i env) fun k => EW o k
 | .cutTo e k, env => bnd (Aa e env) fun o => bnd (Aa k env) fun k => cutTo C.Ab o k
 | .cutFrom e k, env => bnd (Aa e env) fun o => bnd (Aa k env) fun k => cutFrom o k
 | .bin op a b, env => bnd (Aa a env) fun x => bnd (Aa b env) fun y => HK op x y
 | .cmp op a b, env => bnd (Aa a env) fun x => bnd (Aa b env) fun y => bnd (DM op x y) fun t => ret (.bool t)
 | .isNone neg e, env => bnd (Aa e env) fun x => ret (.bool (xor neg (decide (x = .none))))
 | .inW neg e ws, env => bnd (Aa e env) fun x => (match x with
  | .w i => ret (.bool (xor neg (ws.contains i)))
  | _ => Mine.bad)
 | .and2 a b, env => bnd (Aa a env) fun x => bnd (Aw x) fun t => if t then Aa b env else Mine.ret x
 | .or2 a b, env => bnd (Aa a env) fun x => bnd (Aw x) fun t => if t then Mine.ret x else Aa b env
 | .not a, env => bnd (Aa a env) fun x => bnd (Aw x) fun t => Mine.ret (.bool !t)
 | .ite c a b, env => bnd (Aa c env) fun x => bnd (Aw x) fun t => if t then Aa a env else Aa b env
 | .lst es, env => bnd (Ap es env) fun vs => if vs.length <= Bz then alloc (.list vs) else Mine.bad
 | .tup es, env => bnd (Ap es env) fun vs => if vs.length <= Bz then alloc (.tup vs) else Mine.bad
 | .dct0, _ => alloc (.dictW [])
 | .dct0I, _ => alloc (.dictI [])
 | .dct1 k e, env => bnd (alloc (.dictW [])) fun d => bnd (Aa e env) fun v => bnd (stays d (.dictW [])) fun _ => bnd (Dm d (.dictW [(k, v)])) fun _ => Mine.ret d
 | .call f es, env => bnd (Ap es env) fun vs => C.call f vs
 | .mk c es, env => bnd (Ap es env) fun vs => bnd (alloc (.inst c [])) fun o => bnd (still (C.call (C.initOf c) (o :: vs))) fun r =>
   if r = .none then Mine.ret o else Mine.bad
 | .len e, env => bnd (Aa e env) MA
 | .listOf e, env => bnd (Aa e env) LJ
 | .dictOf e, env => bnd (Aa e env) IN
 | .strOf e, env => bnd (Aa e env) OS
 | .max2 a b, env => bnd (Aa a env) fun x => bnd (Aa b env) fun y => QX x y
 | .isV e, env => bnd (Aa e env) FF
 | .isT e t, env => bnd (Aa e env) fun x => FH x t
 | .append o e, env => bnd (Aa o env) fun x => bnd (LY x) fun _ => bnd (Aa e env) fun y => E3 x y
 | .extend o e, env => bnd (Aa o env) fun x => bnd (LY x) fun _ => bnd (Aa e env) fun y => Ds x y
 | .pop o, env => bnd (Aa o env) MB
 | .reverse o, env => bnd (Aa o env) EU
 | .index o e, env => bnd (Aa o env) fun x => bnd (P7 x) fun t => bnd (Aa e env) fun y => Fb t x y
 | .get1 o k, env => bnd (Aa o env) fun x => bnd (N9 x) fun _ => bnd (Aa k env) fun y => LE x y .none
 | .get2 o k d, env => bnd (Aa o env) fun x => bnd (N9 x) fun _ => bnd (Aa k env) fun y => bnd (Aa d env) fun z => LE x y z
 | .starts o k, env => bnd (Aa o env) fun x => bnd (JH x) fun _ => bnd (Aa k env) fun y => CI C.bg x y
 | .mcall o f, env => bnd (Aa o env) fun x => bnd (FF x) fun _ => C.call f [x]
 | .comp elt it, env => bnd (Aa it env) fun l => bnd (AJ l) fun c => bnd (C8 l) fun xs =>
   bnd (still (By (fun x => bnd (Aa elt (env ++ [some x])) fun y => Mine.ret (some y)) (stays l c) xs)) fun ys => if ys.length <= Bz then alloc (.list ys) else Mine.bad
 | .compR elt n, env => bnd (Aa n env) fun k => (match k with
  | .int n => if 0 <= n /\ n <= Bz then bnd (still (By (fun x => bnd (Aa elt (env ++ [some x])) fun y => Mine.ret (some y)) (Mine.ret ()) (B3 0 n))) fun ys => if ys.length <= Bz then alloc (.list ys) else Mine.bad else Mine.bad
  | _ => Mine.bad)
 | .compIf elt cond n, env => bnd (Aa n env) fun k => (match k with
  | .int n => if 0 <= n /\ n <= Bz then bnd (still (By (fun x => bnd (Aa cond (env ++ [some x])) fun c => bnd (Aw c) fun t => if t then bnd (Aa elt (env ++ [some x])) fun y => Mine.ret (some y) else Mine.ret Option.none) (Mine.ret ()) (B3 0 n))) fun ys => if ys.length <= Bz then alloc (.list ys) else Mine.bad else Mine.bad
  | _ => Mine.bad)
 | .dcomp v it, env => bnd (Aa it env) fun l => bnd (getD l) fun kvs => bnd (Dm l (.dictP kvs)) fun _ =>
   bnd (alloc (.dictW [])) fun d =>
   bnd (still (By (fun x => bnd (Aa v (env ++ [some x])) fun y => bnd (Cw d x y) fun _ => Mine.ret Option.none) (stays l (.dictP kvs)) (kvs.map fun p => .w p.1))) fun _ =>
   bnd (Dm l (.dictW kvs)) fun _ => Mine.ret d
 | .kept e, env => fun H => if H[0]? = some .tab then J4 (Aa e env) H else .bad
 | .bad, _ => Mine.bad
def Ap : List (ME F) -> Env -> M (List V)
 | [], _ => ret []
 | e :: r, env => bnd (Aa e env) fun v => bnd (Ap r env) fun vs => ret (v :: vs)
end
def BD : List Nat -> List V -> Env -> Option Env
 | [], [], env => some env
 | i :: is, v :: vs, env => BD is vs (env.set i (some v))
 | _, _, _ => Option.none
def CG (f : V -> Env -> M (Env × Option V)) (post : M Unit) : List V -> Env -> M (Env × Option V)
 | [], env => ret (env, Option.none)
 | x :: r, env => bnd (f x env) fun p => (match p.2 with
  | some v => ret (p.1, some v)
  | Option.none => bnd post fun _ => CG f post r p.1)
mutual
def Ai : MS F -> Env -> M (Env × Option V)
 | .asg i e, env => bnd (Aa C e env) fun v => ret (env.set i (some v), Option.none)
 | .asgT is e, env => bnd (Aa C e env) fun v => bnd (AJ v) fun c => (match c with
  | .tup xs => bnd (Au (BD is xs env)) fun Aj => ret (Aj, Option.none)
  | _ => Mine.bad)
 | .setA o a e, env => bnd (Aa C e env) fun v => bnd (Aa C o env) fun x => bnd (FL x a v) fun _ => ret (env, Option.none)
 | .setI o k e, env => bnd (Aa C e env) fun v => bnd (Aa C o env) fun x => bnd (Aa C k env) fun i => bnd (Cw x i v) fun _ => ret (env, Option.none)
 | .augL i e, env => bnd (Au (env[i]?).join) fun o => bnd (Aa C e env) fun v => bnd (Ds o v) fun _ => ret (env, Option.none)
 | .ex e, env => bnd (Aa C e env) fun _ => ret (env, Option.none)
 | .ret e, env => bnd (Aa C e env) fun v => ret (env, some v)
 | .ret0, env => ret (env, some .none)
 | .ifs c t e, env => bnd (Aa C c env) fun x => bnd (Aw x) fun b => if b then Ae t env else Ae e env
 | .forN i n b, env => bnd (Aa C n env) fun k => (match k with
  | .int n => if 0 <= n /\ n <= Bz then CG (fun x env => Ae b (env.set i (some x))) (ret ()) (B3 0 n) env else Mine.bad
  | _ => Mine.bad)
 | .forR i lo hi b, env => bnd (Aa C lo env) fun a => bnd (Aa C hi env) fun z => (match a, z with
  | .int a, .int z => if 0 <= a /\ a <= Bz /\ 0 <= z /\ z <= Bz then still <| CG (fun x env => Ae b (env.set i (some x))) (ret ()) (B3 a z) env else Mine.bad
  | _, _ => Mine.bad)
 | .forE i it b, env => bnd (Aa C it env) fun l => bnd (AJ l) fun c => bnd (C8 l) fun xs => still (CG (fun x env => Ae b (env.set i (some x))) (stays l c) xs env)
 | .forD i it b, env => bnd (Aa C it env) fun l => bnd (getD l) fun kvs => bnd (Dm l (.dictP kvs)) fun _ =>
   bnd (still (CG (fun x env => Ae b (env.set i (some x))) (stays l (.dictP kvs)) (kvs.map fun p => .w p.1) env)) fun r =>
   (match r.2 with
    | some _ => Mine.bad
    | Option.none => bnd (Dm l (.dictW kvs)) fun _ => ret r)
 | .raise m, _ => Pt m
 | .bad, _ => Mine.bad
def Ae : List (MS F) -> Env -> M (Env × Option V)
 | [], env => ret (env, Option.none)
 | s :: r, env => bnd (Ai s env) fun p => (match p.2 with
  | some v => ret (p.1, some v)
  | Option.none => Ae r p.1)
end
end
structure AK (F : Type) where
 params : Nat
 dflt : List V
 vars : Nat
 body : List (MS F)
def Ee {F : Type} (P : F -> AK F) (Ab : List Int) (bg : F8) (initOf : Pv -> F) : Nat -> F -> List V -> M V
 | 0, _, _ => bad
 | d + 1, f, args =>
  let fd := P f
  let vs := args ++ fd.dflt.drop (args.length + fd.dflt.length - fd.params)
  if vs.length = fd.params /\ args.length + fd.dflt.length ≥ fd.params then
   bnd (Ae { Ab := Ab, bg := bg, initOf := initOf, call := Ee P Ab bg initOf d } fd.body (vs.map some ++ List.replicate (fd.vars - fd.params) Option.none)) fun p =>
    ret (p.2.getD .none)
  else bad
inductive Fn where
 | CA | BI | A3 | Eb | Av | BS | AD | Br | Gu | CN | BM | Cf | Cn | AQ | Dq | BL | BF | DD | Cr | AT | Ca | Cu | DA | A6 | Bu | BO | CC | Ch | Bj | A9 | Ad | CO | Bb | AM | Bl | Bx | Ct | CS | AE | Cv | Bw | BH | BP | Bt | Bk | AB | Bs | A1 | AL | CY | Ag | Am | BR | A7 | BV | Bv | B6 | AA | AW | AO | BQ | AG | Bq
open Fn
def OD : List String := ["kind", "items", "attrs", "shared", "loose", "names", "NULL", "list", "integer", "character", "NA", "refused", "a", "b", "ab", "abc", "", "z", "w", "expression", "pairlist", "language", "environment", "logical", "double", "dim", "attempt to select less than one element", "symbol", "subscript out of bounds", "missing", "$ operator is invalid for atomic vectors", "dimnames", "S4", "replacement has length zero", "more elements supplied than there are to replace", "name", "no such index at level 1", "Coercing LHS to a list"]
def HR : List (Nat × Nat) := [(12, 12), (12, 16), (13, 13), (13, 16), (14, 12), (14, 14), (14, 16), (15, 12), (15, 14), (15, 15), (15, 16), (16, 16), (17, 16), (17, 17)]
def G9 : AK Fn := ⟨1, [], 1, [.setA (.var 0) 0 (.cst (.w 6)), .setA (.var 0) 2 (.cst .none)]⟩
def Ev : AK Fn := ⟨4, [.none], 4, [.setA (.var 0) 0 (.var 1), .setA (.var 0) 1 (.var 2), .setA (.var 0) 2 (.var 3), .setA (.var 0) 3 (.cst (.bool false)), .setA (.var 0) 4 (.cst (.bool false))]⟩
def Et : AK Fn := ⟨1, [], 2, [.asg 1 (.cst .none), .ifs (.isNone true (.attr (.var 0) 2)) [.asg 1 (.dictOf (.attr (.var 0) 2))] [],
   .ret (.mk .vector [.attr (.var 0) 0, .listOf (.attr (.var 0) 1), .var 1])]⟩
def Nm : AK Fn := ⟨1, [], 1, [.ifs (.cmp .gt (.var 0) (.gmax)) [.bad] [],
   .ret (.var 0)]⟩
def Hf : AK Fn := ⟨1, [], 1, [.ret (.mk .vector [.cst (.w 9), .listOf (.var 0)])]⟩
def HP : AK Fn := ⟨1, [], 2, [.asg 1 (.attr (.var 0) 0), .ifs (.cmp .eq (.var 1) (.cst (.w 6))) [.ret (.cst (.int 0))] [],
   .ifs (.or2 (.isV (.var 0)) (.cmp .eq (.var 1) (.cst (.w 21)))) [.ret (.len (.attr (.var 0) 1))] [],
   .bad]⟩
def Hp : AK Fn := ⟨1, [], 1, [.ret (.isV (.var 0))]⟩
def He : AK Fn := ⟨1, [], 1, [.ret (.inW false (.attr (.var 0) 0) [23, 8, 24, 9])]⟩
def Mt : AK Fn := ⟨1, [], 1, [.ifs (.attr (.var 0) 4) [.bad] [],
   .ret (.mcall (.var 0) .A3)]⟩
def LA : AK Fn := ⟨1, [], 1, [.ifs (.isV (.var 0)) [.setA (.var 0) 3 (.cst (.bool true))] [],
   .ret (.var 0)]⟩
def FI : AK Fn := ⟨2, [], 2, [.ifs (.isNone false (.attr (.var 0) 2)) [.ret (.cst .none)] [],
   .ret (.get1 (.attr (.var 0) 2) (.var 1))]⟩
def E5 : AK Fn := ⟨2, [], 2, [.ifs (.and2 (.isNone true (.attr (.var 0) 2)) (.cmp .isin (.var 1) (.attr (.var 0) 2))) [.bad] []]⟩
def FN : AK Fn := ⟨3, [], 3, [.ifs (.isNone false (.attr (.var 0) 2)) [.setA (.var 0) 2 (.dct0)] [],
   .setI (.attr (.var 0) 2) (.var 1) (.call .CN [.var 2])]⟩
def F6 : AK Fn := ⟨1, [], 5, [.ifs (.cmp .eq (.attr (.var 0) 0) (.cst (.w 21))) [.bad] [],
   .ifs (.cmp .eq (.attr (.var 0) 0) (.cst (.w 22))) [.bad] [],
   .asg 2 (.call .Dq [.var 0]), .ifs (.and2 (.isNone true (.var 2)) (.cmp .eq (.len (.var 2)) (.cst (.int 1)))) [.bad] [],
   .asg 4 (.call .BM [.var 0, .cst (.w 5)]), .ifs (.isNone false (.var 4)) [.ret (.cst .none)] [],
   .ret (.listOf (.attr (.var 4) 1))]⟩
def J3 : AK Fn := ⟨1, [], 2, [.asg 1 (.call .BM [.var 0, .cst (.w 25)]), .ifs (.isNone false (.var 1)) [.ret (.cst .none)] [],
   .bad]⟩
def EL : AK Fn := ⟨1, [], 2, [.asg 1 (.tup [.cst (.w 6), .cst (.w 23), .cst (.w 8), .cst (.w 24), .cst (.w 9), .cst (.w 7), .cst (.w 19)]), .ifs (.cmp .isin (.var 0) (.var 1)) [.ret (.index (.var 1) (.var 0))] [],
   .bad]⟩
def FQ : AK Fn := ⟨1, [], 4, [.asg 1 (.tup [.cst (.w 6), .cst (.w 23), .cst (.w 8), .cst (.w 24), .cst (.w 9), .cst (.w 7), .cst (.w 19)]), .asg 2 (.cst (.int 0)), .forE 3 (.var 0) [.asg 2 (.max2 (.var 2) (.call .BL [.var 3]))],
   .ret (.idx (.var 1) (.var 2))]⟩
def Iq : AK Fn := ⟨2, [], 2, [.ifs (.or2 (.isNone false (.var 1)) (.cmp .eq (.var 0) (.cst (.w 9)))) [.bad] [],
   .ifs (.cmp .eq (.var 0) (.cst (.w 23))) [.bad] [],
   .ifs (.cmp .eq (.var 0) (.cst (.w 8))) [.ret (.strOf (.var 1))] [],
   .bad]⟩
def GK : AK Fn := ⟨4, [], 4, [.ifs (.cmp .eq (.var 0) (.var 2)) [.bad] [],
   .ifs (.or2 (.cmp .eq (.var 2) (.cst (.w 7))) (.or2 (.cmp .eq (.var 2) (.cst (.w 19))) (.cmp .eq (.var 2) (.cst (.w 20))))) [.ret (.ite (.call .AT [.var 0]) (.call .CN [.mk .vector [.var 0, .lst [.var 1]]]) (.var 1))] [],
   .ifs (.not (.call .AT [.var 0])) [.bad] [],
   .ifs (.cmp .eq (.var 2) (.cst (.w 23))) [.bad] [],
   .ifs (.cmp .eq (.var 2) (.cst (.w 8))) [.bad] [],
   .ifs (.cmp .eq (.var 2) (.cst (.w 24))) [.bad] [],
   .ret (.call .DD [.var 0, .var 1])]⟩
def EB : AK Fn := ⟨1, [], 1, [.ret (.inW false (.var 0) [23, 8, 24, 9])]⟩
def EG : AK Fn := ⟨2, [], 2, [.ifs (.isNone true (.var 1)) [.setA (.var 0) 2 (.dct1 5 (.call .CN [.call .Av [.var 1]]))] [],
   .ret (.var 0)]⟩
def GG : AK Fn := ⟨3, [], 4, [.ifs (.not (.isV (.var 0))) [.bad] [],
   .asg 3 (.attr (.var 0) 1), .ifs (.cmp .ne (.attr (.var 0) 0) (.var 1)) [.asg 3 (.comp (.call .Cr [.attr (.var 0) 0, .var 4, .var 1, .var 2]) (.attr (.var 0) 1))] [],
   .ret (.call .Ca [.mk .vector [.var 1, .listOf (.var 3)],
   .call .AQ [.var 0]])]⟩
def Jw : AK Fn := ⟨1, [], 1, [.ret (.call .Cu [.var 0, .cst (.w 7), .lst []])]⟩
def Dl : AK Fn := ⟨1, [], 3, [.ifs (.cmp .eq (.attr (.var 0) 0) (.cst (.w 8))) [.ret (.attr (.var 0) 1)] [],
   .bad]⟩
def D9 : AK Fn := ⟨1, [], 4, [.asg 1 (.dct0), .ifs (.isNone true (.var 0)) [.forN 2 (.len (.var 0)) [.asg 3 (.idx (.var 0) (.var 2)), .ifs (.and2 (.isNone true (.var 3)) (.and2 (.cmp .ne (.var 3) (.cst (.w 16))) (.cmp .notin (.var 3) (.var 1)))) [.setI (.var 1) (.var 3) (.var 2)] []]] [],
   .ret (.var 1)]⟩
def Cm : AK Fn := ⟨2, [], 5, [.asg 2 (.call .Bu [.var 1]), .ifs (.cmp .isin (.var 0) (.var 2)) [.ret (.idx (.var 2) (.var 0))] [],
   .asg 3 (.usub 1), .ifs (.or2 (.isNone false (.var 1)) (.cmp .eq (.var 0) (.cst (.w 16)))) [.ret (.usub 1)] [],
   .forN 4 (.len (.var 1)) [.ifs (.and2 (.isNone true (.idx (.var 1) (.var 4))) (.starts (.idx (.var 1) (.var 4)) (.var 0))) [.ifs (.cmp .ge (.var 3) (.cst (.int 0))) [.ret (.usub 1)] [],
   .asg 3 (.var 4)] []],
   .ret (.var 3)]⟩
def DC : AK Fn := ⟨3, [], 3, [.ifs (.isNone false (.var 0)) [.bad] [],
   .ifs (.not (.var 2)) [.ret (.call .BO [.var 0, .var 1])] [],
   .ret (.get2 (.call .Bu [.var 1]) (.var 0) (.usub 1))]⟩
def Ei : AK Fn := ⟨2, [], 2, [.ifs (.isNone false (.var 0)) [.ret (.cst .none)] [],
   .ifs (.cmp .gt (.var 0) (.cst (.int 0))) [.ret (.bin .sub (.var 0) (.cst (.int 1)))] [],
   .ifs (.cmp .eq (.var 0) (.cst (.int 0))) [.raise 26] [],
   .bad]⟩
def DL : AK Fn := ⟨4, [], 5, [.asg 4 (.attr (.var 0) 0), .ifs (.cmp .eq (.var 4) (.cst (.w 27))) [.bad] [],
   .ifs (.inW true (.var 4) [23, 8, 24, 9]) [.bad] [],
   .ifs (.cmp .eq (.len (.attr (.var 0) 1)) (.cst (.int 0))) [.bad] [],
   .ifs (.cmp .gt (.len (.attr (.var 0) 1)) (.cst (.int 1))) [.bad] [],
   .ifs (.cmp .eq (.var 4) (.cst (.w 9))) [.ret (.call .CC [.idx (.attr (.var 0) 1) (.cst (.int 0)), .var 2, .var 3])] [],
   .ifs (.cmp .eq (.var 4) (.cst (.w 23))) [.bad] [],
   .ret (.call .Ch [.idx (.call .A6 [.var 0]) (.cst (.int 0)), .var 1])]⟩
def Ea : AK Fn := ⟨1, [], 1, [.ifs (.inW false (.var 0) [7, 19, 20]) [.ret (.mk .null [])] [],
   .ret (.cst .none)]⟩
def Fk : AK Fn := ⟨1, [], 1, [.ret (.inW false (.var 0) [7, 19, 20])]⟩
def FW : AK Fn := ⟨2, [], 2, [.ifs (.call .Ad [.attr (.var 0) 0]) [.ret (.idx (.attr (.var 0) 1) (.var 1))] [],
   .ret (.mk .vector [.attr (.var 0) 0, .lst [.idx (.attr (.var 0) 1) (.var 1)]])]⟩
def AU : AK Fn := ⟨3, [], 5, [.asg 3 (.len (.attr (.var 0) 1)), .asg 4 (.call .Bj [.var 1, .var 3, .call .AQ [.var 0],
   .var 2]), .ifs (.isNone false (.var 4)) [.ifs (.call .Ad [.attr (.var 0) 0]) [.ret (.mk .null [])] [],
   .ret (.mk .vector [.attr (.var 0) 0, .lst [.cst .none]])] [],
   .ifs (.and2 (.cmp .lt (.var 4) (.cst (.int 0))) (.call .Ad [.attr (.var 0) 0])) [.ret (.mk .null [])] [],
   .ifs (.or2 (.cmp .lt (.var 4) (.cst (.int 0))) (.cmp .ge (.var 4) (.var 3))) [.raise 28] [],
   .ret (.call .CO [.var 0, .var 4])]⟩
def Cs : AK Fn := ⟨3, [], 5, [.ifs (.cmp .eq (.attr (.var 0) 0) (.cst (.w 6))) [.ret (.mk .null [])] [],
   .ifs (.cmp .eq (.attr (.var 0) 0) (.cst (.w 22))) [.bad] [],
   .ifs (.cmp .eq (.attr (.var 0) 0) (.cst (.w 21))) [.bad] [],
   .ifs (.not (.call .AD [.var 0])) [.bad] [],
   .ret (.call .Bb [.var 0, .var 1, .var 2])]⟩
def F5 : AK Fn := ⟨1, [], 1, [.ret (.comp (.mk .vector [.attr (.var 0) 0, .lst [.var 1]]) (.attr (.var 0) 1))]⟩
def EZ : AK Fn := ⟨1, [], 1, [.ret (.and2 (.call .AD [.var 0]) (.and2 (.not (.call .Ad [.attr (.var 0) 0])) (.cmp .gt (.len (.attr (.var 0) 1)) (.cst (.int 1)))))]⟩
def DX : AK Fn := ⟨3, [], 6, [.ifs (.or2 (.cmp .eq (.len (.var 1)) (.cst (.int 0))) (.cmp .eq (.attr (.idx (.var 1) (.cst (.int 0))) 0) (.cst (.w 29)))) [.bad] [],
   .ifs (.cmp .gt (.len (.var 1)) (.cst (.int 1))) [.bad] [],
   .asg 3 (.idx (.var 1) (.cst (.int 0))), .ifs (.or2 (.not (.call .Bx [.var 3])) (.not (.or2 (.call .Ad [.attr (.var 0) 0]) (.cmp .eq (.attr (.var 0) 0) (.cst (.w 21)))))) [.ret (.call .AM [.var 0, .var 3, .var 2])] [],
   .asg 4 (.call .Bl [.var 3]), .forN 5 (.len (.var 4)) [.ifs (.cmp .eq (.attr (.var 0) 0) (.cst (.w 6))) [.raise 28] [],
   .asg 0 (.call .AM [.var 0, .idx (.var 4) (.var 5), .var 2])],
   .ret (.var 0)]⟩
def ES : AK Fn := ⟨2, [], 4, [.ifs (.cmp .eq (.attr (.var 0) 0) (.cst (.w 6))) [.ret (.mk .null [])] [],
   .ifs (.cmp .eq (.attr (.var 0) 0) (.cst (.w 22))) [.bad] [],
   .ifs (.cmp .eq (.attr (.var 0) 0) (.cst (.w 21))) [.bad] [],
   .ifs (.not (.call .AD [.var 0])) [.bad] [],
   .ifs (.not (.call .Ad [.attr (.var 0) 0])) [.raise 30] [],
   .ret (.call .Bb [.var 0, .call .Av [.lst [.var 1]],
   .cst (.bool false)])]⟩
def CP : AK Fn := ⟨3, [], 3, [.ifs (.or2 (.cmp .eq (.attr (.var 0) 0) (.var 1)) (.and2 (.call .Ad [.attr (.var 0) 0]) (.call .Ad [.var 1]))) [.ret (.attr (.var 0) 1)] [],
   .ifs (.call .Ad [.var 1]) [.ret (.attr (.call .DA [.var 0]) 1)] [],
   .ret (.attr (.call .Cu [.var 0, .var 1, .var 2]) 1)]⟩
def Gh : AK Fn := ⟨3, [], 4, [.ifs (.cmp .eq (.attr (.var 0) 0) (.var 1)) [.ret (.call .Gu [.var 0])] [],
   .asg 3 (.cst .none), .ifs (.isNone true (.attr (.var 0) 2)) [.asg 3 (.dictOf (.attr (.var 0) 2))] [],
   .ret (.mk .vector [.var 1, .listOf (.call .AE [.var 0, .var 1, .var 2]), .var 3])]⟩
def CK : AK Fn := ⟨4, [], 7, [.asg 4 (.len (.attr (.var 0) 1)), .forR 5 (.var 4) (.call .Eb [.var 1]) [.ex (.append (.attr (.var 0) 1) (.call .A9 [.attr (.var 0) 0]))],
   .ex (.call .Cf [.var 0, .cst (.w 25)]), .ex (.call .Cf [.var 0, .cst (.w 31)]), .ifs (.and2 (.isNone false (.var 2)) (.isNone false (.var 3))) [.ret0] [],
   .asg 6 (.bin .mul (.lst [.cst (.w 16)]) (.var 4)), .ifs (.isNone true (.var 2)) [.asg 6 (.listOf (.var 2))] [],
   .ifs (.isNone true (.var 3)) [.ex (.extend (.var 6) (.var 3))] [],
   .ex (.extend (.var 6) (.bin .mul (.lst [.cst (.w 16)]) (.bin .sub (.var 1) (.len (.var 6))))), .ex (.call .Cn [.var 0, .cst (.w 5), .call .Av [.var 6]])]⟩
def FU : AK Fn := ⟨1, [], 3, [.asg 1 (.cst (.int 0)), .forE 2 (.var 0) [.ifs (.and2 (.isNone true (.var 2)) (.cmp .ge (.var 2) (.var 1))) [.asg 1 (.bin .add (.var 2) (.cst (.int 1)))] []],
   .ret (.var 1)]⟩
def DZ : AK Fn := ⟨2, [], 12, [.asg 2 (.call .AQ [.var 0]), .asg 3 (.call .Eb [.max2 (.len (.attr (.var 0) 1)) (.call .BH [.var 1])]), .asg 4 .dct0I, .forE 5 (.var 1) [.ifs (.isNone true (.var 5)) [.setI (.var 4) (.var 5) (.cst (.bool true))] []],
   .asg 6 (.lst []), .asg 7 (.lst []), .forN 8 (.var 3) [.ifs (.cmp .notin (.var 8) (.var 4)) [.asg 9 (.cmp .lt (.var 8) (.len (.attr (.var 0) 1))), .ex (.append (.var 6) (.ite (.var 9) (.idx (.attr (.var 0) 1) (.var 8)) (.mk .null []))), .ifs (.isNone true (.var 2)) [.ex (.append (.var 7) (.ite (.var 9) (.idx (.var 2) (.var 8)) (.cst (.w 16))))] []] []],
   .asg 10 (.mk .vector [.attr (.var 0) 0, .var 6]), .ifs (.isNone true (.attr (.var 0) 2)) [.forD 11 (.attr (.var 0) 2) [.ifs (.inW true (.var 11) [5, 25, 31]) [.bad] []]] [],
   .ifs (.isNone true (.var 2)) [.ex (.call .Cn [.var 10, .cst (.w 5), .call .Av [.var 7]])] [],
   .ret (.var 10)]⟩
def Dt : AK Fn := ⟨2, [], 2, [.ifs (.call .Ad [.attr (.var 0) 0]) [.ret (.attr (.var 0) 0)] [],
   .ifs (.call .Br [.var 1]) [.ret (.call .BF [.lst [.attr (.var 0) 0, .attr (.var 1) 0]])] [],
   .ifs (.or2 (.call .Ad [.attr (.var 1) 0]) (.inW false (.attr (.var 1) 0) [27, 21, 32])) [.ret (.cst (.w 7))] [],
   .bad]⟩
def A8 : AK Fn := ⟨5, [], 9, [.asg 5 (.call .AQ [.var 0]), .ifs (.not (.call .Ad [.attr (.var 0) 0])) [.ifs (.cmp .eq (.call .BS [.var 3]) (.cst (.int 0))) [.raise 33] [],
   .ifs (.cmp .gt (.call .BS [.var 3]) (.cst (.int 1))) [.raise 34] []] [],
   .asg 6 (.call .Bt [.var 0, .var 3]), .asg 7 (.call .Cv [.var 0, .var 6, .var 4]), .ifs (.cmp .ge (.var 1) (.len (.attr (.var 7) 1))) [.asg 8 (.cst .none), .ifs (.isNone true (.var 2)) [.asg 8 (.lst [.var 2])] [],
   .ex (.call .Bw [.var 7, .bin .add (.var 1) (.cst (.int 1)), .var 5, .var 8])] [],
   .ifs (.call .Ad [.var 6]) [.setI (.attr (.var 7) 1) (.var 1) (.call .CN [.var 3])] [.setI (.attr (.var 7) 1) (.var 1) (.idx (.call .AE [.var 3, .var 6, .var 4]) (.cst (.int 0)))],
   .ret (.var 7)]⟩
def AN : AK Fn := ⟨4, [], 8, [.ifs (.cmp .eq (.attr (.var 0) 0) (.cst (.w 6))) [.ifs (.cmp .eq (.attr (.var 2) 0) (.cst (.w 6))) [.ret (.var 0)] [],
   .asg 4 (.cst (.w 7)), .ifs (.and2 (.call .Br [.var 2]) (.cmp .eq (.len (.attr (.var 2) 1)) (.cst (.int 1)))) [.asg 4 (.attr (.var 2) 0)] [],
   .asg 0 (.mk .vector [.var 4, .lst []])] [],
   .asg 5 (.len (.attr (.var 0) 1)), .asg 6 (.call .Bj [.var 1, .var 5, .call .AQ [.var 0],
   .cst (.bool true)]), .ifs (.isNone false (.var 6)) [.raise 28] [],
   .ifs (.and2 (.cmp .eq (.attr (.var 2) 0) (.cst (.w 6))) (.call .Ad [.attr (.var 0) 0])) [.ifs (.or2 (.cmp .lt (.var 6) (.cst (.int 0))) (.cmp .ge (.var 6) (.var 5))) [.ret (.var 0)] [],
   .ret (.call .BP [.var 0, .lst [.var 6]])] [],
   .asg 7 (.cst .none), .ifs (.cmp .lt (.var 6) (.cst (.int 0))) [.asg 6 (.var 5), .asg 7 (.ite (.cmp .eq (.attr (.var 1) 0) (.cst (.w 27))) (.attr (.var 1) 35) (.idx (.attr (.var 1) 1) (.cst (.int 0))))] [],
   .ret (.call .Bk [.var 0, .var 6, .var 7, .var 2, .var 3])]⟩
def BK : AK Fn := ⟨4, [], 5, [.ifs (.cmp .eq (.attr (.var 0) 0) (.cst (.w 21))) [.bad] [],
   .ifs (.and2 (.cmp .ne (.attr (.var 0) 0) (.cst (.w 6))) (.not (.call .AD [.var 0]))) [.bad] [],
   .ifs (.cmp .eq (.len (.var 1)) (.cst (.int 1))) [.ret (.call .AB [.var 0, .idx (.var 1) (.cst (.int 0)), .var 2, .var 3])] [],
   .asg 4 (.call .AM [.var 0, .idx (.var 1) (.cst (.int 0)), .cst (.bool true)]), .ifs (.cmp .eq (.attr (.var 4) 0) (.cst (.w 6))) [.raise 36] [],
   .ret (.call .AB [.var 0, .idx (.var 1) (.cst (.int 0)), .call .Bs [.var 4, .cutFrom (.var 1) (.cst (.int 1)), .var 2, .var 3],
   .var 3])]⟩
def Cz : AK Fn := ⟨4, [], 6, [.ifs (.or2 (.cmp .eq (.len (.var 1)) (.cst (.int 0))) (.cmp .eq (.attr (.idx (.var 1) (.cst (.int 0))) 0) (.cst (.w 29)))) [.bad] [],
   .ifs (.cmp .gt (.len (.var 1)) (.cst (.int 1))) [.bad] [],
   .asg 5 (.idx (.var 1) (.cst (.int 0))), .ifs (.and2 (.call .Bx [.var 5]) (.or2 (.call .Ad [.attr (.var 0) 0]) (.cmp .eq (.attr (.var 0) 0) (.cst (.w 21))))) [.ret (.call .Bs [.var 0, .call .Bl [.var 5],
   .var 2, .var 3])] [],
   .ret (.call .Bs [.var 0, .lst [.var 5],
   .var 2, .var 3])]⟩
def Bm : AK Fn := ⟨4, [], 4, [.ifs (.cmp .eq (.attr (.var 0) 0) (.cst (.w 21))) [.bad] [],
   .ifs (.cmp .eq (.attr (.var 0) 0) (.cst (.w 6))) [.asg 0 (.mk .vector [.cst (.w 7), .lst []])] [],
   .ifs (.not (.call .AD [.var 0])) [.bad] [],
   .ifs (.not (.call .Ad [.attr (.var 0) 0])) [.ifs (.cmp .gt (.len (.attr (.var 0) 1)) (.cst (.int 0))) [.ex (.append (.var 3) (.cst (.w 37)))] [],
   .asg 0 (.call .Cv [.var 0, .cst (.w 7), .var 3])] [],
   .ret (.call .AB [.var 0, .call .Av [.lst [.var 1]],
   .var 2, .var 3])]⟩
def Mx : AK Fn := ⟨1, [], 5, [.asg 1 (.lst []), .forE 2 (.cutTo (.var 0) (.cst (.int 40))) [.asg 3 (.ite (.cmp .ge (.var 2) (.cst (.int 0))) (.var 2) (.bin .sub (.cst (.int 7)) (.var 2))), .ex (.append (.var 1) (.bin .mod (.var 3) (.cst (.int 1024)))), .asg 3 (.bin .fdiv (.var 3) (.cst (.int 1024))), .forN 4 (.cst (.int 30)) [.ifs (.cmp .gt (.var 3) (.cst (.int 0))) [.ex (.append (.var 1) (.bin .mod (.var 3) (.cst (.int 1024)))), .asg 3 (.bin .fdiv (.var 3) (.cst (.int 1024)))] []]],
   .asg 1 (.cutTo (.var 1) (.cst (.int 160))), .ex (.reverse (.var 1)), .ret (.var 1)]⟩
def FC : AK Fn := ⟨1, [], 1, [.ret (.ite (.cmp .ne (.var 0) (.lst [])) (.pop (.var 0)) (.cst (.int 0)))]⟩
def FM : AK Fn := ⟨1, [], 2, [.ifs (.isT (.var 0) .str) [.bad] [],
   .ifs (.cmp .eq (.attr (.var 0) 0) (.cst (.w 6))) [.ret (.cst (.w 6))] [],
   .asg 1 (.dct0), .ifs (.isNone true (.attr (.var 0) 2)) [.asg 1 (.dcomp (.call .Am [.idx (.attr (.var 0) 2) (.var 2)]) (.attr (.var 0) 2))] [],
   .ifs (.inW false (.attr (.var 0) 0) [7, 19, 20]) [.ret (.tup [.attr (.var 0) 0, .comp (.call .Am [.var 2]) (.attr (.var 0) 1), .var 1])] [],
   .ret (.tup [.attr (.var 0) 0, .listOf (.attr (.var 0) 1), .var 1])]⟩
def Hd : AK Fn := ⟨2, [], 2, [.ret (.compR (.idx (.lst [.cst (.w 12), .cst (.w 13), .cst (.w 14), .cst (.w 16), .cst .none, .cst (.w 15)]) (.bin .mod (.call .Ag [.var 0]) (.cst (.int 6)))) (.var 1))]⟩
def K7 : AK Fn := ⟨2, [], 6, [.asg 2 (.bin .mod (.call .Ag [.var 0]) (.ite (.cmp .gt (.var 1) (.cst (.int 0))) (.cst (.int 5)) (.cst (.int 3)))), .ifs (.cmp .eq (.var 2) (.cst (.int 2))) [.ret (.mk .null [])] [],
   .ifs (.cmp .gt (.var 2) (.cst (.int 2))) [.asg 3 (.compR (.call .A7 [.var 0, .bin .sub (.var 1) (.cst (.int 1))]) (.bin .mod (.call .Ag [.var 0]) (.cst (.int 4)))), .asg 4 (.mk .vector [.cst (.w 7), .var 3])] [.asg 5 (.bin .add (.cst (.int 1)) (.bin .mod (.call .Ag [.var 0]) (.cst (.int 3)))), .asg 4 (.mk .vector [.idx (.lst [.cst (.w 8), .cst (.w 9)]) (.var 2), .compR (.idx (.lst [.bin .mod (.call .Ag [.var 0]) (.cst (.int 50)), .cst (.w 18)]) (.var 2)) (.var 5)])],
   .ifs (.cmp .eq (.bin .mod (.call .Ag [.var 0]) (.cst (.int 2))) (.cst (.int 1))) [.setA (.var 4) 2 (.dct1 5 (.mk .vector [.cst (.w 9), .call .BR [.var 0, .len (.attr (.var 4) 1)]]))] [],
   .ret (.var 4)]⟩
def K0 : AK Fn := ⟨1, [], 4, [.asg 1 (.bin .mod (.call .Ag [.var 0]) (.cst (.int 6))), .ifs (.cmp .eq (.var 1) (.cst (.int 4))) [.ret (.mk .vector [.cst (.w 8), .compR (.bin .mod (.call .Ag [.var 0]) (.cst (.int 9))) (.bin .mod (.call .Ag [.var 0]) (.cst (.int 4)))])] [],
   .ifs (.cmp .eq (.var 1) (.cst (.int 5))) [.ret (.mk .null [])] [],
   .asg 2 (.bin .mod (.call .Ag [.var 0]) (.cst (.int 4))), .asg 3 (.mk .vector [.cst (.w 7), .compR (.call .A7 [.var 0, .cst (.int 1)]) (.var 2)]), .ifs (.cmp .eq (.bin .mod (.call .Ag [.var 0]) (.cst (.int 2))) (.cst (.int 1))) [.setA (.var 3) 2 (.dct1 5 (.mk .vector [.cst (.w 9), .call .BR [.var 0, .var 2]]))] [],
   .ret (.var 3)]⟩
def Dr : AK Fn := ⟨1, [], 1, [.ret (.ite (.and2 (.cmp .ne (.var 0) (.cst (.w 6))) (.cmp .isin (.cst (.w 5)) (.idx (.var 0) (.cst (.int 2))))) (.listOf (.idx (.idx (.idx (.var 0) (.cst (.int 2))) (.cst (.w 5))) (.cst (.int 1)))) (.cst .none))]⟩
def Ci : AK Fn := ⟨3, [], 5, [.ifs (.isT (.var 1) .int) [.ret (.ite (.cmp .eq (.var 1) (.cst (.int 0))) (.cst (.w 26)) (.bin .sub (.var 1) (.cst (.int 1))))] [],
   .asg 3 (.call .Bv [.var 0]), .ifs (.or2 (.cmp .eq (.var 1) (.cst (.w 16))) (.isNone false (.var 3))) [.ret (.usub 1)] [],
   .ifs (.cmp .isin (.var 1) (.var 3)) [.ret (.index (.var 3) (.var 1))] [],
   .asg 4 (.compIf (.var 5) (.and2 (.isNone true (.idx (.var 3) (.var 5))) (.starts (.idx (.var 3) (.var 5)) (.var 1))) (.len (.var 3))), .ret (.ite (.and2 (.not (.var 2)) (.cmp .eq (.len (.var 4)) (.cst (.int 1)))) (.idx (.var 4) (.cst (.int 0))) (.usub 1))]⟩
def Bh : AK Fn := ⟨3, [], 7, [.ifs (.cmp .eq (.var 0) (.cst (.w 6))) [.ret (.cst (.w 6))] [],
   .asgT [3, 4, 5] (.var 0), .ifs (.cmp .eq (.var 1) (.cst (.w 10))) [.ret (.ite (.cmp .eq (.var 3) (.cst (.w 7))) (.cst (.w 6)) (.tup [.var 3, .lst [.cst .none],
   .dct0]))] [],
   .asg 6 (.call .B6 [.var 0, .var 1, .var 2]), .ifs (.isT (.var 6) .str) [.ret (.lst [.cst (.w 11), .var 6])] [],
   .ifs (.and2 (.cmp .lt (.var 6) (.cst (.int 0))) (.cmp .eq (.var 3) (.cst (.w 7)))) [.ret (.cst (.w 6))] [],
   .ifs (.or2 (.cmp .lt (.var 6) (.cst (.int 0))) (.cmp .ge (.var 6) (.len (.var 4)))) [.ret (.lst [.cst (.w 11), .cst (.w 28)])] [],
   .ret (.ite (.cmp .eq (.var 3) (.cst (.w 7))) (.idx (.var 4) (.var 6)) (.tup [.var 3, .lst [.idx (.var 4) (.var 6)],
   .dct0]))]⟩
def Fj : AK Fn := ⟨1, [], 4, [.asgT [1, 2, 3] (.var 0), .ret (.tup [.cst (.w 7), .comp (.tup [.var 1, .lst [.var 4],
   .dct0]) (.var 2), .var 3])]⟩
def MJ : AK Fn := ⟨3, [], 13, [.ifs (.cmp .eq (.var 0) (.cst (.w 6))) [.ifs (.cmp .eq (.var 2) (.cst (.w 6))) [.ret (.cst (.w 6))] [],
   .asg 3 (.and2 (.cmp .ne (.idx (.var 2) (.cst (.int 0))) (.cst (.w 7))) (.cmp .eq (.len (.idx (.var 2) (.cst (.int 1)))) (.cst (.int 1)))), .asg 0 (.tup [.ite (.var 3) (.idx (.var 2) (.cst (.int 0))) (.cst (.w 7)), .lst [],
   .dct0])] [],
   .asgT [4, 5, 6] (.var 0), .asg 7 (.len (.var 5)), .asg 8 (.call .Bv [.var 0]), .ifs (.cmp .eq (.var 1) (.cst (.w 10))) [.ret (.lst [.cst (.w 11), .cst (.w 28)])] [],
   .asg 9 (.call .B6 [.var 0, .var 1, .cst (.bool true)]), .ifs (.isT (.var 9) .str) [.ret (.lst [.cst (.w 11), .var 9])] [],
   .ifs (.and2 (.cmp .eq (.var 2) (.cst (.w 6))) (.cmp .eq (.var 4) (.cst (.w 7)))) [.ifs (.or2 (.cmp .lt (.var 9) (.cst (.int 0))) (.cmp .ge (.var 9) (.var 7))) [.ret (.var 0)] [],
   .asg 10 (.dct0), .ifs (.isNone true (.var 8)) [.setI (.var 10) (.cst (.w 5)) (.tup [.cst (.w 9), .bin .add (.cutTo (.var 8) (.var 9)) (.cutFrom (.var 8) (.bin .add (.var 9) (.cst (.int 1)))), .dct0])] [],
   .ret (.tup [.var 4, .bin .add (.cutTo (.var 5) (.var 9)) (.cutFrom (.var 5) (.bin .add (.var 9) (.cst (.int 1)))), .var 10])] [],
   .asg 11 (.ite (.cmp .lt (.var 9) (.cst (.int 0))) (.lst [.var 1]) (.lst [])), .asg 9 (.ite (.cmp .lt (.var 9) (.cst (.int 0))) (.var 7) (.var 9)), .ifs (.cmp .ne (.var 4) (.cst (.w 7))) [.ifs (.or2 (.cmp .eq (.var 2) (.cst (.w 6))) (.cmp .eq (.idx (.var 2) (.cst (.int 1))) (.lst []))) [.ret (.lst [.cst (.w 11), .cst (.w 33)])] [],
   .ifs (.cmp .gt (.len (.idx (.var 2) (.cst (.int 1)))) (.cst (.int 1))) [.ret (.lst [.cst (.w 11), .cst (.w 34)])] [],
   .ifs (.cmp .eq (.idx (.var 2) (.cst (.int 0))) (.cst (.w 7))) [.asgT [4, 5, 6] (.call .AW [.var 0])] [.ifs (.and2 (.cmp .eq (.idx (.var 2) (.cst (.int 0))) (.cst (.w 9))) (.cmp .eq (.var 4) (.cst (.w 8)))) [.asgT [4, 5] (.tup [.cst (.w 9), .comp (.strOf (.var 13)) (.var 5)])] []]] [],
   .asg 5 (.listOf (.var 5)), .asg 6 (.dictOf (.var 6)), .ifs (.cmp .ge (.var 9) (.var 7)) [.augL 5 (.bin .mul (.lst [.ite (.cmp .eq (.var 4) (.cst (.w 7))) (.cst (.w 6)) (.cst .none)]) (.bin .sub (.bin .add (.var 9) (.cst (.int 1))) (.var 7))), .ifs (.or2 (.isNone true (.var 8)) (.cmp .ne (.var 11) (.lst []))) [.asg 12 (.bin .add (.ite (.isNone false (.var 8)) (.bin .mul (.lst [.cst (.w 16)]) (.var 7)) (.var 8)) (.var 11)), .setI (.var 6) (.cst (.w 5)) (.tup [.cst (.w 9), .bin .add (.var 12) (.bin .mul (.lst [.cst (.w 16)]) (.bin .sub (.bin .add (.var 9) (.cst (.int 1))) (.len (.var 12)))), .dct0])] []] [],
   .ifs (.cmp .eq (.var 4) (.cst (.w 7))) [.setI (.var 5) (.var 9) (.var 2)] [.setI (.var 5) (.var 9) (.ite (.and2 (.cmp .eq (.var 4) (.cst (.w 9))) (.cmp .eq (.idx (.var 2) (.cst (.int 0))) (.cst (.w 8)))) (.strOf (.idx (.idx (.var 2) (.cst (.int 1))) (.cst (.int 0)))) (.idx (.idx (.var 2) (.cst (.int 1))) (.cst (.int 0))))],
   .ret (.tup [.var 4, .var 5, .var 6])]⟩
def El : AK Fn := ⟨1, [], 1, [.ifs (.cmp .eq (.var 0) (.cst (.w 10))) [.ret (.mk .vector [.cst (.w 8), .lst [.cst .none]])] [],
   .ret (.ite (.isT (.var 0) .int) (.mk .vector [.cst (.w 8), .lst [.var 0]]) (.mk .vector [.cst (.w 9), .lst [.var 0]]))]⟩
def Fe : AK Fn := ⟨1, [], 1, [.ret (.ite (.isT (.var 0) .str) (.lst [.cst (.w 11), .var 0]) (.call .Am [.var 0]))]⟩
def QT : AK Fn := ⟨1, [], 19, [.asg 1 (.call .CY [.var 0]), .asg 2 (.call .BV [.var 1]), .asg 3 (.call .A7 [.var 1, .cst (.int 1)]), .asg 4 (.call .Am [.var 2]), .asg 5 (.call .Am [.var 3]), .asg 6 (.ite (.cmp .eq (.var 4) (.cst (.w 6))) (.cst (.int 0)) (.len (.idx (.var 4) (.cst (.int 1))))), .forE 7 (.lst [.bin .mod (.call .Ag [.var 1]) (.bin .add (.var 6) (.cst (.int 3))), .idx (.lst [.cst (.w 12), .cst (.w 14), .cst (.w 13), .cst (.w 17), .cst (.w 16)]) (.bin .mod (.call .Ag [.var 1]) (.cst (.int 5))), .cst (.w 10)]) [.asg 8 (.call .BQ [.var 7]), .forE 9 (.lst [.cst (.bool true), .cst (.bool false)]) [.ifs (.cmp .ne (.call .AG [.kept (.call .Ct [.var 2, .lst [.var 8],
   .var 9])]) (.call .AA [.var 4, .var 7, .var 9])) [.bad] []],
   .ifs (.cmp .ne (.call .AG [.kept (.call .A1 [.var 2, .lst [.var 8],
   .var 3, .lst []])]) (.call .AO [.var 4, .var 7, .var 5])) [.bad] [],
   .ifs (.or2 (.cmp .ne (.call .Am [.var 2]) (.var 4)) (.cmp .ne (.call .Am [.var 3]) (.var 5))) [.bad] []],
   .asg 10 (.idx (.lst [.cst (.w 12), .cst (.w 14), .cst (.w 13), .cst (.w 17)]) (.bin .mod (.call .Ag [.var 1]) (.cst (.int 4)))), .asg 11 (.kept (.call .CS [.var 2, .var 10])), .ifs (.and2 (.cmp .ne (.var 4) (.cst (.w 6))) (.cmp .ne (.idx (.var 4) (.cst (.int 0))) (.cst (.w 7)))) [.ifs (.cmp .ne (.var 11) (.cst (.w 30))) [.bad] []] [.ifs (.cmp .ne (.call .AG [.var 11]) (.call .AA [.var 4, .var 10, .cst (.bool false)])) [.bad] []],
   .asg 12 (.lst []), .asg 13 (.var 4), .ifs (.cmp .eq (.var 4) (.cst (.w 6))) [.asg 13 (.tup [.cst (.w 7), .lst [],
   .dct0])] [.ifs (.cmp .ne (.idx (.var 4) (.cst (.int 0))) (.cst (.w 7))) [.asg 13 (.call .AW [.var 4])] []],
   .asg 14 (.ite (.and2 (.cmp .ne (.var 4) (.cst (.w 6))) (.and2 (.cmp .ne (.idx (.var 4) (.cst (.int 0))) (.cst (.w 7))) (.cmp .gt (.var 6) (.cst (.int 0))))) (.lst [.cst (.w 37)]) (.lst [])), .ifs (.or2 (.cmp .ne (.call .AG [.kept (.call .AL [.var 2, .var 10, .var 3, .var 12])]) (.call .AO [.var 13, .var 10, .var 5])) (.cmp .ne (.var 12) (.var 14))) [.bad] [],
   .ifs (.and2 (.cmp .ne (.var 4) (.cst (.w 6))) (.and2 (.cmp .eq (.idx (.var 4) (.cst (.int 0))) (.cst (.w 7))) (.cmp .gt (.var 6) (.cst (.int 0))))) [.asg 15 (.bin .add (.cst (.int 1)) (.bin .mod (.call .Ag [.var 1]) (.var 6))), .asg 16 (.bin .add (.cst (.int 1)) (.bin .mod (.call .Ag [.var 1]) (.cst (.int 3)))), .asg 8 (.mk .vector [.cst (.w 8), .lst [.var 15, .var 16]]), .asg 17 (.idx (.idx (.var 4) (.cst (.int 1))) (.bin .sub (.var 15) (.cst (.int 1)))), .asg 14 (.ite (.cmp .eq (.var 17) (.cst (.w 6))) (.lst [.cst (.w 11), .cst (.w 28)]) (.call .AA [.var 17, .var 16, .cst (.bool true)])), .ifs (.cmp .ne (.call .AG [.kept (.call .Ct [.var 2, .lst [.var 8],
   .cst (.bool true)])]) (.var 14)) [.bad] [],
   .asg 14 (.lst [.cst (.w 11), .cst (.w 36)]), .ifs (.cmp .ne (.var 17) (.cst (.w 6))) [.asg 18 (.call .AO [.var 17, .var 16, .var 5]), .asg 14 (.ite (.isT (.var 18) .list) (.var 18) (.call .AO [.var 4, .var 15, .var 18]))] [],
   .ifs (.cmp .ne (.call .AG [.kept (.call .A1 [.var 2, .lst [.var 8],
   .var 3, .lst []])]) (.var 14)) [.bad] []] [],
   .ret (.cmp .eq (.call .Am [.var 2]) (.var 4))]⟩
def prog : Fn -> AK Fn
 | CA => G9
 | BI => Ev
 | A3 => Et
 | Eb => Nm
 | Av => Hf
 | BS => HP
 | AD => Hp
 | Br => He
 | Gu => Mt
 | CN => LA
 | BM => FI
 | Cf => E5
 | Cn => FN
 | AQ => F6
 | Dq => J3
 | BL => EL
 | BF => FQ
 | DD => Iq
 | Cr => GK
 | AT => EB
 | Ca => EG
 | Cu => GG
 | DA => Jw
 | A6 => Dl
 | Bu => D9
 | BO => Cm
 | CC => DC
 | Ch => Ei
 | Bj => DL
 | A9 => Ea
 | Ad => Fk
 | CO => FW
 | Bb => AU
 | AM => Cs
 | Bl => F5
 | Bx => EZ
 | Ct => DX
 | CS => ES
 | AE => CP
 | Cv => Gh
 | Bw => CK
 | BH => FU
 | BP => DZ
 | Bt => Dt
 | Bk => A8
 | AB => AN
 | Bs => BK
 | A1 => Cz
 | AL => Bm
 | CY => Mx
 | Ag => FC
 | Am => FM
 | BR => Hd
 | A7 => K7
 | BV => K0
 | Bv => Dr
 | B6 => Ci
 | AA => Bh
 | AW => Fj
 | AO => MJ
 | BQ => El
 | AG => Fe
 | Bq => QT
def RE : Fn -> String
 | CA => "Null.__init__"
 | BI => "Vector.__init__"
 | A3 => "Vector.copy"
 | Eb => "room"
 | Av => "character"
 | BS => "length"
 | AD => "is_vector"
 | Br => "is_atomic"
 | Gu => "own"
 | CN => "share"
 | BM => "get_attr"
 | Cf => "drop_attr"
 | Cn => "put_attr"
 | AQ => "names_of"
 | Dq => "dim_of"
 | BL => "kind_order"
 | BF => "common_kind"
 | DD => "to_text"
 | Cr => "item_as"
 | AT => "is_atomic_kind"
 | Ca => "with_names"
 | Cu => "as_kind"
 | DA => "as_list"
 | A6 => "whole_subscripts"
 | Bu => "first_places"
 | BO => "partial_place"
 | CC => "one_name"
 | Ch => "one_whole"
 | Bj => "one_place"
 | A9 => "lacking_item"
 | Ad => "is_list_kind"
 | CO => "one_item"
 | Bb => "vector_element"
 | AM => "element_step"
 | Bl => "index_parts"
 | Bx => "is_long_index"
 | Ct => "element"
 | CS => "dollar"
 | AE => "converted_items"
 | Cv => "raised"
 | Bw => "extend_vector"
 | BH => "first_count"
 | BP => "delete_places"
 | Bt => "element_kind"
 | Bk => "put_element"
 | AB => "assign_step"
 | Bs => "assign_down"
 | A1 => "assign_element"
 | AL => "assign_dollar"
 | CY => "_law_row"
 | Ag => "_law_next"
 | Am => "_law_view"
 | BR => "_law_names"
 | A7 => "_law_made"
 | BV => "_law_list"
 | Bv => "_law_names_of"
 | B6 => "_law_spot"
 | AA => "_law_element"
 | AW => "_law_itemised"
 | AO => "_law_put"
 | BQ => "_law_index"
 | AG => "_law_shown"
 | Bq => "law"
def Oz : Fn -> List String
 | CA => ["self"]
 | BI => ["self", "kind", "items", "attrs"]
 | A3 => ["self", "attrs"]
 | Eb => ["n"]
 | Av => ["items"]
 | BS => ["v", "kind"]
 | AD => ["v"]
 | Br => ["v"]
 | Gu => ["v"]
 | CN => ["v"]
 | BM => ["v", "name"]
 | Cf => ["v", "name"]
 | Cn => ["v", "name", "value"]
 | AQ => ["v", "tag", "dims", "rows", "names"]
 | Dq => ["v", "dims"]
 | BL => ["kind", "kinds"]
 | BF => ["kinds", "names", "most", "kind"]
 | DD => ["kind", "item"]
 | Cr => ["kind", "item", "to", "notes"]
 | AT => ["kind"]
 | Ca => ["v", "names"]
 | Cu => ["v", "kind", "notes", "items"]
 | DA => ["v"]
 | A6 => ["ix", "found", "item"]
 | Bu => ["names", "table", "i", "name"]
 | BO => ["item", "names", "table", "found", "i"]
 | CC => ["item", "names", "exact"]
 | Ch => ["item", "n"]
 | Bj => ["ix", "n", "names", "exact", "kind"]
 | A9 => ["kind"]
 | Ad => ["kind"]
 | CO => ["v", "place"]
 | Bb => ["v", "ix", "exact", "n", "place"]
 | AM => ["v", "ix", "exact", "tags", "place"]
 | Bl => ["ix"]
 | Bx => ["ix"]
 | Ct => ["v", "indexes", "exact", "ix", "parts", "i"]
 | CS => ["v", "name", "tags", "place"]
 | AE => ["v", "kind", "notes"]
 | Cv => ["v", "kind", "notes", "attrs"]
 | Bw => ["v", "count", "names", "added", "n", "i", "texts"]
 | BH => ["places", "count", "place"]
 | BP => ["v", "places", "names", "count", "gone", "place", "items", "kept_names", "i", "inside", "result", "name"]
 | Bt => ["v", "value"]
 | Bk => ["v", "place", "name", "value", "notes", "names", "kind", "result", "added"]
 | AB => ["v", "ix", "value", "notes", "kind", "n", "place", "name"]
 | Bs => ["v", "parts", "value", "notes", "inner"]
 | A1 => ["v", "indexes", "value", "notes", "place", "ix"]
 | AL => ["v", "name", "value", "notes"]
 | CY => ["script", "row", "cell", "figure", "lap"]
 | Ag => ["row"]
 | Am => ["v", "attrs"]
 | BR => ["row", "many"]
 | A7 => ["row", "deep", "kind", "items", "v", "many"]
 | BV => ["row", "kind", "many", "v"]
 | Bv => ["seen"]
 | B6 => ["seen", "key", "exact", "names", "begun"]
 | AA => ["seen", "key", "exact", "kind", "items", "attrs", "spot"]
 | AW => ["seen", "kind", "items", "attrs"]
 | AO => ["seen", "key", "put", "plain_one", "kind", "items", "attrs", "n", "names", "spot", "left", "added", "longer"]
 | BQ => ["key"]
 | AG => ["told"]
 | Bq => ["script", "row", "v", "value", "held", "put", "n", "key", "ix", "exact", "name", "told", "notes", "base", "due", "first", "second", "inner", "changed"]
def initOf : Pv -> Fn
 | .null => .CA
 | .vector => .BI
def Ii (i j : Nat) : Option Bool := if 12 <= i /\ i < 18 /\ 12 <= j /\ j < 18 then some (HR.contains (i, j)) else Option.none
namespace P
def Sa := @Bool.and_eq_true
def Ck := @List.getElem?_append_left
def Cq := @List.getElem?_set_ne
def Ew := @List.getElem?_set_self
theorem AH {α : Type} {l : List α} {i : Nat} {x : α} (h : l[i]? = some x) : i < l.length := (List.getElem?_eq_some_iff.mp h).1
section
variable (Ab : List Int)
abbrev Bg (d : Nat) : Fn -> List V -> M V := Ee prog Ab Ii initOf d
abbrev AI (d : Nat) : Ef Fn := { Ab := Ab, bg := Ii, initOf := initOf, call := Bg Ab d }
theorem Db {d : Nat} {f : Fn} {args : List V} (h : args.length = (prog f).params) (hd : (prog f).dflt = []) :
  Bg Ab (d + 1) f args = bnd (Ae (AI Ab d) (prog f).body (args.map some ++ List.replicate ((prog f).vars - (prog f).params) Option.none)) fun p => ret (p.2.getD .none) := by
 unfold Bg
 rw [Ee, hd]
 simp [h, hd]
end
def Sf (fs : List (Nat × V)) : List (Nat × V) := fs.map fun p => if p.1 = 3 then (3, .none) else p
def nm : An -> An
 | .inst k fs => .inst k (Sf fs)
 | c => c
def Ak (S : Nat -> Prop) (H H' : MH) : Prop := H.length <= H'.length /\ ∀ (a : Nat) (c : An), H[a]? = some c -> ¬ S a -> ∃ c', H'[a]? = some c' /\ nm c' = nm c
section
variable {S S' : Nat -> Prop} {H H' H1 H2 H3 : MH}
theorem Ak.refl (S : Nat -> Prop) (H : MH) : Ak S H H := ⟨Nat.le_refl _, fun _ c e _ => ⟨c, e, rfl⟩⟩
theorem Ak.trans (x : Ak S H1 H2) (y : Ak S H2 H3) : Ak S H1 H3 := ⟨Nat.le_trans x.1 y.1, fun a c e hs => by
 obtain ⟨c', e', h'⟩ := x.2 a c e hs
 obtain ⟨c2, e2, h2⟩ := y.2 a c' e' hs
 exact ⟨c2, e2, h2.trans h'⟩⟩
theorem Ak.app (S : Nat -> Prop) (H L : MH) : Ak S H (H ++ L) := ⟨by simp, fun a c e _ => ⟨c, by rw [Ck (AH e)]; exact e, rfl⟩⟩
theorem Ak.set {a : Nat} {c : An} (h : S a) : Ak S H (H.set a c) := ⟨by simp, fun b c' e hs => ⟨c', by rw [Cq (fun (q : a = b) => hs (q ▸ h))]; exact e, rfl⟩⟩
theorem Ak.less (x : Ak S' H H') (h : ∀ a, a < H.length -> S' a -> S a) : Ak S H H' := ⟨x.1, fun a c e hs => x.2 a c e fun q => hs (h a (AH e) q)⟩
theorem Ak.more (x : Ak S H H') (h : ∀ a, S a -> S' a) : Ak S' H H' := ⟨x.1, fun a c e hs => x.2 a c e fun q => hs (h a q)⟩
end
section
variable {α β : Type} {S S' : Nat -> Prop} {m : M α} {f : α -> M β} {H H' : MH} {Q : β -> MH -> Prop} {P : α -> MH -> Prop} {E : Nat -> Prop}
end
inductive Tr where
 | null
 | atom (k : Nat) (xs : List V) (ns : Option (List V))
 | list (ts : List Tr) (ns : Option (List V))
abbrev Ah (k : Nat) (b : Nat) (at' : V) (sh : V) : An := .inst .vector [(0, .w k), (1, .ref b), (2, at'), (3, sh), (4, .bool false)]
section
variable (S : Nat -> Prop)
def At (H : MH) (a : Nat) (c : An) : Prop := H[a]? = some c /\ ¬ S a
def Ih (H : MH) : Option (List V) -> V -> Prop
 | none, v => v = .none
 | some ns, v => ∃ c n m sh, v = .ref c /\ At S H c (.dictW [(5, .ref n)]) /\ At S H n (Ah 9 m .none sh) /\ At S H m (.list ns)
mutual
def Bi (H : MH) : Tr -> V -> Prop
 | .null, v => ∃ a, v = .ref a /\ At S H a (.inst .null [(0, .w 6), (2, .none)])
 | .atom k xs ns, v => ∃ a b t sh, v = .ref a /\ At S H a (Ah k b t sh) /\ At S H b (.list xs) /\ Ih S H ns t
 | .list ts ns, v => ∃ a b t sh vs, v = .ref a /\ At S H a (Ah 7 b t sh) /\ At S H b (.list vs) /\ A4 H ts vs /\ Ih S H ns t
def A4 (H : MH) : List Tr -> List V -> Prop
 | [], vs => vs = []
 | t :: ts, vs => ∃ v r, vs = v :: r /\ Bi H t v /\ A4 H ts r
end
def Dk (H : MH) : Option (List V) -> V -> Prop
 | none, v => ∃ c, v = .ref c /\ At S H c (.dictW [])
 | some ns, v => ∃ c n m e, v = .ref c /\ At S H c (.dictW [(5, .ref n)]) /\ At S H n (.tup [.w 9, .ref m, .ref e]) /\ At S H m (.list ns) /\ At S H e (.dictW [])
mutual
def Ar (H : MH) : Tr -> V -> Prop
 | .null, v => v = .w 6
 | .atom k xs ns, v => ∃ a b t, v = .ref a /\ At S H a (.tup [.w k, .ref b, t]) /\ At S H b (.list xs) /\ Dk S H ns t
 | .list ts ns, v => ∃ a b t vs, v = .ref a /\ At S H a (.tup [.w 7, .ref b, t]) /\ At S H b (.list vs) /\ AS H ts vs /\ Dk S H ns t
def AS (H : MH) : List Tr -> List V -> Prop
 | [], vs => vs = []
 | t :: ts, vs => ∃ v r, vs = v :: r /\ Ar H t v /\ AS H ts r
end
def CH (H : MH) : Prop := ∀ a, S a -> a < H.length
end
section
variable {S S' : Nat -> Prop} {H H' : MH}
theorem CH.up (h : CH S H) (x : Ak S H H') : CH S H' := fun a q => Nat.lt_of_lt_of_le (h a q) x.1
theorem CH.new (h : CH S H) {c : An} {L : MH} : At S (H ++ c :: L) H.length c := ⟨by simp, fun q => Nat.lt_irrefl _ (h _ q)⟩
theorem At.up {a : Nat} {c : An} (h : At S H a c) (x : Ak S H H') (hn : ∀ k fs, c ≠ .inst k fs) : At S H' a c := by
 obtain ⟨c', e, q⟩ := x.2 a c h.1 h.2
 have : c' = c := by
  cases c <;> cases c' <;> simp_all [nm]
 exact ⟨this ▸ e, h.2⟩
theorem At.upV {a k b : Nat} {t sh : V} (h : At S H a (Ah k b t sh)) (x : Ak S H H') : ∃ sh', At S H' a (Ah k b t sh') := by
 obtain ⟨c', e, q⟩ := x.2 a _ h.1 h.2
 cases c' with
 | inst k' fs =>
  simp only [nm, Ah, Sf, List.map_cons, List.map_nil, An.inst.injEq] at q
  obtain ⟨rfl, q⟩ := q
  rcases fs with _ | ⟨p0, _ | ⟨p1, _ | ⟨p2, _ | ⟨p3, _ | ⟨p4, _ | ⟨p5, r⟩⟩⟩⟩⟩⟩ <;> simp at q
  obtain ⟨q0, q1, q2, q3, q4⟩ := q
  obtain ⟨k0, v0⟩ := p0
  obtain ⟨k1, v1⟩ := p1
  obtain ⟨k2, v2⟩ := p2
  obtain ⟨k3, v3⟩ := p3
  obtain ⟨k4, v4⟩ := p4
  dsimp only at q0 q1 q2 q3 q4
  split at q0 <;> simp at q0
  split at q1 <;> simp at q1
  split at q2 <;> simp at q2
  split at q4 <;> simp at q4
  have h3 : k3 = 3 := by
   by_cases h : k3 = 3
   .exact h
   .exact (Prod.mk.inj (q3 h)).1
  obtain ⟨rfl, rfl⟩ := q0
  obtain ⟨rfl, rfl⟩ := q1
  obtain ⟨rfl, rfl⟩ := q2
  obtain ⟨rfl, rfl⟩ := q4
  subst h3
  exact ⟨v3, e, h.2⟩
 | _ => simp [nm, Ah] at q
theorem At.upN {a : Nat} (h : At S H a (.inst .null [(0, .w 6), (2, .none)])) (x : Ak S H H') : At S H' a (.inst .null [(0, .w 6), (2, .none)]) := by
 obtain ⟨c', e, q⟩ := x.2 a _ h.1 h.2
 cases c' with
 | inst k' fs =>
  simp only [nm, Sf, List.map_cons, List.map_nil, An.inst.injEq] at q
  obtain ⟨rfl, q⟩ := q
  rcases fs with _ | ⟨p0, _ | ⟨p1, _ | ⟨p2, r⟩⟩⟩ <;> simp at q
  obtain ⟨q0, q1⟩ := q
  obtain ⟨k0, v0⟩ := p0
  obtain ⟨k1, v1⟩ := p1
  dsimp only at q0 q1
  split at q0 <;> simp at q0
  split at q1 <;> simp at q1
  obtain ⟨rfl, rfl⟩ := q0
  obtain ⟨rfl, rfl⟩ := q1
  exact ⟨e, h.2⟩
 | _ => simp [nm] at q
theorem Ih.up : ∀ {ns : Option (List V)} {v : V}, Ih S H ns v -> Ak S H H' -> Ih S H' ns v
 | none, _, h, _ => h
 | some _, _, ⟨c, n, m, sh, e, h1, h2, h3⟩, x => by
  obtain ⟨sh', h2'⟩ := h2.upV x
  exact ⟨c, n, m, sh', e, h1.up x (by intro k fs q; cases q), h2', h3.up x (by intro k fs q; cases q)⟩
mutual
theorem Bi.up : ∀ {t : Tr} {v : V}, Bi S H t v -> Ak S H H' -> Bi S H' t v
 | .null, _, h, x => by
  rw [Bi] at h ⊢
  obtain ⟨a, e, h⟩ := h
  exact ⟨a, e, h.upN x⟩
 | .atom k xs ns, _, h, x => by
  rw [Bi] at h ⊢
  obtain ⟨a, b, t, sh, e, h1, h2, h3⟩ := h
  obtain ⟨sh', h1'⟩ := h1.upV x
  exact ⟨a, b, t, sh', e, h1', h2.up x (by intro k fs q; cases q), h3.up x⟩
 | .list ts ns, _, h, x => by
  rw [Bi] at h ⊢
  obtain ⟨a, b, t, sh, vs, e, h1, h2, h3, h4⟩ := h
  obtain ⟨sh', h1'⟩ := h1.upV x
  exact ⟨a, b, t, sh', vs, e, h1', h2.up x (by intro k fs q; cases q), A4.up h3 x, h4.up x⟩
theorem A4.up : ∀ {ts : List Tr} {vs : List V}, A4 S H ts vs -> Ak S H H' -> A4 S H' ts vs
 | [], _, h, _ => by rw [A4] at h ⊢; exact h
 | t :: ts, _, h, x => by
  rw [A4] at h ⊢
  obtain ⟨v, r, e, h1, h2⟩ := h
  exact ⟨v, r, e, Bi.up h1 x, A4.up h2 x⟩
end
theorem Dk.up : ∀ {ns : Option (List V)} {v : V}, Dk S H ns v -> Ak S H H' -> Dk S H' ns v
 | none, _, ⟨c, e, h⟩, x => ⟨c, e, h.up x (by intro k fs q; cases q)⟩
 | some _, _, ⟨c, n, m, e, q, h1, h2, h3, h4⟩, x => ⟨c, n, m, e, q, h1.up x (by intro k fs q; cases q), h2.up x (by intro k fs q; cases q), h3.up x (by intro k fs q; cases q), h4.up x (by intro k fs q; cases q)⟩
mutual
theorem Ar.up : ∀ {t : Tr} {v : V}, Ar S H t v -> Ak S H H' -> Ar S H' t v
 | .null, _, h, _ => by rw [Ar] at h ⊢; exact h
 | .atom k xs ns, _, h, x => by
  rw [Ar] at h ⊢
  obtain ⟨a, b, t, e, h1, h2, h3⟩ := h
  exact ⟨a, b, t, e, h1.up x (by intro k fs q; cases q), h2.up x (by intro k fs q; cases q), h3.up x⟩
 | .list ts ns, _, h, x => by
  rw [Ar] at h ⊢
  obtain ⟨a, b, t, vs, e, h1, h2, h3, h4⟩ := h
  exact ⟨a, b, t, vs, e, h1.up x (by intro k fs q; cases q), h2.up x (by intro k fs q; cases q), AS.up h3 x, h4.up x⟩
theorem AS.up : ∀ {ts : List Tr} {vs : List V}, AS S H ts vs -> Ak S H H' -> AS S H' ts vs
 | [], _, h, _ => by rw [AS] at h ⊢; exact h
 | t :: ts, _, h, x => by
  rw [AS] at h ⊢
  obtain ⟨v, r, e, h1, h2⟩ := h
  exact ⟨v, r, e, Ar.up h1 x, AS.up h2 x⟩
end
end
local macro_rules | `(tactic| simp! [$a,*] $[$l]?) => `(tactic| simp [prog, Ae, Ai, Aa, Ap, bnd, ret, Au, DM, Aw, AJ, DF, Bd, FF, Fg, Fu, MA, EW, Bz, alloc, HK, Pt, L4, N9, LY, P7, JH, LE, LJ, IN, OS, QX, FH, cutTo, cutFrom, still, FL, Cw, Dm, DS, N8, Fo, Ah, initOf, stays, E3, Ds, $a,*] $[$l]?)
local macro_rules | `(tactic| simp_all! [$a,*]) => `(tactic| (rw [Db _ rfl rfl]; simp! [$a,*]))
variable {S S' S0 : Nat -> Prop} {st : Bool} {Ab : List Int} {d : Nat} {H H' : MH}
theorem Ad {k : Nat} : Bg Ab (d + 1) .Ad [.w k] H = .ok (.bool ([7, 19, 20].contains k)) H := by
 rw [Db Ab rfl rfl]; simp [prog, Fk, Ae, Ai, Aa, bnd, ret, Au]
theorem AT {k : Nat} : Bg Ab (d + 1) .AT [.w k] H = .ok (.bool ([23, 8, 24, 9].contains k)) H := by
 rw [Db Ab rfl rfl]; simp [prog, EB, Ae, Ai, Aa, bnd, ret, Au]
theorem Eb {i : Int} (h : i <= 1000000) : Bg Ab (d + 1) .Eb [.int i] H = .ok (.int i) H := by
 have h' : ¬ 1000000 < i := by omega
 rw [Db Ab rfl rfl]; simp [prog, Nm, Ae, Ai, Aa, bnd, ret, Au, DM, Aw, h']
theorem AD {a k b : Nat} {t sh : V} (h : At S H a (Ah k b t sh)) : Bg Ab (d + 1) .AD [.ref a] H = .ok (.bool true) H := by
 rw [Db Ab rfl rfl]; simp [prog, Hp, Ae, Ai, Aa, bnd, ret, Au, FF, AJ, h.1]
theorem Br {a k b : Nat} {t sh : V} (h : At S H a (Ah k b t sh)) : Bg Ab (d + 1) .Br [.ref a] H = .ok (.bool ([23, 8, 24, 9].contains k)) H := by
 rw [Db Ab rfl rfl]; simp [prog, He, Ae, Ai, Aa, bnd, ret, Au, AJ, DF, h.1, Bd]
theorem Fq {a k b : Nat} {sh : V} {w : V} (h : At S H a (Ah k b .none sh)) : Bg Ab (d + 1) .BM [.ref a, w] H = .ok .none H := by
 rw [Db Ab rfl rfl]; simp [prog, FI, Ae, Ai, Aa, bnd, ret, Au, AJ, DF, h.1, Bd, Aw]
theorem BM {a k b c w : Nat} {sh : V} {kvs : List (Nat × V)} (h : At S H a (Ah k b (.ref c) sh)) (hc : At S H c (.dictW kvs)) : Bg Ab (d + 1) .BM [.ref a, .w w] H = .ok ((Bd w kvs).getD .none) H := by
 rw [Db Ab rfl rfl]; simp [prog, FI, Ae, Ai, Aa, bnd, ret, Au, AJ, DF, h.1, hc.1, Bd, Aw, N9, LE]
def W {α : Type} (S : Nat -> Prop) (m : M α) (H : MH) (Q : α -> MH -> Prop) : Prop := ∃ r H', m H = .ok r H' /\ Ak S H H' /\ Q r H'
def Xc {α : Type} (S : Nat -> Prop) (m : M α) (H : MH) (e : Nat) : Prop := ∃ H', m H = .exc e H' /\ Ak S H H'
def JF (S : Nat -> Prop) (H : MH) (ns : Option (List V)) (r : V) : Prop := match ns with
 | none => r = .none
 | some l => ∃ a, r = .ref a /\ At S H a (.list l)
def Dy (S : Nat -> Prop) (H : MH) (v : V) (k b : Nat) (ns : Option (List V)) : Prop := ∃ a t sh, v = .ref a /\ At S H a (Ah k b t sh) /\ Ih S H ns t
theorem At.chg (hw : ∀ x, x < H.length -> S' x -> S x) {a : Nat} {c : An} (h : At S H a c) : At S' H a c := ⟨h.1, fun q => h.2 (hw a (AH h.1) q)⟩
theorem Ih.chg (hw : ∀ x, x < H.length -> S' x -> S x) : ∀ {ns : Option (List V)} {v : V}, Ih S H ns v -> Ih S' H ns v
 | none, _, h => h
 | some _, _, ⟨c, n, m, sh, e, h1, h2, h3⟩ => ⟨c, n, m, sh, e, h1.chg hw, h2.chg hw, h3.chg hw⟩
mutual
theorem Bi.chg (hw : ∀ x, x < H.length -> S' x -> S x) : ∀ {t : Tr} {v : V}, Bi S H t v -> Bi S' H t v
 | .null, _, h => by
  rw [Bi] at h ⊢
  obtain ⟨a, e, h⟩ := h
  exact ⟨a, e, h.chg hw⟩
 | .atom k xs ns, _, h => by
  rw [Bi] at h ⊢
  obtain ⟨a, b, t, sh, e, h1, h2, h3⟩ := h
  exact ⟨a, b, t, sh, e, h1.chg hw, h2.chg hw, h3.chg hw⟩
 | .list ts ns, _, h => by
  rw [Bi] at h ⊢
  obtain ⟨a, b, t, sh, vs, e, h1, h2, h3, h4⟩ := h
  exact ⟨a, b, t, sh, vs, e, h1.chg hw, h2.chg hw, A4.chg hw h3, h4.chg hw⟩
theorem A4.chg (hw : ∀ x, x < H.length -> S' x -> S x) : ∀ {ts : List Tr} {vs : List V}, A4 S H ts vs -> A4 S' H ts vs
 | [], _, h => by rw [A4] at h ⊢; exact h
 | t :: ts, _, h => by
  rw [A4] at h ⊢
  obtain ⟨v, r, e, h1, h2⟩ := h
  exact ⟨v, r, e, Bi.chg hw h1, A4.chg hw h2⟩
end
theorem Dk.chg (hw : ∀ x, x < H.length -> S' x -> S x) : ∀ {ns : Option (List V)} {v : V}, Dk S H ns v -> Dk S' H ns v
 | none, _, ⟨c, e, h⟩ => ⟨c, e, h.chg hw⟩
 | some _, _, ⟨c, n, m, e, q, h1, h2, h3, h4⟩ => ⟨c, n, m, e, q, h1.chg hw, h2.chg hw, h3.chg hw, h4.chg hw⟩
mutual
theorem Ar.chg (hw : ∀ x, x < H.length -> S' x -> S x) : ∀ {t : Tr} {v : V}, Ar S H t v -> Ar S' H t v
 | .null, _, h => by rw [Ar] at h ⊢; exact h
 | .atom k xs ns, _, h => by
  rw [Ar] at h ⊢
  obtain ⟨a, b, t, e, h1, h2, h3⟩ := h
  exact ⟨a, b, t, e, h1.chg hw, h2.chg hw, h3.chg hw⟩
 | .list ts ns, _, h => by
  rw [Ar] at h ⊢
  obtain ⟨a, b, t, vs, e, h1, h2, h3, h4⟩ := h
  exact ⟨a, b, t, vs, e, h1.chg hw, h2.chg hw, AS.chg hw h3, h4.chg hw⟩
theorem AS.chg (hw : ∀ x, x < H.length -> S' x -> S x) : ∀ {ts : List Tr} {vs : List V}, AS S H ts vs -> AS S' H ts vs
 | [], _, h => by rw [AS] at h ⊢; exact h
 | t :: ts, _, h => by
  rw [AS] at h ⊢
  obtain ⟨v, r, e, h1, h2⟩ := h
  exact ⟨v, r, e, Ar.chg hw h1, AS.chg hw h2⟩
end
theorem At.upL {a : Nat} {xs : List V} (h : At S H a (.list xs)) (x : Ak S H H') : At S H' a (.list xs) := h.up x (by intro k fs q; cases q)
theorem At.upT {a : Nat} {xs : List V} (h : At S H a (.tup xs)) (x : Ak S H H') : At S H' a (.tup xs) := h.up x (by intro k fs q; cases q)
theorem At.upD {a : Nat} {xs : List (Nat × V)} (h : At S H a (.dictW xs)) (x : Ak S H H') : At S H' a (.dictW xs) := h.up x (by intro k fs q; cases q)
theorem JF.up {ns : Option (List V)} {r : V} (h : JF S H ns r) (x : Ak S H H') : JF S H' ns r := by
 cases ns with
 | none => exact h
 | some l => obtain ⟨a, e, q⟩ := h; exact ⟨a, e, q.upL x⟩
theorem Dy.up {v : V} {k b : Nat} {ns : Option (List V)} (h : Dy S H v k b ns) (x : Ak S H H') : Dy S H' v k b ns := by
 obtain ⟨a, t, sh, e, q, r⟩ := h
 obtain ⟨sh', q'⟩ := q.upV x
 exact ⟨a, t, sh', e, q', r.up x⟩
theorem Dq {v : V} {k b : Nat} {ns : Option (List V)} (h : Dy S H v k b ns) : Bg Ab (d + 2) .Dq [v] H = .ok .none H := by
 obtain ⟨a, t, sh, rfl, q, r⟩ := h
 have e1 : Bg Ab (d + 1) .BM [.ref a, .w 25] H = .ok .none H := by
  cases ns with
  | none => cases r; exact Fq q
  | some l => obtain ⟨c, n, m, sh', rfl, h1, h2, h3⟩ := r; rw [BM q h1]; rfl
 simp_all! [J3, e1]
theorem AQ {v : V} {k b : Nat} {ns : Option (List V)} (hS : CH S H) (h : Dy S H v k b ns) (hk : k = 7 \/ k = 8 \/ k = 9) (hl : ∀ l, ns = some l -> l.length <= 100) :
  W S (Bg Ab (d + 3) .AQ [v]) H (fun r H' => JF S H' ns r) := by
 have e1 := Dq (Ab := Ab) (d := d) h
 obtain ⟨a, t, sh, rfl, q, r⟩ := h
 have k1 : (k == 21) = false := by rcases hk with rfl | rfl | rfl <;> rfl
 have k2 : (k == 22) = false := by rcases hk with rfl | rfl | rfl <;> rfl
 have q1 := q.1
 cases ns with
 | none =>
  cases r
  have e2 := Fq (Ab := Ab) (d := d + 1) (w := .w 5) q
  refine ⟨.none, H, ?_, Ak.refl _ _, rfl⟩
  simp_all! [F6, q1, k1, k2, e1, e2]
 | some l =>
  obtain ⟨c, n, m, sh', rfl, h1, h2, h3⟩ := r
  have e2 := BM (Ab := Ab) (d := d + 1) (w := 5) q h1
  simp [Bd] at e2
  have hl := hl l rfl
  have C7 : l.length <= 100000 := by omega
  have q2 := h2.1
  have q3 := h3.1
  refine ⟨.ref H.length, H ++ [.list l], ?_, Ak.app _ _ _, H.length, rfl, hS.new⟩
  simp_all! [F6, q1, q2, q3, k1, k2, e1, e2, C7]
theorem GB {a : Nat} {G : MH} (h : G[a]? = some (.inst .null [])) : Bg Ab (d + 1) .CA [.ref a] G = .ok .none (G.set a (.inst .null [(0, .w 6), (2, .none)])) := by
 have hset : ∀ c, (G.set a c)[a]? = some c := fun c => by rw [Ew (AH h)]
 simp_all! [G9, h, hset]
theorem KH {a : Nat} {G : MH} {k x y : V} (h : G[a]? = some (.inst .vector [])) : Bg Ab (d + 1) .BI [.ref a, k, x, y] G = .ok .none (G.set a (.inst .vector [(0, k), (1, x), (2, y), (3, .bool false), (4, .bool false)])) := by
 have hset : ∀ c, (G.set a c)[a]? = some c := fun c => by rw [Ew (AH h)]
 unfold Bg
 rw [Ee]; simp! [Ev, h, hset]
theorem CD {a : Nat} {G : MH} {k x : V} (h : G[a]? = some (.inst .vector [])) : Bg Ab (d + 1) .BI [.ref a, k, x] G = .ok .none (G.set a (.inst .vector [(0, k), (1, x), (2, .none), (3, .bool false), (4, .bool false)])) := by
 have hset : ∀ c, (G.set a c)[a]? = some c := fun c => by rw [Ew (AH h)]
 unfold Bg
 rw [Ee]; simp! [Ev, h, hset]
theorem Av {b : Nat} {xs : List V} (h : H[b]? = some (.list xs)) (hl : xs.length <= 100000) : Bg Ab (d + 2) .Av [.ref b] H = .ok (.ref (H.length + 1)) (H ++ [.list xs, Ah 9 H.length .none (.bool false)]) := by
 simp_all! [Hf, h, hl, CD]
theorem IL {k : Nat} (h : [7, 19, 20].contains k = true) : Bg Ab (d + 2) .A9 [.w k] H = .ok (.ref H.length) (H ++ [.inst .null [(0, .w 6), (2, .none)]]) := by
 rw [Db Ab rfl rfl]; simp only [List.contains_iff_mem] at h; simp! [Ea, h, GB]
def B1 {τ : Type} (R : τ -> V -> MH -> Prop) : List τ -> List V -> MH -> Prop
 | [], xs, _ => xs = []
 | l :: ls, xs, H => ∃ v r, xs = v :: r /\ R l v H /\ B1 R ls r H
theorem B1.up {τ : Type} {R : τ -> V -> MH -> Prop} (up : ∀ l v H H', R l v H -> Ak S H H' -> R l v H') : ∀ {ls : List τ} {xs : List V} {H H' : MH}, B1 R ls xs H -> Ak S H H' -> B1 R ls xs H'
 | [], _, _, _, h, _ => h
 | _ :: _, _, _, _, ⟨v, r, e, h1, h2⟩, x => ⟨v, r, e, up _ _ _ _ h1 x, B1.up up h2 x⟩
theorem B1.len {τ : Type} {R : τ -> V -> MH -> Prop} : ∀ {ls : List τ} {xs : List V} {H : MH}, B1 R ls xs H -> xs.length = ls.length
 | [], _, _, h => by cases h; rfl
 | _ :: _, _, _, ⟨v, r, e, h1, h2⟩ => by rw [e, List.length_cons, List.length_cons, B1.len h2]
theorem B1.self : ∀ (xs : List V) (H : MH), B1 (fun l v _ => v = l) xs xs H
 | [], _ => rfl
 | x :: xs, H => ⟨x, xs, rfl, rfl, B1.self xs H⟩
theorem G0 : ∀ {ts : List Tr} {vs : List V} {H : MH}, A4 S H ts vs ↔ B1 (fun t v H => Bi S H t v) ts vs H
 | [], _, _ => by rw [A4]; exact Iff.rfl
 | t :: ts, vs, H => by
  rw [A4]
  constructor
  .rintro ⟨v, r, e, h1, h2⟩; exact ⟨v, r, e, h1, G0.mp h2⟩
  .rintro ⟨v, r, e, h1, h2⟩; exact ⟨v, r, e, h1, G0.mpr h2⟩
theorem Eo : ∀ {ts : List Tr} {vs : List V} {H : MH}, AS S H ts vs ↔ B1 (fun t v H => Ar S H t v) ts vs H
 | [], _, _ => by rw [AS]; exact Iff.rfl
 | t :: ts, vs, H => by
  rw [AS]
  constructor
  .rintro ⟨v, r, e, h1, h2⟩; exact ⟨v, r, e, h1, Eo.mp h2⟩
  .rintro ⟨v, r, e, h1, h2⟩; exact ⟨v, r, e, h1, Eo.mpr h2⟩
theorem B1.map {τ υ : Type} {R : τ -> V -> MH -> Prop} {g : υ -> τ} : ∀ {ls : List υ} {xs : List V} {H : MH}, B1 (fun l v H => R (g l) v H) ls xs H -> B1 R (ls.map g) xs H
 | [], _, _, h => h
 | _ :: _, _, _, ⟨v, r, e, h1, h2⟩ => ⟨v, r, e, h1, B1.map h2⟩
theorem Km {τ : Type} {R P : τ -> V -> MH -> Prop} {f : V -> M (Option V)} {post : M Unit} (upR : ∀ l v H H', R l v H -> Ak S H H' -> R l v H') (upP : ∀ l v H H', P l v H -> Ak S H H' -> P l v H') :
  ∀ {ls : List τ} {xs : List V} {H : MH}, B1 R ls xs H -> (∀ l v H1, l ∈ ls -> Ak S H H1 -> R l v H1 -> W S (f v) H1 fun y H2 => ∃ y', y = some y' /\ P l y' H2) -> (∀ H1, Ak S H H1 -> post H1 = .ok () H1) ->
   W S (By f post xs) H fun ys H' => B1 P ls ys H'
 | [], _, H, h, _, _ => by cases h; exact ⟨[], H, rfl, Ak.refl _ _, rfl⟩
 | l :: ls, _, H, ⟨v, r, e, h1, h2⟩, hf, hp => by
  subst e
  obtain ⟨y, H1, e1, x1, y', rfl, p1⟩ := hf l v H (.head _) (Ak.refl _ _) h1
  obtain ⟨ys, H2, e2, x2, p2⟩ := Km upR upP (B1.up upR h2 x1) (fun l' v' H' hm x' => hf l' v' H' (.tail _ hm) (x1.trans x')) fun H' x' => hp H' (x1.trans x')
  refine ⟨y' :: ys, H2, ?_, x1.trans x2, y', ys, rfl, upP _ _ _ _ p1 x2, p2⟩
  unfold By bnd
  rw [e1]
  dsimp only
  rw [hp H1 x1]
  dsimp only
  rw [e2]
  rfl
theorem J5 {f : V -> M (Option V)} {post : M Unit} {g : V -> V} (hp : post H = .ok () H) : ∀ {xs : List V}, (∀ x ∈ xs, f x H = .ok (some (g x)) H) -> By f post xs H = .ok (xs.map g) H
 | [], _ => rfl
 | x :: xs, h => by
  unfold By bnd
  rw [h x (.head _)]
  dsimp only
  rw [hp]
  dsimp only
  rw [J5 hp fun y hy => h y (.tail _ hy)]
  rfl
theorem D6 {α : Type} {m : M α} {a : α} (h : m H = .ok a H') : still m H = .ok a H' := by unfold still; rw [h]
theorem CT {b : Nat} {c : An} (h : H[b]? = some c) : stays (.ref b) c H = .ok () H := by
 simp [stays, bnd, AJ, h, ret]
theorem JC {k : Nat} (h : [7, 19, 20].contains k = false) : Bg Ab (d + 2) .A9 [.w k] H = .ok .none H := by
 have h : ¬ k ∈ [7, 19, 20] := by intro q; rw [<- List.contains_iff_mem, h] at q; cases q
 simp_all! [Ea, h]
theorem Du {a k b : Nat} {t sh : V} (h : H[a]? = some (Ah k b t sh)) : Bg Ab (d + 1) .CN [.ref a] H = .ok (.ref a) (H.set a (Ah k b t (.bool true))) := by
 simp_all! [LA, h]
theorem Ak.mark {a k b : Nat} {t sh sh' : V} (h : H[a]? = some (Ah k b t sh)) : Ak S H (H.set a (Ah k b t sh')) := by
 refine ⟨by simp, fun c c' e hs => ?_⟩
 by_cases q : a = c
 .subst q
  rw [h] at e; cases e
  exact ⟨_, Ew (AH h), by simp [nm, Sf, Ah]⟩
 .exact ⟨c', by rw [Cq q]; exact e, rfl⟩
theorem CN {v : V} {k b : Nat} {ns : Option (List V)} (h : Dy S H v k b ns) : W S (Bg Ab (d + 1) .CN [v]) H (fun r _ => r = v) := by
 obtain ⟨a, t, sh, rfl, q, r⟩ := h
 exact ⟨_, _, Du q.1, Ak.mark q.1, rfl⟩
theorem AC {k : Nat} {xs : List V} {ns : Option (List V)} {v : V} : Bi S H (.atom k xs ns) v ↔ ∃ b, Dy S H v k b ns /\ At S H b (.list xs) := by
 rw [Bi]
 constructor
 .rintro ⟨a, b, t, sh, e, h1, h2, h3⟩; exact ⟨b, ⟨a, t, sh, e, h1, h3⟩, h2⟩
 .rintro ⟨b, ⟨a, t, sh, e, h1, h3⟩, h2⟩; exact ⟨a, b, t, sh, e, h1, h2, h3⟩
theorem A2 {ts : List Tr} {ns : Option (List V)} {v : V} : Bi S H (.list ts ns) v ↔ ∃ b vs, Dy S H v 7 b ns /\ At S H b (.list vs) /\ A4 S H ts vs := by
 rw [Bi]
 constructor
 .rintro ⟨a, b, t, sh, vs, e, h1, h2, h4, h3⟩; exact ⟨b, vs, ⟨a, t, sh, e, h1, h3⟩, h2, h4⟩
 .rintro ⟨b, vs, ⟨a, t, sh, e, h1, h3⟩, h2, h4⟩; exact ⟨a, b, t, sh, vs, e, h1, h2, h4, h3⟩
theorem JV {i : Int} {n : V} (h0 : 0 <= i) (h1 : i <= 100000) : Bg Ab (d + 2) .Cr [.w 8, .int i, .w 9, n] H = .ok (.dec i) H := by
 have e1 : Bg Ab (d + 1) .DD [.w 8, .int i] H = .ok (.dec i) H := by
  simp_all! [Iq, h0, h1]
 have e2 := AT (Ab := Ab) (d := d) (H := H) (k := 8)
 simp_all! [GK, e1, e2]
theorem Ix {k : Nat} {x n : V} (hk : k = 8 \/ k = 9) : Bg Ab (d + 2) .Cr [.w k, x, .w 7, n] H = .ok (.ref (H.length + 1)) (H ++ [.list [x], Ah k H.length .none (.bool true)]) := by
 have e2 := AT (Ab := Ab) (d := d) (H := H) (k := k)
 have hc : [23, 8, 24, 9].contains k = true := by rcases hk with rfl | rfl <;> rfl
 rw [hc] at e2
 have k7 : (k == 7) = false := by rcases hk with rfl | rfl <;> rfl
 have e3 : Bg Ab (d + 1) .CN [.ref (H.length + 1)] (H ++ [.list [x], Ah k H.length .none (.bool false)]) = .ok (.ref (H.length + 1)) (H ++ [.list [x], Ah k H.length .none (.bool true)]) := by
  rw [Du (k := k) (b := H.length) (t := .none) (sh := .bool false) (by simp)]
  simp
 simp only [Ah] at e3
 simp_all! [GK, e2, e3, k7, CD]
theorem Ho {a : Nat} : Bg Ab (d + 1) .Ca [.ref a, .none] H = .ok (.ref a) H := by
 simp_all! [EG]
theorem GT {a k b l : Nat} {sh : V} {ns : List V} (h : H[a]? = some (Ah k b .none sh)) (hl : H[l]? = some (.list ns)) (hn : ns.length <= 100000) :
  Bg Ab (d + 3) .Ca [.ref a, .ref l] H = .ok (.ref a) ((H ++ [.dictW [(5, .ref (H.length + 2))], .list ns, Ah 9 (H.length + 1) .none (.bool true)]).set a (Ah k b (.ref H.length) sh)) := by
 have la : a < H.length := (AH h)
 have ll : l < H.length := (AH hl)
 have e1 : Bg Ab (d + 2) .Av [.ref l] (H ++ [.dictW []]) = .ok (.ref (H.length + 2)) (H ++ [.dictW [], .list ns, Ah 9 (H.length + 1) .none (.bool false)]) := by
  have := Av (Ab := Ab) (d := d) (H := H ++ [.dictW []]) (b := l) (xs := ns) (by rw [Ck ll]; exact hl) hn
  simpa using this
 have e2 : Bg Ab (d + 2) .CN [.ref (H.length + 2)] (H ++ [.dictW [], .list ns, Ah 9 (H.length + 1) .none (.bool false)]) = .ok (.ref (H.length + 2)) (H ++ [.dictW [], .list ns, Ah 9 (H.length + 1) .none (.bool true)]) := by
  rw [Du (k := 9) (b := H.length + 1) (t := .none) (sh := .bool false) (by simp)]
  simp
 have g1 : ∀ c2 c3 c4 : An, (H ++ [c2, c3, c4])[a]? = some (Ah k b .none sh) := fun c2 c3 c4 => by rw [Ck la]; exact h
 simp only [Ah] at e1 e2 g1
 simp_all! [EG, e1, e2, g1]
theorem Ak.setN {G : MH} {n : Nat} {c : An} (x : Ak S H G) (h : H.length <= n) : Ak S H (G.set n c) := ⟨by simpa using x.1, fun a c' e hs => by
 obtain ⟨c2, e2, q⟩ := x.2 a c' e hs
 have := (AH e)
 exact ⟨c2, by rw [Cq (by omega)]; exact e2, q⟩⟩
theorem Cu {v n : V} {k k' b : Nat} {ns : Option (List V)} {xs : List V} {P : V -> V -> MH -> Prop} (hS : CH S H) (hv : Dy S H v k b ns) (hb : At S H b (.list xs)) (hk : k = 7 \/ k = 8 \/ k = 9) (Ex : (k == k') = false) (hx : xs.length <= 100) (hl : ∀ l, ns = some l -> l.length <= 100)
  (upP : ∀ l v H H', P l v H -> Ak S H H' -> P l v H')
  (hitem : ∀ x H1, x ∈ xs -> Ak S H H1 -> W S (Bg Ab (d + 3) .Cr [.w k, x, .w k', n]) H1 fun y H2 => P x y H2) :
  W S (Bg Ab (d + 4) .Cu [v, .w k', n]) H fun r H' => ∃ a b' t sh ys, r = .ref a /\ At S H' a (Ah k' b' t sh) /\ At S H' b' (.list ys) /\ B1 P xs ys H' := by
 have hE : W S (By (fun x => bnd (Aa (AI Ab (d + 3)) (.call .Cr [.attr (.var 0) 0, .var 4, .var 1, .var 2]) [some v, some (.w k'), some n, some (.ref b), some x]) fun y => ret (some y)) (stays (.ref b) (.list xs)) xs) H fun ys H' => B1 P xs ys H' := by
  refine Km (R := fun l v _ => v = l) (fun _ _ _ _ h _ => h) upP (B1.self xs H) (fun l x H1 hm x1 hx => ?_) (fun H1 x1 => CT (hb.upL x1).1)
  subst hx
  obtain ⟨a, t, sh, rfl, q, r⟩ := hv.up x1
  obtain ⟨y, H2, e2, x2, p2⟩ := hitem x H1 hm x1
  have q1 := q.1
  refine ⟨some y, H2, ?_, x2, y, rfl, p2⟩
  simp! [q1, e2]
 obtain ⟨ys, H1, e1, x1, p1⟩ := hE
 have BN := p1.len
 have hy : ys.length <= 100000 := by omega
 have hx' : xs.length <= 100000 := by omega
 obtain ⟨a, t, sh, rfl, q, r⟩ := hv
 have q1 := q.1
 have b1 := hb.1
 have hS1 := hS.up x1
 have hv4 : Dy S (H1 ++ [.list ys, .list ys, Ah k' (H1.length + 1) .none (.bool false)]) (.ref a) k b ns := Dy.up ⟨a, t, sh, rfl, q, r⟩ (x1.trans (Ak.app _ _ _))
 have hne' : ¬ k = k' := by simpa using Ex
 have c2 : (H1 ++ [An.list ys, .list ys, Ah k' (H1.length + 1) .none (.bool false)])[H1.length + 2]? = some (Ah k' (H1.length + 1) .none (.bool false)) := by simp
 have c1 : (H1 ++ [An.list ys, .list ys, Ah k' (H1.length + 1) .none (.bool false)])[H1.length + 1]? = some (.list ys) := by simp
 have nS : ∀ j, ¬ S (H1.length + j) := fun j q => absurd (hS1 _ q) (by omega)
 obtain ⟨r5, H5, e5, x5, p5⟩ := AQ (Ab := Ab) (d := d) (hS1.up (Ak.app _ _ [.list ys, .list ys, Ah k' (H1.length + 1) .none (.bool false)])) hv4 hk hl
 obtain ⟨sh5, c5⟩ := At.upV ⟨c2, nS 2⟩ x5
 have l5 := At.upL ⟨c1, nS 1⟩ x5
 simp only [Ah] at e5
 cases ns with
 | none =>
  cases p5
  have e6 := Ho (Ab := Ab) (d := d + 2) (H := H5) (a := H1.length + 2)
  refine ⟨.ref (H1.length + 2), H5, ?_, x1.trans ((Ak.app _ _ _).trans x5), H1.length + 2, H1.length + 1, .none, sh5, ys, rfl, c5, l5, B1.up upP p1 ((Ak.app _ _ _).trans x5)⟩
  simp! [] at e1
  simp_all! [GG, q1, b1, hx', Ex, hne', e1, hy, CD, e5, e6, C8]
 | some l =>
  obtain ⟨lr, rfl, p5⟩ := p5
  have hl := hl l rfl
  have e6 := GT (Ab := Ab) (d := d) c5.1 p5.1 (by omega)
  have la : H1.length + 2 < H5.length := (AH c5.1)
  have xx : Ak S H1 ((H5 ++ [.dictW [(5, .ref (H5.length + 2))], .list l, Ah 9 (H5.length + 1) .none (.bool true)]).set (H1.length + 2) (Ah k' (H1.length + 1) (.ref H5.length) sh5)) := Ak.setN (((Ak.app _ _ _).trans x5).trans (Ak.app _ _ _)) (by omega)
  refine ⟨.ref (H1.length + 2), _, ?_, x1.trans xx, H1.length + 2, H1.length + 1, .ref H5.length, sh5, ys, rfl, ⟨?_, nS 2⟩, ⟨?_, nS 1⟩, B1.up upP p1 xx⟩
  .simp! [] at e1
   simp only [Ah] at e6
   simp_all! [GG, q1, b1, hx', Ex, hne', e1, hy, CD, e5, e6, C8]
  .rw [Ew (by simp; omega)]
  .rw [Cq (by omega), Ck (by omega)]
   exact l5.1
def Gs : V -> V
 | .int i => .dec i
 | v => v
def C5 (S : Nat -> Prop) (k k' : Nat) (x y : V) (H : MH) : Prop := if k = k' then y = x else if k' = 7 then Bi S H (.atom k [x] none) y else y = Gs x
def R6 (k k' : Nat) (xs : List V) : Prop := k = k' \/ ((k = 8 \/ k = 9) /\ k' = 7) \/ (k = 8 /\ k' = 9 /\ ∀ x ∈ xs, ∃ i : Int, x = .int i /\ 0 <= i /\ i <= 100000)
theorem C5.up {k k' : Nat} {x y : V} (h : C5 S k k' x y H) (e : Ak S H H') : C5 S k k' x y H' := by
 unfold C5 at h ⊢
 split
 .rename_i q; rw [if_pos q] at h; exact h
 .rename_i q
  rw [if_neg q] at h
  split
  .rename_i q2; rw [if_pos q2] at h; exact h.up e
  .rename_i q2; rw [if_neg q2] at h; exact h
theorem B1.same {xs : List V} {k : Nat} {G : MH} : B1 (fun x y H => C5 S k k x y H) xs xs G := by
 induction xs with
 | nil => rfl
 | cons x xs ih => exact ⟨x, xs, rfl, by unfold C5; simp, ih⟩
theorem J8 {k k' : Nat} {xs : List V} {x n : V} (hS : CH S H) (hk : R6 k k' xs) (Ex : ¬ k = k') (hm : x ∈ xs) : W S (Bg Ab (d + 2) .Cr [.w k, x, .w k', n]) H fun y H2 => C5 S k k' x y H2 := by
 unfold C5
 simp only [if_neg Ex]
 rcases hk with q | ⟨h8, rfl⟩ | ⟨rfl, rfl, hi⟩
 .exact absurd q Ex
 .refine ⟨_, _, Ix h8, Ak.app _ _ _, ?_⟩
  dsimp only
  rw [if_pos rfl, AC]
  have nS : ∀ j, ¬ S (H.length + j) := fun j q => absurd (hS _ q) (by omega)
  exact ⟨H.length, ⟨H.length + 1, .none, .bool true, rfl, ⟨by simp, nS 1⟩, rfl⟩, by simp, nS 0⟩
 .obtain ⟨i, rfl, h0, h1⟩ := hi x hm
  refine ⟨_, _, JV h0 h1, Ak.refl _ _, ?_⟩
  dsimp only
  rw [if_neg (by decide)]; rfl
theorem AE {v n : V} {k k' b : Nat} {ns : Option (List V)} {xs : List V} (hS : CH S H) (hv : Dy S H v k b ns) (hb : At S H b (.list xs)) (hk : k = 7 \/ k = 8 \/ k = 9) (hc : R6 k k' xs) (hx : xs.length <= 100) (hl : ∀ l, ns = some l -> l.length <= 100) :
  W S (Bg Ab (d + 6) .AE [v, .w k', n]) H fun r H' => ∃ b' ys, r = .ref b' /\ At S H' b' (.list ys) /\ B1 (fun x y H => C5 S k k' x y H) xs ys H' := by
 have hv' := hv
 obtain ⟨a, t, sh, rfl, q, r⟩ := hv'
 have q1 := q.1
 have l1 := Ad (Ab := Ab) (d := d + 4) (H := H) (k := k)
 by_cases Ex : k = k'
 .subst Ex
  refine ⟨.ref b, H, ?_, Ak.refl _ _, b, xs, rfl, hb, B1.same⟩
  simp_all! [CP, q1]
 .have hnb : (k == k') = false := by simpa using Ex
  rcases hc with h | ⟨h8, rfl⟩ | ⟨rfl, rfl, hi⟩
  .exact absurd h Ex
  .have lk : [7, 19, 20].contains k = false := by rcases h8 with rfl | rfl <;> rfl
   rw [lk] at l1
   have l2 := Ad (Ab := Ab) (d := d + 4) (H := H) (k := 7)
   simp at l2
   have hS2 : CH S (H ++ [.list []]) := hS.up (Ak.app S H _)
   obtain ⟨r3, H3, e3, x3, a3, b3, t3, sh3, ys, rfl, c1, c2, p3⟩ := Cu (Ab := Ab) (d := d) (n := .ref H.length) (P := fun x y H => C5 S k 7 x y H) hS2 (hv.up (Ak.app _ _ _)) (hb.upL (Ak.app _ _ [.list []])) hk hnb hx hl (fun _ _ _ _ h e => h.up e)
    (fun x H1 hm x1 => J8 (d := d + 1) (hS2.up x1) (.inr (.inl ⟨h8, rfl⟩)) Ex hm)
   have e4 : Bg Ab (d + 5) .DA [.ref a] H = .ok (.ref a3) H3 := by
    simp_all! [Jw, e3]
   have c1' := c1.1
   refine ⟨.ref b3, H3, ?_, (Ak.app _ _ _).trans x3, b3, ys, rfl, c2, p3⟩
   simp_all! [CP, q1, hnb, l1, l2, e4, c1']
  .obtain ⟨r3, H3, e3, x3, a3, b3, t3, sh3, ys, rfl, c1, c2, p3⟩ := Cu (Ab := Ab) (d := d + 1) (n := n) (P := fun x y H => C5 S 8 9 x y H) hS hv hb hk hnb hx hl (fun _ _ _ _ h e => h.up e)
    (fun x H1 hm x1 => J8 (d := d + 2) (hS.up x1) (.inr (.inr ⟨rfl, rfl, hi⟩)) Ex hm)
   have l2 := Ad (Ab := Ab) (d := d + 4) (H := H) (k := 9)
   simp at l1 l2
   have c1' := c1.1
   refine ⟨.ref b3, H3, ?_, x3, b3, ys, rfl, c2, p3⟩
   simp_all! [CP, q1, hnb, l1, l2, e3, c1']
def Sj (S : Nat -> Prop) (n0 : Nat) (H : MH) : Option (List V) -> V -> Prop
 | none, t => t = .none
 | some l, t => ∃ c n m sh, t = .ref c /\ n0 <= c /\ m < n0 /\ At S H c (.dictW [(5, .ref n)]) /\ At S H n (Ah 9 m .none sh) /\ At S H m (.list l)
def Qr (S : Nat -> Prop) (n0 : Nat) (H : MH) (r : V) (k : Nat) (ys : List V) (ns : Option (List V)) (a b : Nat) (t : V) : Prop :=
 ∃ sh, r = .ref a /\ n0 <= a /\ n0 <= b /\ At S H a (Ah k b t sh) /\ At S H b (.list ys) /\ Sj S n0 H ns t
def Su (S : Nat -> Prop) (n0 : Nat) (H : MH) (r : V) (k : Nat) (ys : List V) (ns : Option (List V)) : Prop := ∃ a b t, Qr S n0 H r k ys ns a b t
def D7 (S : Nat -> Prop) (a b : Nat) (t : V) : Nat -> Prop := fun x => S x \/ x = a \/ x = b \/ t = .ref x
theorem Gu {v : V} {k b : Nat} {ns : Option (List V)} {xs : List V} (hS : CH S H) (hv : Dy S H v k b ns) (hb : At S H b (.list xs)) (hx : xs.length <= 100) :
  W S (Bg Ab (d + 3) .Gu [v]) H fun r H' => Su S H.length H' r k xs ns := by
 obtain ⟨a, t, sh, rfl, q, r⟩ := hv
 have q1 := q.1
 have b1 := hb.1
 have hx' : xs.length <= 100000 := by omega
 have nS : ∀ j, ¬ S (H.length + j) := fun j q => absurd (hS _ q) (by omega)
 have lb : b < H.length := (AH b1)
 have la : a < H.length := (AH q1)
 cases ns with
 | none =>
  cases r
  have e1 : Bg Ab (d + 2) .A3 [.ref a] H = .ok (.ref (H.length + 1)) (H ++ [.list xs, Ah k H.length .none (.bool false)]) := by
   simp_all! [Et, q1, b1, hx', KH]
  refine ⟨.ref (H.length + 1), H ++ [.list xs, Ah k H.length .none (.bool false)], ?_, Ak.app _ _ _, H.length + 1, H.length, .none, .bool false, rfl, by omega, by omega, ⟨by simp, nS 1⟩, ⟨by simp, nS 0⟩, rfl⟩
  simp_all! [Mt, q1, e1]
 | some l =>
  obtain ⟨c, n, m, sh', rfl, h1, h2, h3⟩ := r
  have d1 := h1.1
  have g1 : (H ++ [An.dictW [(5, .ref n)]])[a]? = some (Ah k b (.ref c) sh) := by rw [Ck la]; exact q1
  have g2 : (H ++ [An.dictW [(5, .ref n)]])[b]? = some (.list xs) := by rw [Ck lb]; exact b1
  simp only [Ah] at g1
  have e1 : Bg Ab (d + 2) .A3 [.ref a] H = .ok (.ref (H.length + 2)) (H ++ [.dictW [(5, .ref n)], .list xs, Ah k (H.length + 1) (.ref H.length) (.bool false)]) := by
   simp_all! [Et, IN, q1, b1, d1, g1, g2, hx', KH]
  have x : Ak S H (H ++ [.dictW [(5, .ref n)], .list xs, Ah k (H.length + 1) (.ref H.length) (.bool false)]) := Ak.app _ _ _
  obtain ⟨sh2, h2'⟩ := h2.upV x
  refine ⟨.ref (H.length + 2), _, ?_, x, H.length + 2, H.length + 1, .ref H.length, .bool false, rfl, by omega, by omega, ⟨by simp, nS 2⟩, ⟨by simp, nS 1⟩, H.length, n, m, sh2, rfl, by omega, (AH h3.1), ⟨by simp, nS 0⟩, h2', h3.upL x⟩
  simp_all! [Mt, q1, e1]
theorem Jn {S S' : Nat -> Prop} {H : MH} {k k' : Nat} (hw : ∀ x, x < H.length -> S' x -> S x) : ∀ {xs ys : List V}, B1 (fun x y H => C5 S k k' x y H) xs ys H -> B1 (fun x y H => C5 S' k k' x y H) xs ys H
 | [], _, h => h
 | _ :: _, _, ⟨v, r, e, h1, h2⟩ => by
  refine ⟨v, r, e, ?_, Jn hw h2⟩
  unfold C5 at h1 ⊢
  dsimp only at h1 ⊢
  split
  .rename_i q; rw [if_pos q] at h1; exact h1
  .rename_i q
   rw [if_neg q] at h1
   split
   .rename_i q2; rw [if_pos q2] at h1; exact h1.chg hw
   .rename_i q2; rw [if_neg q2] at h1; exact h1
theorem ND {S : Nat -> Prop} {H H' : MH} {k k' : Nat} {xs ys : List V} (h : B1 (fun x y H => C5 S k k' x y H) xs ys H) (x : Ak S H H') : B1 (fun x y H => C5 S k k' x y H) xs ys H' :=
 B1.up (R := fun x y H => C5 S k k' x y H) (fun _ _ _ _ h e => h.up e) h x
theorem Dy.chg {S S' : Nat -> Prop} {H : MH} (hw : ∀ x, x < H.length -> S' x -> S x) {v : V} {k b : Nat} {ns : Option (List V)} (h : Dy S H v k b ns) : Dy S' H v k b ns := by
 obtain ⟨a, t, sh, e, q, r⟩ := h
 exact ⟨a, t, sh, e, q.chg hw, r.chg hw⟩
theorem Cv {v n : V} {k k' b : Nat} {ns : Option (List V)} {xs : List V} (hS : CH S H) (hv : Dy S H v k b ns) (hb : At S H b (.list xs)) (hk : k = 7 \/ k = 8 \/ k = 9) (hc : R6 k k' xs) (hx : xs.length <= 100) (hl : ∀ l, ns = some l -> l.length <= 100) :
  W S (Bg Ab (d + 7) .Cv [v, .w k', n]) H fun r H' => ∃ ys a b t, Qr S H.length H' r k' ys ns a b t /\ B1 (fun x y H => C5 (D7 S a b t) k k' x y H) xs ys H' := by
 have hv' := hv
 obtain ⟨a, t, sh, rfl, q, r⟩ := hv'
 have q1 := q.1
 have la : a < H.length := (AH q1)
 by_cases Ex : k = k'
 .subst Ex
  obtain ⟨r2, H2, e2, x2, a0, b0, t0, o2⟩ := Gu (Ab := Ab) (d := d + 3) hS hv hb hx
  refine ⟨r2, H2, ?_, x2, xs, a0, b0, t0, o2, B1.same⟩
  simp_all! [Gh, q1, e2]
 .have hnb : (k == k') = false := by simpa using Ex
  cases ns with
  | none =>
   cases r
   obtain ⟨r2, H2, e2, x2, b2, ys, rfl, l2, p2⟩ := AE (Ab := Ab) (d := d) (n := n) hS hv hb hk hc hx hl
   have hy : ys.length <= 100000 := by have := p2.len; omega
   have l2' := l2.1
   have hS2 := hS.up x2
   have nS : ∀ j, ¬ S (H2.length + j) := fun j q => absurd (hS2 _ q) (by omega)
   have hle := x2.1
   have w3 : ∀ x, x < H2.length -> D7 S (H2.length + 1) H2.length .none x -> S x := fun x hx q => by
    rcases q with q | rfl | rfl | q
    .exact q
    .exact absurd hx (by omega)
    .exact absurd hx (by omega)
    .cases q
   refine ⟨.ref (H2.length + 1), H2 ++ [.list ys, Ah k' H2.length .none (.bool false)], ?_, x2.trans (Ak.app _ _ _), ys, H2.length + 1, H2.length, .none, ⟨.bool false, rfl, by omega, by omega, ⟨by simp, nS 1⟩, ⟨by simp, nS 0⟩, rfl⟩, ND (Jn w3 p2) (Ak.app _ _ _)⟩
   simp_all! [Gh, q1, hnb, e2, l2', hy, KH]
  | some l =>
   obtain ⟨c, m0, m, sh', rfl, h1, h2, h3⟩ := r
   have d1 := h1.1
   have x0 : Ak S H (H ++ [An.dictW [(5, .ref m0)]]) := Ak.app _ _ _
   have hS0 := hS.up x0
   have wS : ∀ x, x < H.length -> (S x \/ x = H.length) -> S x := fun x hx q => by
    rcases q with q | rfl
    .exact q
    .exact absurd hx (by omega)
   have hS0' : CH (fun x => S x \/ x = H.length) (H ++ [An.dictW [(5, .ref m0)]]) := fun x q => by
    rcases q with q | rfl
    .exact hS0 x q
    .simp
   obtain ⟨r2, H2, e2, x2', b2, ys, rfl, l2, p2⟩ := AE (S := fun x => S x \/ x = H.length) (Ab := Ab) (d := d) (n := n) hS0' ((hv.chg wS).up (Ak.app _ _ _)) ((hb.chg wS).upL (Ak.app _ _ _)) hk hc hx hl
   have hy : ys.length <= 100000 := by have := p2.len; omega
   have l2' := l2.1
   obtain ⟨r3, H3, e3, x2, b3, ys3, e4, l3, p3⟩ := AE (S := S) (Ab := Ab) (d := d) (n := n) hS0 (hv.up x0) (hb.upL x0) hk hc hx hl
   have e5 := e2.symm.trans e3
   cases e5
   have w3 : ∀ x, x < H2.length -> D7 S (H2.length + 1) H2.length (.ref H.length) x -> (S x \/ x = H.length) := fun x hx q => by
    rcases q with q | rfl | rfl | q
    .exact .inl q
    .exact absurd hx (by omega)
    .exact absurd hx (by omega)
    .cases q; exact .inr rfl
   have hS2 := hS0.up x2
   have nS : ∀ j, ¬ S (H2.length + j) := fun j q => absurd (hS2 _ q) (by omega)
   have hle := x2.1
   have hle0 := x0.1
   have cD : At S H2 H.length (.dictW [(5, .ref m0)]) := At.upD (x := x2) ⟨by simp, fun q => absurd (hS _ q) (by omega)⟩
   have xf : Ak S H (H2 ++ [.list ys, Ah k' H2.length (.ref H.length) (.bool false)]) := (x0.trans x2).trans (Ak.app _ _ _)
   have xg : Ak S H2 (H2 ++ [.list ys, Ah k' H2.length (.ref H.length) (.bool false)]) := Ak.app _ _ _
   obtain ⟨sh2, h2'⟩ := h2.upV xf
   have g1 : (H ++ [An.dictW [(5, .ref m0)]])[a]? = some (Ah k b (.ref c) sh) := by rw [Ck la]; exact q1
   simp only [Ah] at g1
   refine ⟨.ref (H2.length + 1), H2 ++ [.list ys, Ah k' H2.length (.ref H.length) (.bool false)], ?_, xf, ys, H2.length + 1, H2.length, .ref H.length, ⟨.bool false, rfl, by omega, by omega, ⟨by simp, nS 1⟩, ⟨by simp, nS 0⟩, H.length, m0, m, sh2, rfl, by omega, (AH h3.1), cD.upD xg, h2', h3.upL xf⟩, ND (Jn w3 p2) (Ak.app _ _ _)⟩
   simp_all! [Gh, IN, q1, d1, hnb, e2, l2', g1, hy, KH]
def Dp (S : Nat -> Prop) (k : Nat) (v : V) (H : MH) : Prop := if k = 7 then Bi S H .null v else v = .none
def E4 (b : Nat) (H H' : MH) : Prop := H.length <= H'.length /\ ∀ (x : Nat) (c : An), x ≠ b -> H[x]? = some c -> H'[x]? = some c
theorem Dp.up {k : Nat} {v : V} (h : Dp S k v H) (x : Ak S H H') : Dp S k v H' := by
 unfold Dp at h ⊢
 split
 .rename_i q; rw [if_pos q] at h; exact h.up x
 .rename_i q; rw [if_neg q] at h; exact h
theorem E4.ext {b : Nat} (h : E4 b H H') (hb : S b) : Ak S H H' := ⟨h.1, fun a c e hs => ⟨c, h.2 a c (fun q => hs (q ▸ hb)) e, rfl⟩⟩
theorem E4.trans {b : Nat} {H1 H2 H3 : MH} (x : E4 b H1 H2) (y : E4 b H2 H3) : E4 b H1 H3 := ⟨Nat.le_trans x.1 y.1, fun a c h e => y.2 a c h (x.2 a c h e)⟩
theorem E4.refl {b : Nat} : E4 b H H := ⟨Nat.le_refl _, fun _ _ _ e => e⟩
theorem E4.set {b : Nat} {c : An} : E4 b H (H.set b c) := ⟨by simp, fun x c' h e => by rw [Cq (Ne.symm h)]; exact e⟩
theorem E4.app {b : Nat} {L : MH} : E4 b H (H ++ L) := ⟨by simp, fun x c' h e => by rw [Ck (AH e)]; exact e⟩
theorem PO {k : Nat} (hS : CH S H) (hk : k = 7 \/ k = 8 \/ k = 9) : ∃ v L, Bg Ab (d + 2) .A9 [.w k] H = .ok v (H ++ L) /\ Dp S k v (H ++ L) := by
 rcases hk with rfl | hk
 .refine ⟨_, _, IL (by rfl), ?_⟩
  unfold Dp
  rw [if_pos rfl, Bi]
  exact ⟨H.length, rfl, by simp, fun q => absurd (hS _ q) (by omega)⟩
 .have : [7, 19, 20].contains k = false := by rcases hk with rfl | rfl <;> rfl
  refine ⟨.none, [], by rw [JC this, List.append_nil], ?_⟩
  unfold Dp
  rw [if_neg (by omega)]
theorem Ls {a b k : Nat} {t sh e1 : V} {e2 e3 e4 e6 : Option V} (hk : k = 7 \/ k = 8 \/ k = 9) (hb : S b) (hab : a ≠ b) : ∀ (xs ys : List V) (G : MH) (e5 : Option V), CH S G -> G[a]? = some (Ah k b t sh) -> G[b]? = some (.list ys) -> ys.length + xs.length <= 100000 ->
  ∃ e5' G' vs, CG (fun x env => Ae (AI Ab (d + 2)) [.ex (.append (.attr (.var 0) 1) (.call .A9 [.attr (.var 0) 0]))] (env.set 5 (some x))) (ret ()) xs [some (.ref a), some e1, e2, e3, e4, e5, e6] G = .ok ([some (.ref a), some e1, e2, e3, e4, e5', e6], Option.none) G' /\
   E4 b G G' /\ G'[b]? = some (.list (ys ++ vs)) /\ B1 (fun _ v H => Dp S k v H) xs vs G'
 | [], ys, G, e5, _, _, h2, _ => ⟨e5, G, [], rfl, E4.refl, by rw [List.append_nil]; exact h2, rfl⟩
 | x :: xs, ys, G, e5, hS, h1, h2, hl => by
  have lb : b < G.length := (AH h2)
  obtain ⟨v, L, l1, l2⟩ := PO (Ab := Ab) (d := d) hS hk
  have g2 : (G ++ L)[b]? = some (.list ys) := by rw [Ck lb]; exact h2
  have lb' : b < (G ++ L).length := by simp; omega
  have k1 : E4 b G ((G ++ L).set b (.list (ys ++ [v]))) := E4.app.trans E4.set
  have xS : Ak S G ((G ++ L).set b (.list (ys ++ [v]))) := k1.ext hb
  obtain ⟨e5', G', vs, r1, r2, r3, r4⟩ := Ls hk hb hab xs (ys ++ [v]) ((G ++ L).set b (.list (ys ++ [v]))) (some x) (hS.up xS) (k1.2 a _ hab h1) (Ew lb') (by simp only [List.length_append, List.length_cons, List.length_nil] at hl ⊢; omega)
  refine ⟨e5', G', v :: vs, ?_, k1.trans r2, by rw [r3]; simp, v, vs, rfl, (l2.up (E4.ext E4.set hb)).up (r2.ext hb), r4⟩
  have hy : ys.length <= 100000 := by simp only [List.length_cons] at hl; omega
  rw [CG]
  have e : Ae (AI Ab (d + 2)) [.ex (.append (.attr (.var 0) 1) (.call .A9 [.attr (.var 0) 0]))] ([some (.ref a), some e1, e2, e3, e4, e5, e6].set 5 (some x)) G = .ok ([some (.ref a), some e1, e2, e3, e4, some x, e6], Option.none) ((G ++ L).set b (.list (ys ++ [v]))) := by
   simp! [h1, h2, l1, g2, hy]
  simp only [bnd, e, ret]
  exact r1
theorem HX {a k b w : Nat} {sh : V} (h : H[a]? = some (Ah k b .none sh)) : Bg Ab (d + 1) .Cf [.ref a, .w w] H = .ok .none H := by
 simp_all! [E5, -getElem?_pos, List.getElem?_cons_zero, List.getElem?_cons_succ, h]
theorem HZ {a k b w c : Nat} {sh x : V} (h : H[a]? = some (Ah k b (.ref c) sh)) (hc : H[c]? = some (.dictW [(5, x)])) (hw : ¬ 5 = w) : Bg Ab (d + 1) .Cf [.ref a, .w w] H = .ok .none H := by
 simp_all! [E5, -getElem?_pos, List.getElem?_cons_zero, List.getElem?_cons_succ, h, hc, hw]
theorem Jz {a k b n m : Nat} {sh shn : V} (h : H[a]? = some (Ah k b .none sh)) (hn : H[n]? = some (Ah 9 m .none shn)) (han : a ≠ n) :
  Bg Ab (d + 2) .Cn [.ref a, .w 5, .ref n] H = .ok .none ((((H ++ [An.dictW []]).set a (Ah k b (.ref H.length) sh)).set n (Ah 9 m .none (.bool true))).set H.length (.dictW [(5, .ref n)])) := by
 have la : a < H.length := (AH h)
 have ln : n < H.length := (AH hn)
 have g1 : (H ++ [An.dictW []])[a]? = some (Ah k b .none sh) := by rw [Ck la]; exact h
 have g2 : ((H ++ [An.dictW []]).set a (Ah k b (.ref H.length) sh))[n]? = some (Ah 9 m .none shn) := by rw [Cq han, Ck ln]; exact hn
 have e1 := Du (Ab := Ab) (d := d) g2
 have g3 : (((H ++ [An.dictW []]).set a (Ah k b (.ref H.length) sh)).set n (Ah 9 m .none (.bool true)))[a]? = some (Ah k b (.ref H.length) sh) := by
  rw [Cq (Ne.symm han), Ew (by simp; omega)]
 have g4 : (((H ++ [An.dictW []]).set a (Ah k b (.ref H.length) sh)).set n (Ah 9 m .none (.bool true)))[H.length]? = some (.dictW []) := by
  rw [Cq (by omega), Cq (by omega)]; simp
 simp only [Ah] at e1 g1 g3 g4
 simp_all! [FN, -getElem?_pos, List.getElem?_cons_zero, List.getElem?_cons_succ, h, g1, e1, g3, g4]
theorem MK {a k b n m c : Nat} {sh shn x : V} (h : H[a]? = some (Ah k b (.ref c) sh)) (hc : H[c]? = some (.dictW [(5, x)])) (hn : H[n]? = some (Ah 9 m .none shn)) (han : a ≠ n) (hcn : c ≠ n) :
  Bg Ab (d + 2) .Cn [.ref a, .w 5, .ref n] H = .ok .none ((H.set n (Ah 9 m .none (.bool true))).set c (.dictW [(5, .ref n)])) := by
 have e1 := Du (Ab := Ab) (d := d) hn
 have g3 : (H.set n (Ah 9 m .none (.bool true)))[a]? = some (Ah k b (.ref c) sh) := by rw [Cq (Ne.symm han)]; exact h
 have g4 : (H.set n (Ah 9 m .none (.bool true)))[c]? = some (.dictW [(5, x)]) := by rw [Cq (Ne.symm hcn)]; exact hc
 simp only [Ah] at e1 g3 g4
 simp_all! [FN, -getElem?_pos, List.getElem?_cons_zero, List.getElem?_cons_succ, h, e1, g3, g4]
def E6 (n0 : Nat) (ns : Option (List V)) (mo : Option V) (sz : Nat) : Option (List V) := match ns, mo with
 | none, none => none
 | ns, mo => some ((ns.getD (List.replicate n0 (.w 16)) ++ mo.toList) ++ List.replicate (sz - (ns.getD (List.replicate n0 (.w 16)) ++ mo.toList).length) (.w 16))
def QJ (S : Nat -> Prop) (G : MH) (t : V) : Option (List V) -> V -> Prop
 | none, t' => t' = .none
 | some l, t' => ∃ c n m sh, t' = .ref c /\ (t = .ref c \/ ¬ S c) /\ G[c]? = some (.dictW [(5, .ref n)]) /\ At S G n (Ah 9 m .none sh) /\ At S G m (.list l)
def RP (S : Nat -> Prop) (G : MH) (t : V) : Option (List V) -> Prop
 | none => t = .none
 | some _ => ∃ c x, t = .ref c /\ S c /\ G[c]? = some (.dictW [(5, x)])
def SI (S : Nat -> Prop) (G : MH) : Option V -> V -> Prop
 | none, v => v = .none
 | some w, v => ∃ l, v = .ref l /\ At S G l (.list [w])
theorem KP {τ : Type} {k : Nat} {ls : List τ} {vs : List V} (h : B1 (fun (_ : τ) v H => Dp S k v H) ls vs H) (x : Ak S H H') : B1 (fun (_ : τ) v H => Dp S k v H) ls vs H' :=
 B1.up (R := fun (_ : τ) v H => Dp S k v H) (fun _ _ _ _ h e => Dp.up h e) h x
theorem GI {G1 L : MH} {a b k n m : Nat} {t sh shn : V} {zs l : List V} (hS : CH S G1) (ha : S a) (hb : S b) (g1 : G1[a]? = some (Ah k b t sh)) (g2 : G1[b]? = some (.list zs)) (hn : (G1 ++ L)[n]? = some (Ah 9 m .none shn)) (hm : (G1 ++ L)[m]? = some (.list l))
  (hn1 : G1.length <= n) (hm1 : G1.length <= m) (ht : t = .none \/ ∃ c x, t = .ref c /\ S c /\ G1[c]? = some (.dictW [(5, x)])) :
  ∃ G' t', Bg Ab (d + 2) .Cn [.ref a, .w 5, .ref n] (G1 ++ L) = .ok .none G' /\ Ak S G1 G' /\ G'[a]? = some (Ah k b t' sh) /\ G'[b]? = some (.list zs) /\ QJ S G' t (some l) t' := by
 have la : a < G1.length := (AH g1)
 have lb : b < G1.length := (AH g2)
 have ln : n < (G1 ++ L).length := (AH hn)
 have lm : m < (G1 ++ L).length := (AH hm)
 have hab : a ≠ b := fun q => by rw [q, g2] at g1; cases g1
 have hmn : m ≠ n := fun q => by rw [q, hn] at hm; cases hm
 have nS : ∀ j, G1.length <= j -> ¬ S j := fun j h q => absurd (hS _ q) (by omega)
 have ga : (G1 ++ L)[a]? = some (Ah k b t sh) := by rw [Ck la]; exact g1
 have gb : (G1 ++ L)[b]? = some (.list zs) := by rw [Ck lb]; exact g2
 rcases ht with rfl | ⟨c, x, rfl, hc, gc⟩
 .refine ⟨_, .ref (G1 ++ L).length, Jz ga hn (by omega), ?_, ?_, ?_, (G1 ++ L).length, n, m, .bool true, rfl, .inr (nS _ (by simp)), ?_, ⟨?_, nS _ hn1⟩, ⟨?_, nS _ hm1⟩⟩
  .refine Ak.setN (Ak.setN (Ak.trans (Ak.trans (Ak.app _ _ _) (Ak.app _ _ _)) (Ak.set ha)) hn1) (by simp)
  .rw [Cq (by omega), Cq (by omega), Ew (by simp; omega)]
  .rw [Cq (by omega), Cq (by omega), Cq hab, Ck (by omega)]; exact gb
  .rw [Ew (by simp)]
  .rw [Cq (by omega), Ew (by simp at ln ⊢; omega)]
  .rw [Cq (by omega), Cq (Ne.symm hmn), Cq (by omega), Ck lm]; exact hm
 .have lc : c < G1.length := (AH gc)
  have gc' : (G1 ++ L)[c]? = some (.dictW [(5, x)]) := by rw [Ck lc]; exact gc
  have hac : a ≠ c := fun q => by rw [q, gc] at g1; cases g1
  have hbc : b ≠ c := fun q => by rw [q, gc] at g2; cases g2
  refine ⟨_, .ref c, MK ga gc' hn (by omega) (by omega), ?_, ?_, ?_, c, n, m, .bool true, rfl, .inl rfl, ?_, ⟨?_, nS _ hn1⟩, ⟨?_, nS _ hm1⟩⟩
  .exact Ak.trans (Ak.setN (Ak.app _ _ _) hn1) (Ak.set hc)
  .rw [Cq (Ne.symm hac), Cq (by omega)]; exact ga
  .rw [Cq (Ne.symm hbc), Cq (by omega)]; exact gb
  .rw [Ew (by simp at ln ⊢; omega)]
  .rw [Cq (by omega), Ew ln]
  .rw [Cq (by omega), Cq (Ne.symm hmn)]; exact hm
theorem Os {G : MH} {a b k sz : Nat} {t sh nv mv : V} {ys : List V} {ns : Option (List V)} {mo : Option V} (hS : CH S G) (ha : S a) (hb : S b) (hk : k = 7 \/ k = 8 \/ k = 9) (h1 : G[a]? = some (Ah k b t sh)) (h2 : G[b]? = some (.list ys))
  (ht : RP S G t ns) (hn : JF S G ns nv) (hm : SI S G mo mv) (hz : ys.length <= sz) (hz2 : sz <= 100) (hz3 : (ns.getD (List.replicate ys.length (.w 16)) ++ mo.toList).length <= sz) :
  ∃ G' vs t', Bg Ab (d + 5) .Bw [.ref a, .int sz, nv, mv] G = .ok .none G' /\ Ak S G G' /\ G'[a]? = some (Ah k b t' sh) /\ G'[b]? = some (.list (ys ++ vs)) /\ B1 (fun _ v H => Dp S k v H) (List.replicate (sz - ys.length) ()) vs G' /\ QJ S G' t (E6 ys.length ns mo sz) t' := by
 have hab : a ≠ b := fun q => by rw [q, h2] at h1; cases h1
 have r1 := Eb (Ab := Ab) (d := d + 3) (H := G) (i := (sz : Int)) (by omega)
 obtain ⟨e5, G1, vs, l1, kp, l3, l4⟩ := Ls (Ab := Ab) (d := d + 2) (e1 := .int sz) (e2 := some nv) (e3 := some mv) (e4 := some (.int ys.length)) (e6 := none) hk hb hab (B3 ys.length sz) ys G none hS h1 h2 (by simp [B3]; omega)
 have x1 : Ak S G G1 := kp.ext hb
 have hS1 := hS.up x1
 have g1 := kp.2 a _ hab h1
 have l4' : B1 (fun _ v H => Dp S k v H) (List.replicate (sz - ys.length) ()) vs G1 := by
  have : ∀ {xs : List V} {vs : List V} {n : Nat}, xs.length = n -> B1 (fun (_ : V) v H => Dp S k v H) xs vs G1 -> B1 (fun (_ : Unit) v H => Dp S k v H) (List.replicate n ()) vs G1 := by
   intro xs
   induction xs with
   | nil => intro vs n e h; cases e; exact h
   | cons x xs ih =>
    rintro vs n e ⟨v, r, e1, h1, h2⟩
    cases e
    exact ⟨v, r, e1, h1, ih rfl h2⟩
  exact this (by simp [B3]) l4
 have hy : ys.length <= 100000 := by omega
 have hy0 : (ys.length : Int) <= 100000 := by omega
 have hy1 : (ys.length : Int) <= 1000 := by omega
 have hs0 : (sz : Int) <= 100000 := by omega
 have la : a < G1.length := (AH g1)
 have nS : ∀ j, ¬ S (G1.length + j) := fun j q => absurd (hS1 _ q) (by omega)
 simp! [] at l1
 cases ns with
 | none =>
  have ht : t = .none := ht
  subst ht
  cases hn
  have d1 := HX (Ab := Ab) (d := d + 3) (w := 25) g1
  have d2 := HX (Ab := Ab) (d := d + 3) (w := 31) g1
  cases mo with
  | none =>
   cases hm
   refine ⟨G1, vs, .none, ?_, x1, g1, l3, l4', rfl⟩
   simp_all! [CK, h1, h2, r1, l1, hy, hy0, hs0, d1, d2]
  | some w =>
   obtain ⟨ml, rfl, hml⟩ := hm
   have hm1 := (hml.upL x1).1
   have lm : ml < G1.length := (AH hm1)
   have hM : ∀ L : MH, (G1 ++ L)[ml]? = some (.list [w]) := fun L => by rw [Ck lm]; exact hm1
   have hA : ∀ L : MH, (G1 ++ L)[a]? = some (Ah k b .none sh) := fun L => by rw [Ck la]; exact g1
   have Ex : ¬ G1.length + 1 = ml := by omega
   simp only [Option.getD_none, Option.toList_some, List.length_append, List.length_replicate, List.length_singleton] at hz3
   generalize hr : List.replicate (sz - (ys.length + 1)) (V.w 16) = rem
   generalize hr0 : List.replicate ys.length (V.w 16) = rep0
   have lr : rem.length = sz - (ys.length + 1) := by rw [<- hr, List.length_replicate]
   have lr0 : rep0.length = ys.length := by rw [<- hr0, List.length_replicate]
   have e1 := Av (Ab := Ab) (d := d + 2) (H := G1 ++ [An.list [.w 16], .list (rep0 ++ w :: rem), .list [.w 16], .list rem]) (b := G1.length + 1) (xs := rep0 ++ w :: rem) (by simp) (by simp [lr, lr0]; omega)
   have e1' : Bg Ab (d + 4) .Av [.ref (G1.length + 1)] (G1 ++ [An.list [.w 16], .list (rep0 ++ w :: rem), .list [.w 16], .list rem]) = .ok (.ref (G1.length + 5)) (G1 ++ [An.list [.w 16], .list (rep0 ++ w :: rem), .list [.w 16], .list rem, .list (rep0 ++ w :: rem), Ah 9 (G1.length + 4) .none (.bool false)]) := by simpa using e1
   obtain ⟨G', t', e2, x2, p1, p2, p3⟩ := GI (Ab := Ab) (d := d + 2) (L := [An.list [.w 16], .list (rep0 ++ w :: rem), .list [.w 16], .list rem, .list (rep0 ++ w :: rem), Ah 9 (G1.length + 4) .none (.bool false)]) hS1 ha hb g1 l3 (n := G1.length + 5) (m := G1.length + 4) (l := rep0 ++ w :: rem) (by simp; rfl) (by simp) (by omega) (by omega) (.inl rfl)
   have hk0 : (sz : Int) - (rep0.length + 1) = ((sz - (ys.length + 1) : Nat) : Int) := by rw [lr0]; omega
   have hk1 : (0 : Int) <= ((sz - (ys.length + 1) : Nat) : Int) := by omega
   have hk2 : ((sz - (ys.length + 1) : Nat) : Int) <= 1000 := by omega
   have BN : rep0.length <= 100000 := by omega
   have hlen1 : rep0.length + 1 <= 100000 := by omega
   have hlen2 : rep0.length + 1 + rem.length <= 100000 := by omega
   refine ⟨G', vs, t', ?_, x1.trans x2, p1, p2, KP l4' x2, ?_⟩
   .simp only [Ah] at e1' e2 hA
    simp_all! [CK, h1, h2, r1, l1, hy, hy0, hy1, hs0, d1, d2, g1, l3, hM, hA, Ex, hr, hr0, hk0, hk1, hk2, BN, hlen1, hlen2, e1', e2]
   .unfold E6; simpa [hr, hr0, lr0] using p3
 | some l =>
  obtain ⟨c, x, rfl, hc, gc⟩ := ht
  obtain ⟨nl, rfl, hnl⟩ := hn
  have hbc : b ≠ c := fun q => by rw [q, gc] at h2; cases h2
  have gc1 := kp.2 c _ (Ne.symm hbc) gc
  have d1 := HZ (Ab := Ab) (d := d + 3) (w := 25) g1 gc1 (by decide)
  have d2 := HZ (Ab := Ab) (d := d + 3) (w := 31) g1 gc1 (by decide)
  have hn1 := (hnl.upL x1).1
  have ln : nl < G1.length := (AH hn1)
  have hL : ∀ L : MH, (G1 ++ L)[nl]? = some (.list l) := fun L => by rw [Ck ln]; exact hn1
  have hA : ∀ L : MH, (G1 ++ L)[a]? = some (Ah k b (.ref c) sh) := fun L => by rw [Ck la]; exact g1
  cases mo with
  | none =>
   cases hm
   simp only [Option.getD_some, Option.toList_some, Option.toList_none, List.length_append, List.length_nil, List.length_singleton, Nat.add_zero] at hz3
   generalize hr : List.replicate (sz - l.length) (V.w 16) = rem
   generalize hr0 : List.replicate ys.length (V.w 16) = rep0
   have lr : rem.length = sz - l.length := by rw [<- hr, List.length_replicate]
   have e1 := Av (Ab := Ab) (d := d + 2) (H := G1 ++ [An.list [.w 16], .list rep0, .list (l ++ rem), .list [.w 16], .list rem]) (b := G1.length + 2) (xs := (l ++ rem)) (by simp) (by simp [lr]; omega)
   have e1' : Bg Ab (d + 4) .Av [.ref (G1.length + 2)] (G1 ++ [An.list [.w 16], .list rep0, .list (l ++ rem), .list [.w 16], .list rem]) = .ok (.ref (G1.length + 6)) (G1 ++ [An.list [.w 16], .list rep0, .list (l ++ rem), .list [.w 16], .list rem, .list (l ++ rem), Ah 9 (G1.length + 5) .none (.bool false)]) := by simpa using e1
   obtain ⟨G', t', e2, x2, p1, p2, p3⟩ := GI (Ab := Ab) (d := d + 2) (L := [An.list [.w 16], .list rep0, .list (l ++ rem), .list [.w 16], .list rem, .list (l ++ rem), Ah 9 (G1.length + 5) .none (.bool false)]) hS1 ha hb g1 l3 (n := G1.length + 6) (m := G1.length + 5) (l := (l ++ rem)) (by simp; rfl) (by simp) (by omega) (by omega) (.inr ⟨c, x, rfl, hc, gc1⟩)
   have hk0 : (sz : Int) - (l.length : Int) = (((sz - l.length) : Nat) : Int) := by omega
   have hk1 : (0 : Int) <= (((sz - l.length) : Nat) : Int) := by omega
   have hk2 : (((sz - l.length) : Nat) : Int) <= 1000 := by omega
   have BN : l.length <= 100000 := by omega
   have hlen2 : l.length + rem.length <= 100000 := by omega
   refine ⟨G', vs, t', ?_, x1.trans x2, p1, p2, KP l4' x2, ?_⟩
   .simp only [Ah] at e1' e2 hA
    simp_all! [CK, h1, h2, r1, l1, hy, hy0, hy1, hs0, d1, d2, g1, l3, hL, hA, hr, hr0, hk0, hk1, hk2, BN, hlen2, e1', e2]
   .unfold E6; simpa [hr, hr0] using p3
  | some w =>
   obtain ⟨ml, rfl, hml⟩ := hm
   have hm1 := (hml.upL x1).1
   have lm : ml < G1.length := (AH hm1)
   have hM : ∀ L : MH, (G1 ++ L)[ml]? = some (.list [w]) := fun L => by rw [Ck lm]; exact hm1
   have Ex : ¬ G1.length + 2 = ml := by omega
   simp only [Option.getD_some, Option.toList_some, Option.toList_none, List.length_append, List.length_nil, List.length_singleton, Nat.add_zero] at hz3
   generalize hr : List.replicate (sz - (l.length + 1)) (V.w 16) = rem
   generalize hr0 : List.replicate ys.length (V.w 16) = rep0
   have lr : rem.length = sz - (l.length + 1) := by rw [<- hr, List.length_replicate]
   have e1 := Av (Ab := Ab) (d := d + 2) (H := G1 ++ [An.list [.w 16], .list rep0, .list (l ++ w :: rem), .list [.w 16], .list rem]) (b := G1.length + 2) (xs := (l ++ w :: rem)) (by simp) (by simp [lr]; omega)
   have e1' : Bg Ab (d + 4) .Av [.ref (G1.length + 2)] (G1 ++ [An.list [.w 16], .list rep0, .list (l ++ w :: rem), .list [.w 16], .list rem]) = .ok (.ref (G1.length + 6)) (G1 ++ [An.list [.w 16], .list rep0, .list (l ++ w :: rem), .list [.w 16], .list rem, .list (l ++ w :: rem), Ah 9 (G1.length + 5) .none (.bool false)]) := by simpa using e1
   obtain ⟨G', t', e2, x2, p1, p2, p3⟩ := GI (Ab := Ab) (d := d + 2) (L := [An.list [.w 16], .list rep0, .list (l ++ w :: rem), .list [.w 16], .list rem, .list (l ++ w :: rem), Ah 9 (G1.length + 5) .none (.bool false)]) hS1 ha hb g1 l3 (n := G1.length + 6) (m := G1.length + 5) (l := (l ++ w :: rem)) (by simp; rfl) (by simp) (by omega) (by omega) (.inr ⟨c, x, rfl, hc, gc1⟩)
   have hk0 : (sz : Int) - ((l.length : Int) + 1) = (((sz - (l.length + 1)) : Nat) : Int) := by omega
   have hk1 : (0 : Int) <= (((sz - (l.length + 1)) : Nat) : Int) := by omega
   have hk2 : (((sz - (l.length + 1)) : Nat) : Int) <= 1000 := by omega
   have BN : l.length <= 100000 := by omega
   have hlen1 : l.length + 1 <= 100000 := by omega
   have hlen2 : l.length + 1 + rem.length <= 100000 := by omega
   refine ⟨G', vs, t', ?_, x1.trans x2, p1, p2, KP l4' x2, ?_⟩
   .simp only [Ah] at e1' e2 hA
    simp_all! [CK, h1, h2, r1, l1, hy, hy0, hy1, hs0, d1, d2, g1, l3, hL, hA, hr, hr0, hk0, hk1, hk2, BN, hlen2, e1', e2, hM, Ex, hlen1]
   .unfold E6; simpa [hr, hr0] using p3
theorem A4.app : ∀ {ts us : List Tr} {vs ws : List V}, A4 S H ts vs -> A4 S H us ws -> A4 S H (ts ++ us) (vs ++ ws)
 | [], us, vs, ws, h, h2 => by rw [A4] at h; rw [h]; exact h2
 | t :: ts, us, vs, ws, h, h2 => by
  rw [A4] at h
  obtain ⟨v, r, e, h1, h3⟩ := h
  rw [e, List.cons_append, List.cons_append, A4]
  exact ⟨v, r ++ ws, rfl, h1, A4.app h3 h2⟩
theorem A4.set {t : Tr} {v : V} (q : Bi S H t v) : ∀ {ts : List Tr} {vs : List V} (i : Nat), A4 S H ts vs -> A4 S H (ts.set i t) (vs.set i v)
 | [], _, _, h => by rw [A4] at h; rw [h]; rw [List.set_nil, List.set_nil, A4]
 | _ :: ts, _, 0, h => by
  rw [A4] at h
  obtain ⟨v', r, e, h1, h3⟩ := h
  rw [e, List.set_cons_zero, List.set_cons_zero, A4]
  exact ⟨v, r, rfl, q, h3⟩
 | _ :: ts, _, i + 1, h => by
  rw [A4] at h
  obtain ⟨v', r, e, h1, h3⟩ := h
  rw [e, List.set_cons_succ, List.set_cons_succ, A4]
  exact ⟨v', _, rfl, h1, A4.set q i h3⟩
theorem A4.len {ts : List Tr} {vs : List V} (h : A4 S H ts vs) : vs.length = ts.length := (G0.mp h).len
theorem A4.get {ts : List Tr} {vs : List V} {i : Nat} {t : Tr} (h : A4 S H ts vs) (e : ts[i]? = some t) : ∃ v, vs[i]? = some v /\ Bi S H t v := by
 induction ts generalizing vs i with
 | nil => simp at e
 | cons u ts ih =>
  rw [A4] at h
  obtain ⟨v, r, rfl, h1, h2⟩ := h
  cases i with
  | zero => simp at e; subst e; exact ⟨v, rfl, h1⟩
  | succ i => rw [List.getElem?_cons_succ] at e ⊢; exact ih h2 e
theorem Gl {k : Nat} : ∀ {xs ys : List V}, B1 (fun x y H => C5 S k k x y H) xs ys H -> ys = xs
 | [], _, h => h
 | x :: xs, _, ⟨v, r, e, h1, h2⟩ => by
  unfold C5 at h1
  dsimp only at h1
  rw [if_pos rfl] at h1
  rw [e, h1, Gl h2]
theorem IG : ∀ {xs ys : List V}, B1 (fun x y H => C5 S 8 9 x y H) xs ys H -> ys = xs.map Gs
 | [], _, h => h
 | x :: xs, _, ⟨v, r, e, h1, h2⟩ => by
  unfold C5 at h1
  dsimp only at h1
  rw [if_neg (by decide), if_neg (by decide)] at h1
  rw [e, h1, IG h2]; rfl
theorem HM {k : Nat} (hk : ¬ k = 7) : ∀ {xs ys : List V}, B1 (fun x y H => C5 S k 7 x y H) xs ys H -> A4 S H (xs.map fun x => .atom k [x] none) ys
 | [], _, h => by rw [List.map_nil, A4]; exact h
 | x :: xs, _, ⟨v, r, e, h1, h2⟩ => by
  unfold C5 at h1
  dsimp only at h1
  rw [if_neg hk, if_pos rfl] at h1
  rw [List.map_cons, A4]
  exact ⟨v, r, e, h1, HM hk h2⟩
theorem HG : ∀ {n : Nat} {vs : List V}, B1 (fun (_ : Unit) v H => Dp S 7 v H) (List.replicate n ()) vs H -> A4 S H (List.replicate n .null) vs
 | 0, _, h => by rw [List.replicate_zero, A4]; exact h
 | n + 1, _, h => by
  rw [List.replicate_succ] at h ⊢
  obtain ⟨v, r, e, h1, h2⟩ := h
  unfold Dp at h1
  rw [if_pos rfl] at h1
  rw [A4]
  exact ⟨v, r, e, h1, HG h2⟩
theorem Kg {k : Nat} (hk : ¬ k = 7) : ∀ {n : Nat} {vs : List V}, B1 (fun (_ : Unit) v H => Dp S k v H) (List.replicate n ()) vs H -> vs = List.replicate n .none
 | 0, _, h => h
 | n + 1, _, h => by
  rw [List.replicate_succ] at h ⊢
  obtain ⟨v, r, e, h1, h2⟩ := h
  unfold Dp at h1
  rw [if_neg hk] at h1
  rw [e, h1, Kg hk h2]
theorem JW {v : V} (h : Bi S H .null v) : Bg Ab (d + 1) .BS [v] H = .ok (.int 0) H := by
 rw [Bi] at h
 obtain ⟨a, rfl, q⟩ := h
 have q1 := q.1
 simp_all! [HP, q1]
theorem BS {v : V} {k b : Nat} {ns : Option (List V)} {xs : List V} (h : Dy S H v k b ns) (hb : At S H b (.list xs)) (hk : k = 7 \/ k = 8 \/ k = 9) (hx : xs.length <= 100) : Bg Ab (d + 1) .BS [v] H = .ok (.int xs.length) H := by
 obtain ⟨a, t, sh, rfl, q, r⟩ := h
 have q1 := q.1
 have b1 := hb.1
 have k6 : ¬ k = 6 := by omega
 have hx' : xs.length <= 100000 := by omega
 simp_all! [HP, q1, b1, k6, hx']
abbrev Gw : An := .tup [.w 6, .w 23, .w 8, .w 24, .w 9, .w 7, .w 19]
theorem BL {k : Nat} (hk : k = 8 \/ k = 9) : Bg Ab (d + 1) .BL [.w k] H = .ok (.int (if k = 8 then 2 else 4)) (H ++ [Gw]) := by
 rcases hk with rfl | rfl
 .simp_all! [EL, wn, Fz, Fb, List.findIdx?, List.findIdx?.go]
 .simp_all! [EL, wn, Fz, Fb, List.findIdx?, List.findIdx?.go]
theorem BF {l k1 k2 : Nat} (h1 : k1 = 8 \/ k1 = 9) (h2 : k2 = 8 \/ k2 = 9) (h : H[l]? = some (.list [.w k1, .w k2])) : Bg Ab (d + 2) .BF [.ref l] H = .ok (.w (if k1 = 8 /\ k2 = 8 then 8 else 9)) (H ++ [Gw, Gw, Gw]) := by
 have ll : l < H.length := (AH h)
 have hL : ∀ L : MH, (H ++ L)[l]? = some (.list [.w k1, .w k2]) := fun L => by rw [Ck ll]; exact h
 have e1 := fun G : MH => BL (Ab := Ab) (d := d) (H := G) h1
 have e2 := fun G : MH => BL (Ab := Ab) (d := d) (H := G) h2
 simp_all! [FQ, h, hL, C8, CG, e1, e2]
 rcases h1 with rfl | rfl <;> rcases h2 with rfl | rfl <;> simp! []
theorem Gr {v x : V} {b : Nat} {ns : Option (List V)} (h : Dy S H v 7 b ns) : Bg Ab (d + 2) .Bt [v, x] H = .ok (.w 7) H := by
 obtain ⟨a, t, sh, rfl, q, r⟩ := h
 have q1 := q.1
 have l1 := Ad (Ab := Ab) (d := d) (H := H) (k := 7)
 simp at l1
 simp_all! [Dt, q1, l1]
theorem Go {v x : V} {k k2 b b2 : Nat} {ns ns2 : Option (List V)} (h : Dy S H v k b ns) (h2 : Dy S H x k2 b2 ns2) (hk : k = 8 \/ k = 9) (hk2 : k2 = 8 \/ k2 = 9) :
  ∃ L, Bg Ab (d + 3) .Bt [v, x] H = .ok (.w (if k = 8 /\ k2 = 8 then 8 else 9)) (H ++ L) := by
 obtain ⟨a, t, sh, rfl, q, r⟩ := h
 obtain ⟨a2, t2, sh2, rfl, q2, r2⟩ := h2
 have q1 := q.1
 have q3 := q2.1
 have l1 := Ad (Ab := Ab) (d := d + 1) (H := H) (k := k)
 have lk : [7, 19, 20].contains k = false := by rcases hk with rfl | rfl <;> rfl
 rw [lk] at l1
 have a1 := Br (Ab := Ab) (d := d + 1) q2
 have ak : [23, 8, 24, 9].contains k2 = true := by rcases hk2 with rfl | rfl <;> rfl
 rw [ak] at a1
 have c1 := BF (Ab := Ab) (d := d) (H := H ++ [An.list [.w k, .w k2]]) (l := H.length) hk hk2 (by simp)
 refine ⟨[.list [.w k, .w k2], Gw, Gw, Gw], ?_⟩
 simp_all! [Dt, q1, q3, l1, a1, c1]
theorem FD {v x : V} {k b b2 : Nat} {ns ns2 : Option (List V)} (h : Dy S H v k b ns) (h2 : Dy S H x 7 b2 ns2) (hk : k = 8 \/ k = 9) :
  Bg Ab (d + 3) .Bt [v, x] H = .ok (.w 7) H := by
 obtain ⟨a, t, sh, rfl, q, r⟩ := h
 obtain ⟨a2, t2, sh2, rfl, q2, r2⟩ := h2
 have q1 := q.1
 have q3 := q2.1
 have l1 := Ad (Ab := Ab) (d := d + 1) (H := H) (k := k)
 have lk : [7, 19, 20].contains k = false := by rcases hk with rfl | rfl <;> rfl
 rw [lk] at l1
 have l2 := Ad (Ab := Ab) (d := d + 1) (H := H) (k := 7)
 have a1 := Br (Ab := Ab) (d := d + 1) q2
 simp at a1 l2
 simp_all! [Dt, q1, q3, l1, l2, a1]
def Oc : Option V -> MH
 | none => []
 | some w => [.list [w]]
def QL : Option V -> Nat -> V
 | none, _ => .none
 | some _, n => .ref n
def BA (n : Nat) (ns : Option (List V)) (mo : Option V) (p : Nat) : Option (List V) := if n <= p then E6 n ns mo (p + 1) else ns
theorem JF.chg (hw : ∀ x, x < H.length -> S' x -> S x) {ns : Option (List V)} {r : V} (h : JF S H ns r) : JF S' H ns r := by
 cases ns with
 | none => exact h
 | some l => obtain ⟨a, e, q⟩ := h; exact ⟨a, e, q.chg hw⟩
theorem KN {H1 : MH} {a b k p : Nat} {t r7 nv : V} {ys : List V} {ns : Option (List V)} {mo : Option V} (hS : CH S H) (x1 : Ak S H H1) (ow : Qr S H.length H1 r7 k ys ns a b t) (hn : JF S H ns nv) (hk : k = 7 \/ k = 8 \/ k = 9) (hp : p < 100)
  (hl : ys.length <= p -> (ns.getD (List.replicate ys.length (.w 16)) ++ mo.toList).length <= p + 1) :
  ∃ H2 vs t' sh, (if ys.length <= p then Bg Ab (d + 5) .Bw [.ref a, .int ((p : Int) + 1), nv, QL mo H1.length] (H1 ++ Oc mo) = .ok .none H2 else H2 = H1 /\ vs = []) /\
   Ak (D7 S a b t) H H2 /\ At S H2 a (Ah k b t' sh) /\ At S H2 b (.list (ys ++ vs)) /\ B1 (fun (_ : Unit) v H => Dp (D7 S a b t) k v H) (List.replicate (p + 1 - ys.length) ()) vs H2 /\ Ih (fun x => S x \/ x = b) H2 (BA ys.length ns mo p) t' /\ Ak (D7 S a b t) H1 H2 := by
 obtain ⟨sh, rfl, na, nb, ca, cb, oa⟩ := ow
 have x1' : Ak (D7 S a b t) H H1 := x1.more fun x q => .inl q
 have wS : ∀ x, x < H.length -> D7 S a b t x -> S x := fun x hx q => by
  rcases q with q | rfl | rfl | q
  .exact q
  .exact absurd hx (by omega)
  .exact absurd hx (by omega)
  .subst q
   cases ns with
   | none => cases oa
   | some l =>
    obtain ⟨c, n, m, sh', e, nc, _⟩ := oa
    cases e
    exact absurd hx (by omega)
 have hn1 : JF (D7 S a b t) H1 ns nv := (hn.chg wS).up x1'
 have la : a < H1.length := (AH ca.1)
 have lb : b < H1.length := (AH cb.1)
 have hS1 : CH (D7 S a b t) H1 := fun x q => by
  rcases q with q | rfl | rfl | q
  .exact hS.up x1 x q
  .exact la
  .exact lb
  .subst q
   cases ns with
   | none => cases oa
   | some l =>
    obtain ⟨c, n, m, sh', e, nc, _, hc, _⟩ := oa
    cases e
    exact (AH hc.1)
 by_cases hge : ys.length <= p
 .simp only [if_pos hge]
  have hl := hl hge
  have xL : Ak (D7 S a b t) H1 (H1 ++ Oc mo) := Ak.app _ _ _
  have hA : ∀ {x : Nat} {c : An}, H1[x]? = some c -> (H1 ++ Oc mo)[x]? = some c := fun h => by rw [Ck (AH h)]; exact h
  have ht : RP (D7 S a b t) (H1 ++ Oc mo) t ns := by
   cases ns with
   | none => exact oa
   | some l =>
    obtain ⟨c, n, m, sh', e, nc, hm, h1, h2, h3⟩ := oa
    exact ⟨c, .ref n, e, .inr (.inr (.inr e)), hA h1.1⟩
  have hmo : SI (D7 S a b t) (H1 ++ Oc mo) mo (QL mo H1.length) := by
   cases mo with
   | none => rfl
   | some w => exact ⟨H1.length, rfl, by simp [Oc], fun q => absurd (hS1 _ q) (by omega)⟩
  obtain ⟨H2, vs, t', e2, x2, g1, g2, g3, g4⟩ := Os (S := D7 S a b t) (Ab := Ab) (d := d) (sz := p + 1) (hS1.up xL) (.inr (.inl rfl)) (.inr (.inr (.inl rfl))) hk (hA ca.1) (hA cb.1) ht (hn1.up xL) hmo (by omega) (by omega) hl
  refine ⟨H2, vs, t', sh, by simpa using e2, x1'.trans (xL.trans x2), ⟨g1, ca.2⟩, ⟨g2, cb.2⟩, g3, ?_, xL.trans x2⟩
  unfold BA
  rw [if_pos hge]
  cases hf : E6 ys.length ns mo (p + 1) with
  | none => rw [hf] at g4; exact g4
  | some l =>
   rw [hf] at g4
   obtain ⟨c, n, m, shn, e, hc, c1, c2, c3⟩ := g4
   have nc : ¬ S c := by
    rcases hc with hc | hc
    .cases ns with
     | none => have oa : t = .none := oa; rw [oa] at hc; cases hc
     | some l' =>
      obtain ⟨c', n', m', sh', e', _, _, h1, _⟩ := oa
      rw [hc] at e'; cases e'
      exact h1.2
    .exact fun q => hc (.inl q)
   have hb' : ∀ {x : Nat} {c : An}, At (D7 S a b t) H2 x c -> At (fun x => S x \/ x = b) H2 x c := fun h => ⟨h.1, fun q => h.2 (q.elim .inl fun q => .inr (.inr (.inl q)))⟩
   exact ⟨c, n, m, shn, e, ⟨c1, fun q => q.elim nc fun q => by rw [q, g2] at c1; cases c1⟩, hb' c2, hb' c3⟩
 .simp only [if_neg hge]
  refine ⟨H1, [], t, sh, ⟨rfl, rfl⟩, x1', ca, by rw [List.append_nil]; exact cb, ?_, ?_, Ak.refl _ _⟩
  .have : p + 1 - ys.length = 0 := by omega
   rw [this]; rfl
  .unfold BA
   rw [if_neg hge]
   cases ns with
   | none => exact oa
   | some l =>
    obtain ⟨c, n, m, sh', e, nc, hm, h1, h2, h3⟩ := oa
    have hb' : ∀ {x : Nat} {c : An}, At S H1 x c -> x ≠ b -> At (fun x => S x \/ x = b) H1 x c := fun h hx => ⟨h.1, fun q => q.elim h.2 hx⟩
    exact ⟨c, n, m, sh', e, hb' h1 (fun q => by have := h1.1; rw [q, cb.1] at this; cases this), hb' h2 (fun q => by have := h2.1; rw [q, cb.1] at this; cases this), hb' h3 (by omega)⟩
def one (k k' : Nat) (x : V) : V := if k = k' then x else Gs x
def DP (t : Tr) (p : Nat) (mo : Option V) (q : Tr) : Except Nat Tr := match t with
 | .null => .ok .null
 | .list ts ns => .ok (.list ((ts ++ List.replicate (p + 1 - ts.length) Tr.null).set p q) (BA ts.length ns mo p))
 | .atom k xs ns => match q with
  | .null => .error 33
  | .atom _ [] _ => .error 33
  | .atom kq [y] _ => .ok (.atom (if k = 8 /\ kq = 8 then 8 else 9) ((xs.map (one k (if k = 8 /\ kq = 8 then 8 else 9)) ++ List.replicate (p + 1 - xs.length) V.none).set p (one kq (if k = 8 /\ kq = 8 then 8 else 9) y)) (BA xs.length ns mo p))
  | .atom _ _ _ => .error 34
  | .list [] _ => .error 33
  | .list [_] _ => .ok (.list (((xs.map fun x => Tr.atom k [x] none) ++ List.replicate (p + 1 - xs.length) Tr.null).set p q) (BA xs.length ns mo p))
  | .list _ _ => .error 34
theorem Ku {H1 : MH} {n0 a b k : Nat} {t r : V} {ys : List V} {ns : Option (List V)} (ow : Qr S n0 H1 r k ys ns a b t) : ∀ x, x < n0 -> D7 S a b t x -> S x := fun x hx q => by
 obtain ⟨sh, rfl, na, nb, ca, cb, oa⟩ := ow
 rcases q with q | rfl | rfl | q
 .exact q
 .exact absurd hx (by omega)
 .exact absurd hx (by omega)
 .subst q
  cases ns with
  | none => cases oa
  | some l =>
   obtain ⟨c, n, m, sh', e, nc, _⟩ := oa
   cases e
   exact absurd hx (by omega)
theorem Iu {G H3 : MH} {a b k p : Nat} {t t' sh w : V} {zs : List V} {nn : Option (List V)} (ca : At S H3 a (Ah k b t' sh)) (cb : At S H3 b (.list zs)) (hr : Ih (fun x => S x \/ x = b) H3 nn t') (hx : Ak (D7 S a b t) G H3) (hw : ∀ x, x < G.length -> D7 S a b t x -> S x) :
  Ak S G (H3.set b (.list (zs.set p w))) /\ Dy S (H3.set b (.list (zs.set p w))) (.ref a) k b nn /\ At S (H3.set b (.list (zs.set p w))) b (.list (zs.set p w)) /\ Ak (fun x => S x \/ x = b) H3 (H3.set b (.list (zs.set p w))) := by
 have lb : b < H3.length := (AH cb.1)
 have hab : a ≠ b := fun q => by have := ca.1; rw [q, cb.1] at this; cases this
 have x2 : Ak (fun x => S x \/ x = b) H3 (H3.set b (.list (zs.set p w))) := Ak.set (.inr rfl)
 refine ⟨(hx.trans (Ak.set (.inr (.inr (.inl rfl))))).less hw, ⟨a, t', sh, rfl, ⟨by rw [Cq (Ne.symm hab)]; exact ca.1, ca.2⟩, (hr.up x2).chg fun x _ q => .inl q⟩, ⟨Ew lb, cb.2⟩, x2⟩
theorem Mn {v val notes : V} {p : Nat} {ts : List Tr} {ns : Option (List V)} {mo : Option V} {q : Tr} (hS : CH S H) (hv : Bi S H (.list ts ns) v) (hq : Bi S H q val) (hqn : q ≠ .null) (hp : p < 100) (hx : ts.length <= 100) (hl : ∀ l, ns = some l -> l.length <= 100) (hmo : mo ≠ some .none)
  (hnl : ts.length <= p -> (ns.getD (List.replicate ts.length (.w 16)) ++ mo.toList).length <= p + 1) :
  W S (Bg Ab (d + 8) .Bk [v, .int p, mo.getD .none, val, notes]) H fun r H' => Bi S H' (.list ((ts ++ List.replicate (p + 1 - ts.length) Tr.null).set p q) (BA ts.length ns mo p)) r := by
 obtain ⟨b0, vs0, hv0, hb0, hr0⟩ := A2.mp hv
 have hlen0 := hr0.len
 obtain ⟨nv, Ha, e1, x0, n1⟩ := AQ (Ab := Ab) (d := d + 4) hS hv0 (.inl rfl) hl
 have hSa := hS.up x0
 obtain ⟨r7, H1, e2, x1, ys, a, b, t, ow, cv⟩ := Cv (Ab := Ab) (d := d) (n := notes) hSa (hv0.up x0) (hb0.upL x0) (.inl rfl) (.inl rfl) (by omega) hl
 have hys := Gl cv
 subst hys
 have wS := Ku ow
 obtain ⟨H2, vs, t', sh, e3, x2, ca, cb, hL, hR, x12⟩ := KN (Ab := Ab) (d := d + 2) (p := p) (mo := mo) hSa x1 ow n1 (.inl rfl) hp (by rw [hlen0]; exact hnl)
 obtain ⟨sh1, rfl, na, nb, ca1, cb1, oa⟩ := ow
 have hq2 : Bi (D7 S a b t) H2 q val := ((hq.up x0).chg wS).up x2
 obtain ⟨kq, bq, nsq, hvq⟩ : ∃ kq bq nsq, Dy (D7 S a b t) H2 val kq bq nsq := by
  cases q with
  | null => exact absurd rfl hqn
  | atom k xs ns => obtain ⟨b, h, _⟩ := AC.mp hq2; exact ⟨_, _, _, h⟩
  | list ts ns => obtain ⟨b, vs, h, _⟩ := A2.mp hq2; exact ⟨_, _, _, h⟩
 obtain ⟨va, vt, vsh, rfl, vq, vr⟩ := hvq
 have e4 := Du (Ab := Ab) (d := d + 6) vq.1
 have nva : va ≠ a := fun h => vq.2 (.inr (.inl h))
 have nvb : va ≠ b := fun h => vq.2 (.inr (.inr (.inl h)))
 have xm : ∀ S' : Nat -> Prop, Ak S' H2 (H2.set va (Ah kq bq vt (.bool true))) := fun S' => Ak.mark vq.1
 have ca3 : At S (H2.set va (Ah kq bq vt (.bool true))) a (Ah 7 b t' sh) := ⟨by rw [Cq nva]; exact ca.1, ca.2⟩
 have cb3 : At S (H2.set va (Ah kq bq vt (.bool true))) b (.list (ys ++ vs)) := ⟨by rw [Cq nvb]; exact cb.1, cb.2⟩
 obtain ⟨y1, y2, y3, y4⟩ := Iu (p := p) (w := .ref va) ca3 cb3 (hR.up (xm _)) (x2.trans (xm _)) wS
 have w2 : ∀ x, x < H2.length -> (fun x => S x \/ x = b) x -> D7 S a b t x := fun x _ q => q.elim .inl fun q => .inr (.inr (.inl q))
 have xall : Ak (fun x => S x \/ x = b) H2 ((H2.set va (Ah kq bq vt (.bool true))).set b (.list ((ys ++ vs).set p (.ref va)))) := (xm _).trans y4
 have hReps : A4 (D7 S a b t) H2 (ts ++ List.replicate (p + 1 - ts.length) Tr.null) (ys ++ vs) := by
  refine A4.app ((A4.chg wS (hr0.up x0)).up x2) ?_
  have := HG hL
  rw [hlen0] at this
  exact this
 have hlz : (ys ++ vs).length = (ts ++ List.replicate (p + 1 - ts.length) Tr.null).length := hReps.len
 have hReps2 := (A4.set hq2 p hReps).chg w2
 have hReps3 : A4 S _ _ _ := A4.chg (fun x _ q => .inl q) (hReps2.up xall)
 refine ⟨.ref a, (H2.set va (Ah kq bq vt (.bool true))).set b (.list ((ys ++ vs).set p (.ref va))), ?_, x0.trans y1, ?_⟩
 .obtain ⟨a0, t0, sh0, rfl, q0, r0⟩ := hv0
  obtain ⟨sha, qa⟩ := q0.upV x0
  have q0' := q0.1
  have qa' := qa.1
  have l1 := Ad (Ab := Ab) (d := d + 6) (H := Ha) (k := 7)
  have l2 := Ad (Ab := Ab) (d := d + 6) (H := H2) (k := 7)
  have e5 := Gr (Ab := Ab) (d := d + 5) (x := .ref va) (h := (⟨a0, t0, sha, rfl, qa, r0.up x0⟩ : Dy S Ha (.ref a0) 7 b0 ns))
  simp at l1 l2
  have ca1' := ca1.1
  have cb1' := cb1.1
  have ca3' := ca3.1
  have cb3' := cb3.1
  have hy : ys.length <= 100000 := by omega
  have hlz' : (ys ++ vs).length <= 100000 := by
   rw [hlz, List.length_append, List.length_replicate]; omega
  have hpz : p < (ys ++ vs).length := by
   rw [hlz, List.length_append, List.length_replicate]; omega
  simp only [List.length_append] at hlz' hpz
  have hpz' : (p : Int) < (ys.length : Int) + (vs.length : Int) := by omega
  simp only [Ah] at e4 ca3'
  by_cases hge : ys.length <= p
  .simp only [if_pos hge] at e3
   cases mo with
   | none =>
    simp [QL, Oc] at e3
    simp_all! [A8, q0', qa', l1, l2, e1, e2, e3, e4, e5, ca1', cb1', ca3', cb3', hy, hge, hlz', hpz']
   | some w =>
    simp [QL, Oc] at e3
    have hw : ¬ w = .none := fun q => hmo (by rw [q])
    simp_all! [A8, q0', qa', l1, l2, e1, e2, e3, e4, e5, ca1', cb1', ca3', cb3', hy, hge, hlz', hpz', hw]
  .simp only [if_neg hge] at e3
   obtain ⟨rfl, rfl⟩ := e3
   have CV : p < ys.length := by omega
   simp_all! [A8, q0', qa', l1, l2, e1, e2, e4, e5, ca1', cb1', ca3', cb3', hy, hge, CV, hlz', hpz']
 .dsimp only
  rw [A2]
  have : (ts.length) = ys.length := hlen0.symm
  refine ⟨b, _, ?_, y3, hReps3⟩
  rw [this]; exact y2
theorem EX {v val notes nmv : V} {p k b n : Nat} {ns : Option (List V)} (hS : CH S H) (hv : Dy S H v k b ns) (hk : k = 8 \/ k = 9) (hl : ∀ l, ns = some l -> l.length <= 100) (BN : ∀ Ha, Ak S H Ha -> Bg Ab (d + 7) .BS [val] Ha = .ok (.int n) Ha) (hn : ¬ n = 1) :
  Xc S (Bg Ab (d + 8) .Bk [v, .int p, nmv, val, notes]) H (if n = 0 then 33 else 34) := by
 obtain ⟨nv, Ha, e1, x0, n1⟩ := AQ (Ab := Ab) (d := d + 4) hS hv (.inr hk) hl
 have e2 := BN Ha x0
 obtain ⟨a0, t0, sh0, rfl, q0, r0⟩ := hv
 obtain ⟨sha, qa⟩ := q0.upV x0
 have qa' := qa.1
 have l1 := Ad (Ab := Ab) (d := d + 6) (H := Ha) (k := k)
 have lk : [7, 19, 20].contains k = false := by rcases hk with rfl | rfl <;> rfl
 rw [lk] at l1
 refine ⟨Ha, ?_, x0⟩
 by_cases h0 : n = 0
 .subst h0
  simp_all! [A8, qa', l1, e1, e2]
 .have h1 : (1 : Int) < (n : Int) := by omega
  have h2 : ((n : Int) == 0) = false := by simp [h0]
  rw [if_neg h0]
  simp_all! [A8, qa', l1, e1, e2, h1, h2, h0]
theorem Mr {v val notes y : V} {p k kq k' : Nat} {xs : List V} {ns nsq : Option (List V)} {mo : Option V} (hk' : k' = if k = 8 /\ kq = 8 then 8 else 9) (hS : CH S H) (hv : Bi S H (.atom k xs ns) v) (hq : Bi S H (.atom kq [y] nsq) val) (hk : k = 8 \/ k = 9) (hkq : kq = 8 \/ kq = 9)
  (hKv : R6 k k' xs) (hKq : R6 kq k' [y]) (hp : p < 100) (hx : xs.length <= 100) (hl : ∀ l, ns = some l -> l.length <= 100) (hlq : ∀ l, nsq = some l -> l.length <= 100) (hmo : mo ≠ some .none)
  (hnl : xs.length <= p -> (ns.getD (List.replicate xs.length (.w 16)) ++ mo.toList).length <= p + 1) :
  W S (Bg Ab (d + 9) .Bk [v, .int p, mo.getD .none, val, notes]) H fun r H' => Bi S H' (.atom k' ((xs.map (one k k') ++ List.replicate (p + 1 - xs.length) V.none).set p (one kq k' y)) (BA xs.length ns mo p)) r := by
 obtain ⟨b0, hv0, hb0⟩ := AC.mp hv
 obtain ⟨bq0, hvq0, hbq0⟩ := AC.mp hq
 have k789 : k' = 7 \/ k' = 8 \/ k' = 9 := by rw [hk']; split <;> simp
 have k'7 : ¬ k' = 7 := by rw [hk']; split <;> simp
 have lk' : [7, 19, 20].contains k' = false := by rw [hk']; split <;> rfl
 have lk : [7, 19, 20].contains k = false := by rcases hk with rfl | rfl <;> rfl
 obtain ⟨nv, Ha, e1, x0, n1⟩ := AQ (Ab := Ab) (d := d + 5) hS hv0 (.inr hk) hl
 have hSa := hS.up x0
 have e6 := BS (Ab := Ab) (d := d + 7) (hvq0.up x0) (hbq0.upL x0) (.inr hkq) (by simp)
 obtain ⟨L0, e7⟩ := Go (Ab := Ab) (d := d + 5) (hv0.up x0) (hvq0.up x0) hk hkq
 rw [<- hk'] at e7
 have x0b : Ak S Ha (Ha ++ L0) := Ak.app _ _ _
 generalize hHb : Ha ++ L0 = Hb at e7 x0b
 have xb := x0.trans x0b
 have hSb := hSa.up x0b
 obtain ⟨r7, H1, e2, x1, ys, a, b, t, ow, cv⟩ := Cv (Ab := Ab) (d := d + 1) (n := notes) hSb (hv0.up xb) (hb0.upL xb) (.inr hk) hKv hx hl
 have hys : ys = xs.map (one k k') := by
  rcases hKv with rfl | ⟨_, h⟩ | ⟨rfl, rfl, _⟩
  .have := Gl cv
   rw [this]
   have : one k k = id := by funext x; simp [one]
   rw [this, List.map_id]
  .exact absurd h k'7
  .have := IG cv
   rw [this]
   have : one 8 9 = Gs := by funext x; simp [one]
   rw [this]
 have hyl : ys.length = xs.length := by rw [hys, List.length_map]
 have wS := Ku ow
 obtain ⟨H2, vs, t', sh, e3, x2, ca, cb, hL, hR, x12⟩ := KN (Ab := Ab) (d := d + 3) (p := p) (mo := mo) hSb x1 ow (n1.up x0b) k789 hp (by rw [hyl]; exact hnl)
 obtain ⟨sh1, rfl, na, nb, ca1, cb1, oa⟩ := ow
 have hS2 : CH S H2 := fun x q => Nat.lt_of_lt_of_le (hSb x q) x2.1
 have w0 : ∀ x, x < H2.length -> S x -> D7 S a b t x := fun x _ q => .inl q
 obtain ⟨r3, H3, e4, x3, b3, ws, rfl, c3, cw⟩ := AE (Ab := Ab) (d := d + 2) (n := notes) hS2 ((((hvq0.up xb).chg wS).up x2).chg w0) ((At.chg wS (hbq0.upL xb)).upL x2 |>.chg w0) (.inr hkq) hKq (by simp) hlq
 have hws : ws = [one kq k' y] := by
  rcases hKq with rfl | ⟨_, h⟩ | ⟨rfl, rfl, _⟩
  .rw [Gl cw]; simp [one]
  .exact absurd h k'7
  .rw [IG cw]; simp [one]
 subst hws
 obtain ⟨sh3, ca3⟩ := ca.upV x3
 have cb3 := cb.upL x3
 obtain ⟨y1, y2, y3, y4⟩ := Iu (p := p) (w := one kq k' y) ca3 cb3 (hR.up (x3.more fun x q => .inl q)) (x2.trans (x3.more fun x q => .inl q)) wS
 have Ed := Kg k'7 hL
 have hlz : (ys ++ vs).length = xs.length + (p + 1 - xs.length) := by rw [Ed, List.length_append, List.length_replicate, hyl]
 refine ⟨.ref a, H3.set b (.list ((ys ++ vs).set p (one kq k' y))), ?_, xb.trans y1, ?_⟩
 .obtain ⟨a0, t0, sh0, rfl, q0, r0⟩ := hv0
  obtain ⟨sha, qa⟩ := q0.upV x0
  have q0' := q0.1
  have qa' := qa.1
  have l1 := Ad (Ab := Ab) (d := d + 7) (H := Ha) (k := k)
  have l2 := Ad (Ab := Ab) (d := d + 7) (H := H2) (k := k')
  rw [lk] at l1
  rw [lk'] at l2
  have ca1' := ca1.1
  have cb1' := cb1.1
  have ca3' := ca3.1
  have cb3' := cb3.1
  have c3' := c3.1
  have hy : ys.length <= 100000 := by omega
  have hlz' : (ys ++ vs).length <= 100000 := by omega
  have hpz : p < (ys ++ vs).length := by omega
  simp only [List.length_append] at hlz' hpz
  have hpz' : (p : Int) < (ys.length : Int) + (vs.length : Int) := by omega
  simp only [Ah] at ca3'
  by_cases hge : ys.length <= p
  .simp only [if_pos hge] at e3
   cases mo with
   | none =>
    simp [QL, Oc] at e3
    simp_all! [A8, q0', qa', l1, l2, e1, e2, e3, e4, e6, e7, ca1', cb1', ca3', cb3', c3', hy, hge, hlz', hpz']
   | some w =>
    simp [QL, Oc] at e3
    have hw : ¬ w = .none := fun q => hmo (by rw [q])
    simp_all! [A8, q0', qa', l1, l2, e1, e2, e3, e4, e6, e7, ca1', cb1', ca3', cb3', c3', hy, hge, hlz', hpz', hw]
  .simp only [if_neg hge] at e3
   obtain ⟨rfl, rfl⟩ := e3
   have CV : p < ys.length := by omega
   simp only [List.append_nil] at cb3'
   simp_all! [A8, q0', qa', l1, l2, e1, e2, e4, e6, e7, ca1', cb1', ca3', cb3', c3', hy, hge, CV, hlz', hpz']
 .dsimp only
  rw [AC]
  refine ⟨b, ?_, ?_⟩
  .rw [<- hyl]; exact y2
  .rw [<- hys, <- hyl, <- Ed]; exact y3
theorem LS {v val notes : V} {p k : Nat} {xs : List V} {u : Tr} {ns nsq : Option (List V)} {mo : Option V} (hS : CH S H) (hv : Bi S H (.atom k xs ns) v) (hq : Bi S H (.list [u] nsq) val) (hk : k = 8 \/ k = 9)
  (hp : p < 100) (hx : xs.length <= 100) (hl : ∀ l, ns = some l -> l.length <= 100) (hmo : mo ≠ some .none)
  (hnl : xs.length <= p -> (ns.getD (List.replicate xs.length (.w 16)) ++ mo.toList).length <= p + 1) :
  W S (Bg Ab (d + 9) .Bk [v, .int p, mo.getD .none, val, notes]) H fun r H' => Bi S H' (.list (((xs.map fun x => Tr.atom k [x] none) ++ List.replicate (p + 1 - xs.length) Tr.null).set p (.list [u] nsq)) (BA xs.length ns mo p)) r := by
 obtain ⟨b0, hv0, hb0⟩ := AC.mp hv
 obtain ⟨bq0, vsq, hvq0, hbq0, hrq⟩ := A2.mp hq
 have hq1 : vsq.length = 1 := hrq.len
 have lk : [7, 19, 20].contains k = false := by rcases hk with rfl | rfl <;> rfl
 have k7 : ¬ k = 7 := by omega
 obtain ⟨nv, Ha, e1, x0, n1⟩ := AQ (Ab := Ab) (d := d + 5) hS hv0 (.inr hk) hl
 have hSa := hS.up x0
 have e6 := BS (Ab := Ab) (d := d + 7) (hvq0.up x0) (hbq0.upL x0) (.inl rfl) (by omega)
 rw [hq1] at e6
 have e7 := FD (Ab := Ab) (d := d + 5) (hv0.up x0) (hvq0.up x0) hk
 obtain ⟨r7, H1, e2, x1, ys, a, b, t, ow, cv⟩ := Cv (Ab := Ab) (d := d + 1) (n := notes) hSa (hv0.up x0) (hb0.upL x0) (.inr hk) (.inr (.inl ⟨hk, rfl⟩)) hx hl
 have hyr := HM k7 cv
 have hyl : ys.length = xs.length := by rw [hyr.len, List.length_map]
 have wS := Ku ow
 obtain ⟨H2, vs, t', sh, e3, x2, ca, cb, hL, hR, x12⟩ := KN (Ab := Ab) (d := d + 3) (p := p) (mo := mo) hSa x1 ow n1 (.inl rfl) hp (by rw [hyl]; exact hnl)
 obtain ⟨sh1, rfl, na, nb, ca1, cb1, oa⟩ := ow
 have hq2 : Bi (D7 S a b t) H2 (.list [u] nsq) val := ((hq.up x0).chg wS).up x2
 obtain ⟨bq, vsq2, hvq, _⟩ := A2.mp hq2
 obtain ⟨va, vt, vsh, rfl, vq, vr⟩ := hvq
 have e4 := Du (Ab := Ab) (d := d + 7) vq.1
 have nva : va ≠ a := fun h => vq.2 (.inr (.inl h))
 have nvb : va ≠ b := fun h => vq.2 (.inr (.inr (.inl h)))
 have xm : ∀ S' : Nat -> Prop, Ak S' H2 (H2.set va (Ah 7 bq vt (.bool true))) := fun S' => Ak.mark vq.1
 have ca3 : At S (H2.set va (Ah 7 bq vt (.bool true))) a (Ah 7 b t' sh) := ⟨by rw [Cq nva]; exact ca.1, ca.2⟩
 have cb3 : At S (H2.set va (Ah 7 bq vt (.bool true))) b (.list (ys ++ vs)) := ⟨by rw [Cq nvb]; exact cb.1, cb.2⟩
 obtain ⟨y1, y2, y3, y4⟩ := Iu (p := p) (w := .ref va) ca3 cb3 (hR.up (xm _)) (x2.trans (xm _)) wS
 have w2 : ∀ x, x < H2.length -> (fun x => S x \/ x = b) x -> D7 S a b t x := fun x _ q => q.elim .inl fun q => .inr (.inr (.inl q))
 have xall : Ak (fun x => S x \/ x = b) H2 ((H2.set va (Ah 7 bq vt (.bool true))).set b (.list ((ys ++ vs).set p (.ref va)))) := (xm _).trans y4
 have hReps : A4 (D7 S a b t) H2 ((xs.map fun x => Tr.atom k [x] none) ++ List.replicate (p + 1 - xs.length) .null) (ys ++ vs) := by
  refine A4.app (hyr.up x12) ?_
  have := HG hL
  rw [hyl] at this
  exact this
 have hlz : (ys ++ vs).length = xs.length + (p + 1 - xs.length) := by
  have := hReps.len
  rw [List.length_append (bs := List.replicate _ _), List.length_replicate, List.length_map] at this
  exact this
 have hReps2 := (A4.set hq2 p hReps).chg w2
 have hReps3 : A4 S _ _ _ := A4.chg (fun x _ q => .inl q) (hReps2.up xall)
 refine ⟨.ref a, (H2.set va (Ah 7 bq vt (.bool true))).set b (.list ((ys ++ vs).set p (.ref va))), ?_, x0.trans y1, ?_⟩
 .obtain ⟨a0, t0, sh0, rfl, q0, r0⟩ := hv0
  obtain ⟨sha, qa⟩ := q0.upV x0
  have q0' := q0.1
  have qa' := qa.1
  have l1 := Ad (Ab := Ab) (d := d + 7) (H := Ha) (k := k)
  have l2 := Ad (Ab := Ab) (d := d + 7) (H := H2) (k := 7)
  rw [lk] at l1
  simp at l2
  have ca1' := ca1.1
  have cb1' := cb1.1
  have ca3' := ca3.1
  have cb3' := cb3.1
  have hy : ys.length <= 100000 := by omega
  have hlz' : (ys ++ vs).length <= 100000 := by omega
  have hpz : p < (ys ++ vs).length := by omega
  simp only [List.length_append] at hlz' hpz
  have hpz' : (p : Int) < (ys.length : Int) + (vs.length : Int) := by omega
  simp only [Ah] at e4 ca3'
  simp at e6
  by_cases hge : ys.length <= p
  .simp only [if_pos hge] at e3
   cases mo with
   | none =>
    simp [QL, Oc] at e3
    simp_all! [A8, q0', qa', l1, l2, e1, e2, e3, e4, e6, e7, ca1', cb1', ca3', cb3', hy, hge, hlz', hpz']
   | some w =>
    simp [QL, Oc] at e3
    have hw : ¬ w = .none := fun q => hmo (by rw [q])
    simp_all! [A8, q0', qa', l1, l2, e1, e2, e3, e4, e6, e7, ca1', cb1', ca3', cb3', hy, hge, hlz', hpz', hw]
  .simp only [if_neg hge] at e3
   obtain ⟨rfl, rfl⟩ := e3
   have CV : p < ys.length := by omega
   simp_all! [A8, q0', qa', l1, l2, e1, e2, e4, e6, e7, ca1', cb1', ca3', cb3', hy, hge, CV, hlz', hpz']
 .dsimp only
  rw [A2]
  refine ⟨b, _, ?_, y3, hReps3⟩
  rw [<- hyl]; exact y2
def LZ : List V -> Nat -> List (Nat × V) -> List (Nat × V)
 | [], _, kvs => kvs
 | .w k :: xs, i, kvs => if ¬ k = 16 /\ Bd k kvs = none then LZ xs (i + 1) (DS k (.int i) kvs) else LZ xs (i + 1) kvs
 | _ :: xs, i, kvs => LZ xs (i + 1) kvs
def Ij (i : Nat) (n : Nat) : List V := (List.range n).map fun (k : Nat) => V.int ((i : Int) + (k : Int))
theorem EQ (i n : Nat) : Ij i (n + 1) = .int i :: Ij (i + 1) n := by
 unfold Ij
 rw [List.range_succ_eq_map, List.map_cons, List.map_map]
 simp only [Int.natCast_zero, Int.add_zero, List.cons.injEq, true_and]
 apply List.map_congr_left
 intro k _
 simp only [Function.comp, V.int.injEq]
 omega
theorem EE (n : Nat) : B3 0 (n : Int) = Ij 0 n := by unfold B3 Ij; simp
theorem J7 {k j : Nat} {v : V} : ∀ {kvs : List (Nat × V)}, Bd k (DS j v kvs) = if j = k then some v else Bd k kvs
 | [] => by simp only [DS, Bd]
 | p :: r => by
  unfold DS
  by_cases h : p.1 = j
  .rw [if_pos h]
   simp only [Bd]
   by_cases q : j = k
   .rw [if_pos q, if_pos q]
   .rw [if_neg q, if_neg q, if_neg (by omega)]
  .rw [if_neg h]
   simp only [Bd]
   by_cases q : p.1 = k
   .rw [if_pos q, if_pos q, if_neg (by omega)]
   .rw [if_neg q, if_neg q]; exact J7
theorem LD {j : Nat} {v : V} : ∀ {kvs : List (Nat × V)}, (DS j v kvs).length <= kvs.length + 1
 | [] => by simp [DS]
 | p :: r => by
  unfold DS
  split
  .simp
  .have := LD (j := j) (v := v) (kvs := r); simp; omega
theorem Lz {k : Nat} : ∀ {xs : List V} {i : Nat} {kvs : List (Nat × V)}, Bd k (LZ xs i kvs) = match Bd k kvs with
  | some v => some v
  | none => if k = 16 then none else (xs.findIdx? (Fz k)).map fun j => .int ((i + j : Nat) : Int)
 | [], i, kvs => by
  unfold LZ
  cases Bd k kvs <;> simp
 | x :: xs, i, kvs => by
  have ih := fun kvs => Lz (k := k) (xs := xs) (i := i + 1) (kvs := kvs)
  have step : ∀ (b : Bool), Fz k x = b -> (List.findIdx? (Fz k) (x :: xs)).map (fun j => V.int ((i + j : Nat) : Int)) = if b = true then some (.int i) else (xs.findIdx? (Fz k)).map fun j => .int ((i + 1 + j : Nat) : Int) := by
   intro b hb
   rw [List.findIdx?_cons, hb]
   cases b
   .simp only [Bool.false_eq_true, if_false, Option.map_map]
    congr 1
    funext j
    simp only [Function.comp, V.int.injEq]
    omega
   .simp
  cases x with
  | w j =>
   unfold LZ
   by_cases hc : ¬ j = 16 /\ Bd j kvs = none
   .rw [if_pos hc, ih, J7]
    by_cases q : j = k
    .subst q
     have st := step true (by simp [Fz])
     have h16 := hc.1
     rw [if_pos rfl, hc.2]
     simp only [h16, if_false]
     rw [st, if_pos rfl]
    .rw [if_neg q, step false (by simp [Fz, q])]
     simp
   .rw [if_neg hc, ih]
    by_cases q : j = k
    .subst q
     cases h : Bd j kvs with
     | some v => rfl
     | none =>
      have : j = 16 := by
       by_cases h16 : j = 16
       .exact h16
       .exact absurd ⟨h16, h⟩ hc
      simp [this]
    .rw [step false (by simp [Fz, q])]
     simp
  | _ => unfold LZ; rw [ih, step false (by simp [Fz])]; simp
theorem Nf {nl : Nat} : ∀ (xs done : List V) (kvs : List (Nat × V)) (e2 e3 : Option V), H[nl]? = some (.list (done ++ xs)) -> (done ++ xs).all wn = true -> (done ++ xs).length <= 90 -> kvs.length <= done.length ->
  ∃ e2' e3', CG (fun x env => Ae (AI Ab d) [.asg 3 (.idx (.var 0) (.var 2)), .ifs (.and2 (.isNone true (.var 3)) (.and2 (.cmp .ne (.var 3) (.cst (.w 16))) (.cmp .notin (.var 3) (.var 1)))) [.setI (.var 1) (.var 3) (.var 2)] []] (env.set 2 (some x))) (ret ()) (Ij done.length xs.length) [some (.ref nl), some (.ref H.length), e2, e3] (H ++ [.dictW kvs]) =
   .ok ([some (.ref nl), some (.ref H.length), e2', e3'], none) (H ++ [.dictW (LZ xs done.length kvs)])
 | [], done, kvs, e2, e3, _, _, _, _ => ⟨e2, e3, rfl⟩
 | x :: xs, done, kvs, e2, e3, hn, ha, hl, hk => by
  have ln : nl < H.length := (AH hn)
  have hN : ∀ L : MH, (H ++ L)[nl]? = some (.list (done ++ x :: xs)) := fun L => by rw [Ck ln]; exact hn
  have e : done ++ x :: xs = (done ++ [x]) ++ xs := by simp
  have hx : (done ++ x :: xs)[done.length]? = some x := by simp
  have hd : (done.length : Int) <= 100000 := by simp at hl; omega
  have hk' : kvs.length < 100 := by simp at hl; omega
  have go := fun kvs' (hk2 : kvs'.length <= (done ++ [x]).length) => Nf xs (done ++ [x]) kvs' (some (.int done.length)) (some x) (by rw [<- e]; exact hn) (by rw [<- e]; exact ha) (by rw [<- e]; exact hl) hk2
  simp only [List.length_append, List.length_cons, List.length_nil, Nat.zero_add] at go
  have hw : wn x = true := List.all_eq_true.mp ha x (by simp)
  rw [List.length_cons, EQ, CG]
  cases x with
  | w k =>
   by_cases hc : ¬ k = 16 /\ Bd k kvs = none
   .obtain ⟨e2', e3', g⟩ := go (DS k (.int done.length) kvs) (Nat.le_trans LD (by omega))
    refine ⟨e2', e3', ?_⟩
    unfold LZ
    rw [if_pos hc, <- g]
    have h16 := hc.1
    have hlk := hc.2
    have : Ae (AI Ab d) [.asg 3 (.idx (.var 0) (.var 2)), .ifs (.and2 (.isNone true (.var 3)) (.and2 (.cmp .ne (.var 3) (.cst (.w 16))) (.cmp .notin (.var 3) (.var 1)))) [.setI (.var 1) (.var 3) (.var 2)] []] ([some (.ref nl), some (.ref H.length), e2, e3].set 2 (some (.int done.length))) (H ++ [.dictW kvs]) =
      .ok ([some (.ref nl), some (.ref H.length), some (.int done.length), some (.w k)], none) (H ++ [.dictW (DS k (.int done.length) kvs)]) := by
     simp [Ae, Ai, Aa, Ap, bnd, ret, Au, DM, Aw, AJ, Fg, Fu, EW, Bz, L4, Cw, Dm, hN, hx, hd, h16, hlk, hk']
    simp only [bnd, this, ret]
   .obtain ⟨e2', e3', g⟩ := go kvs (by omega)
    refine ⟨e2', e3', ?_⟩
    unfold LZ
    rw [if_neg hc, <- g]
    have : Ae (AI Ab d) [.asg 3 (.idx (.var 0) (.var 2)), .ifs (.and2 (.isNone true (.var 3)) (.and2 (.cmp .ne (.var 3) (.cst (.w 16))) (.cmp .notin (.var 3) (.var 1)))) [.setI (.var 1) (.var 3) (.var 2)] []] ([some (.ref nl), some (.ref H.length), e2, e3].set 2 (some (.int done.length))) (H ++ [.dictW kvs]) =
      .ok ([some (.ref nl), some (.ref H.length), some (.int done.length), some (.w k)], none) (H ++ [.dictW kvs]) := by
     by_cases h16 : k = 16
     .subst h16
      simp [Ae, Ai, Aa, Ap, bnd, ret, Au, DM, Aw, AJ, Fg, Fu, EW, Bz, L4, Cw, Dm, hN, hx, hd, hk']
     .have : ∃ v, Bd k kvs = some v := by
       cases h : Bd k kvs with
       | some v => exact ⟨v, rfl⟩
       | none => exact absurd ⟨h16, h⟩ hc
      obtain ⟨v, hv⟩ := this
      simp [Ae, Ai, Aa, Ap, bnd, ret, Au, DM, Aw, AJ, Fg, Fu, EW, Bz, L4, Cw, Dm, hN, hx, hd, h16, hv, hk']
    simp only [bnd, this, ret]
  | none =>
   obtain ⟨e2', e3', g⟩ := go kvs (by omega)
   refine ⟨e2', e3', ?_⟩
   unfold LZ
   rw [<- g]
   have : Ae (AI Ab d) [.asg 3 (.idx (.var 0) (.var 2)), .ifs (.and2 (.isNone true (.var 3)) (.and2 (.cmp .ne (.var 3) (.cst (.w 16))) (.cmp .notin (.var 3) (.var 1)))) [.setI (.var 1) (.var 3) (.var 2)] []] ([some (.ref nl), some (.ref H.length), e2, e3].set 2 (some (.int done.length))) (H ++ [.dictW kvs]) =
     .ok ([some (.ref nl), some (.ref H.length), some (.int done.length), some .none], none) (H ++ [.dictW kvs]) := by
    simp [Ae, Ai, Aa, Ap, bnd, ret, Au, DM, Aw, AJ, Fg, Fu, EW, Bz, L4, Cw, Dm, hN, hx, hd, hk']
   simp only [bnd, this, ret]
  | _ => cases hw
theorem Hg : Bg Ab (d + 1) .Bu [.none] H = .ok (.ref H.length) (H ++ [.dictW []]) := by
 simp_all! [D9]
theorem GY {nl : Nat} {ns : List V} (hn : H[nl]? = some (.list ns)) (ha : ns.all wn = true) (hl : ns.length <= 90) : Bg Ab (d + 1) .Bu [.ref nl] H = .ok (.ref H.length) (H ++ [.dictW (LZ ns 0 [])]) := by
 have ln : nl < H.length := (AH hn)
 have hN : ∀ L : MH, (H ++ L)[nl]? = some (.list ns) := fun L => by rw [Ck ln]; exact hn
 obtain ⟨e2', e3', g⟩ := Nf (Ab := Ab) (d := d) ns [] [] none none (by simpa using hn) (by simpa using ha) (by simpa using hl) (Nat.le_refl _)
 have C7 : ns.length <= 100000 := by omega
 have hl2 : (ns.length : Int) <= 100000 := by omega
 have hr := EE ns.length
 simp! [] at g
 simp_all! [D9, hN, C7, hl2, hr, g]
def Ey : V -> Bool
 | .none => true
 | .w j => decide (12 <= j /\ j < 18)
 | _ => false
def QK (k : Nat) : V -> Bool
 | .w j => HR.contains (j, k)
 | _ => false
def JR (k : Nat) : List V -> Nat -> List Nat
 | [], _ => []
 | x :: xs, i => if QK k x then i :: JR k xs (i + 1) else JR k xs (i + 1)
def only : List Nat -> Int
 | [j] => j
 | _ => -1
def QO (k : Nat) : List V -> Nat -> Int -> Int
 | [], _, p => p
 | x :: xs, i, p => if QK k x then (if 0 <= p then -1 else QO k xs (i + 1) i) else QO k xs (i + 1) p
theorem Nr {k : Nat} : ∀ {xs : List V} {i j : Nat}, QO k xs i (j : Int) = match JR k xs i with | [] => (j : Int) | _ => -1
 | [], _, _ => rfl
 | x :: xs, i, j => by
  unfold QO JR
  split
  .rw [if_pos (by omega)]
  .exact Nr
theorem MV {k : Nat} : ∀ {xs : List V} {i : Nat}, QO k xs i (-1) = only (JR k xs i)
 | [], _ => rfl
 | x :: xs, i => by
  unfold QO JR
  split
  .rw [if_neg (by omega), Nr]
   cases JR k xs (i + 1) <;> rfl
  .exact MV
def A0 (ns : Option (List V)) (k : Nat) (exact : Bool) : Int := match ns with
 | none => -1
 | some xs => if k = 16 then -1 else match xs.findIdx? (Fz k) with
  | some i => (i : Int)
  | none => if exact then -1 else only (JR k xs 0)
theorem MR {j k : Nat} (hj : 12 <= j /\ j < 18) (hk : 12 <= k /\ k < 18) : Ii j k = some (HR.contains (j, k)) := by
 unfold Ii
 rw [if_pos ⟨hj.1, hj.2, hk.1, hk.2⟩]
abbrev HJ : List (MS Fn) := [.ifs (.and2 (.isNone true (.idx (.var 1) (.var 4))) (.starts (.idx (.var 1) (.var 4)) (.var 0))) [.ifs (.cmp .ge (.var 3) (.cst (.int 0))) [.ret (.usub 1)] [], .asg 3 (.var 4)] []]
theorem Nz {nl k : Nat} {e2 : Option V} (hk : 12 <= k /\ k < 18) : ∀ (xs done : List V) (p : Int) (e4 : Option V), H[nl]? = some (.list (done ++ xs)) -> (done ++ xs).all Ey = true -> (done ++ xs).length <= 90 ->
  ∃ e3' e4' fl, CG (fun x env => Ae (AI Ab d) HJ (env.set 4 (some x))) (ret ()) (Ij done.length xs.length) [some (.w k), some (.ref nl), e2, some (.int p), e4] H =
   .ok ([some (.w k), some (.ref nl), e2, some e3', e4'], fl) H /\ fl.getD e3' = .int (QO k xs done.length p)
 | [], done, p, e4, _, _, _ => ⟨.int p, e4, none, rfl, rfl⟩
 | x :: xs, done, p, e4, hn, ha, hl => by
  have e : done ++ x :: xs = (done ++ [x]) ++ xs := by simp
  have hx : (done ++ x :: xs)[done.length]? = some x := by simp
  have hd : (done.length : Int) <= 100000 := by simp at hl; omega
  have go := fun p => Nz (hk := hk) (e2 := e2) xs (done ++ [x]) p (some (.int done.length)) (by rw [<- e]; exact hn) (by rw [<- e]; exact ha) (by rw [<- e]; exact hl)
  simp only [List.length_append, List.length_cons, List.length_nil, Nat.zero_add] at go
  have hw : Ey x = true := List.all_eq_true.mp ha x (by simp)
  rw [List.length_cons, EQ, CG]
  have run1 : ∀ b, QK k x = b -> Ae (AI Ab d) HJ ([some (.w k), some (.ref nl), e2, some (.int p), e4].set 4 (some (.int done.length))) H =
    (if b = true then (if 0 <= p then .ok ([some (.w k), some (.ref nl), e2, some (.int p), some (.int done.length)], some (.int (-1))) H else .ok ([some (.w k), some (.ref nl), e2, some (.int done.length), some (.int done.length)], none) H)
     else .ok ([some (.w k), some (.ref nl), e2, some (.int p), some (.int done.length)], none) H) := by
   intro b hb
   cases x with
   | w j =>
    have hj : 12 <= j /\ j < 18 := by simpa [Ey] using hw
    have hbg := MR hj hk
    have hb' : HR.contains (j, k) = b := hb
    rw [hb'] at hbg
    by_cases hp : 0 <= p
    .cases b <;> simp [HJ, Ae, Ai, Aa, Ap, bnd, ret, Au, DM, Aw, AJ, Fg, Fu, EW, Bz, JH, CI, hn, hx, hd, hbg, hp]
    .have hp' : p < 0 := by omega
     cases b <;> simp [HJ, Ae, Ai, Aa, Ap, bnd, ret, Au, DM, Aw, AJ, Fg, Fu, EW, Bz, JH, CI, hn, hx, hd, hbg, hp, hp']
   | none =>
    have : b = false := hb.symm
    subst this
    simp [HJ, Ae, Ai, Aa, Ap, bnd, ret, Au, DM, Aw, AJ, Fg, Fu, EW, Bz, JH, CI, hn, hx, hd]
   | _ => cases hw
  have r1 := run1 _ rfl
  unfold QO
  by_cases hb : QK k x = true
  .rw [hb] at r1
   simp only [if_true] at r1
   rw [if_pos hb]
   by_cases hp : 0 <= p
   .rw [if_pos hp] at r1 ⊢
    refine ⟨.int p, some (.int done.length), some (.int (-1)), ?_, rfl⟩
    simp only [bnd, r1, ret]
   .rw [if_neg hp] at r1 ⊢
    obtain ⟨e3', e4', fl, g1, g2⟩ := go done.length
    refine ⟨e3', e4', fl, ?_, g2⟩
    simp only [bnd, r1, ret]
    exact g1
  .rw [if_neg hb] at r1 ⊢
   obtain ⟨e3', e4', fl, g1, g2⟩ := go p
   refine ⟨e3', e4', fl, ?_, g2⟩
   simp only [bnd, r1, ret]
   exact g1
theorem Pr {ns : List V} (h : ns.all Ey = true) : ns.all wn = true := by
 rw [List.all_eq_true] at h ⊢
 intro x hx
 have := h x hx
 cases x <;> first | rfl | cases this
theorem RX {k : Nat} {ns : List V} : Bd k (LZ ns 0 []) = if k = 16 then none else (ns.findIdx? (Fz k)).map fun j => .int (j : Int) := by
 rw [Lz]
 simp [Bd]
theorem NE {k : Nat} {ns : Option (List V)} {nv : V} (hk : 12 <= k /\ k < 18) (hn : JF S H ns nv) (ha : ∀ l, ns = some l -> l.all Ey = true /\ l.length <= 90) :
  ∃ L, Bg Ab (d + 2) .BO [.w k, nv] H = .ok (.int (A0 ns k false)) (H ++ L) := by
 cases ns with
 | none =>
  cases hn
  have e1 := Hg (Ab := Ab) (d := d) (H := H)
  refine ⟨[.dictW []], ?_⟩
  simp_all! [Cm, e1, A0]
 | some l =>
  obtain ⟨nl, rfl, q⟩ := hn
  obtain ⟨a1, a2⟩ := ha l rfl
  have e1 := GY (Ab := Ab) (d := d) q.1 (Pr a1) a2
  have ln : nl < H.length := (AH q.1)
  have hN : ∀ L : MH, (H ++ L)[nl]? = some (.list l) := fun L => by rw [Ck ln]; exact q.1
  have hf := RX (k := k) (ns := l)
  refine ⟨[.dictW (LZ l 0 [])], ?_⟩
  by_cases h16 : k = 16
  .subst h16
   rw [if_pos rfl] at hf
   simp_all! [Cm, e1, hf, A0]
  .rw [if_neg h16] at hf
   cases hx : l.findIdx? (Fz k) with
   | some i =>
    rw [hx] at hf
    simp only [Option.map_some] at hf
    simp_all! [Cm, e1, hf, A0, h16, hx]
   | none =>
    rw [hx] at hf
    simp only [Option.map_none] at hf
    obtain ⟨e3', e4', fl, g1, g2⟩ := Nz (H := H ++ [.dictW (LZ l 0 [])]) (Ab := Ab) (d := d + 1) (e2 := some (.ref H.length)) hk l [] (-1) none (by simpa using hN _) (by simpa using a1) (by simpa using a2)
    rw [List.length_nil, MV] at g2
    have C7 : l.length <= 100000 := by omega
    have hl2 : (l.length : Int) <= 100000 := by omega
    have hr := EE l.length
    simp! [HJ, CI] at g1
    cases fl with
    | none =>
     have g2 : e3' = _ := g2
     subst g2
     simp_all! [Cm, CI, e1, hf, A0, h16, hx, hN, C7, hl2, hr, g1]
    | some v =>
     have g2 : v = _ := g2
     subst g2
     simp_all! [Cm, CI, e1, hf, A0, h16, hx, hN, C7, hl2, hr, g1]
inductive Gc where
 | na | num (i : Nat) | nm (k : Nat)
def D8 : Gc -> Tr
 | .na => .atom 8 [.none] none
 | .num i => .atom 8 [.int i] none
 | .nm k => .atom 9 [.w k] none
def CL : Gc -> Prop
 | .na => True
 | .num i => i <= 6
 | .nm k => 12 <= k /\ k < 18
def Cb (ns : Option (List V)) (exact : Bool) : Gc -> Except Nat (Option Int)
 | .na => .ok none
 | .num 0 => .error 26
 | .num (i + 1) => .ok (some (i : Int))
 | .nm k => .ok (some (A0 ns k exact))
def pv : Option Int -> V
 | none => .none
 | some i => .int i
theorem CC {k : Nat} {ns : Option (List V)} {nv : V} {exact : Bool} (hk : 12 <= k /\ k < 18) (hn : JF S H ns nv) (ha : ∀ l, ns = some l -> l.all Ey = true /\ l.length <= 90) :
  ∃ L, Bg Ab (d + 3) .CC [.w k, nv, .bool exact] H = .ok (.int (A0 ns k exact)) (H ++ L) := by
 cases exact with
 | false =>
  obtain ⟨L, e1⟩ := NE (Ab := Ab) (d := d) hk hn ha
  refine ⟨L, ?_⟩
  simp_all! [DC, e1]
 | true =>
  cases ns with
  | none =>
   cases hn
   have e1 := Hg (Ab := Ab) (d := d + 1) (H := H)
   refine ⟨[.dictW []], ?_⟩
   simp_all! [DC, e1, A0]
  | some l =>
   obtain ⟨nl, rfl, q⟩ := hn
   obtain ⟨a1, a2⟩ := ha l rfl
   have e1 := GY (Ab := Ab) (d := d + 1) q.1 (Pr a1) a2
   have hf := RX (k := k) (ns := l)
   refine ⟨[.dictW (LZ l 0 [])], ?_⟩
   by_cases h16 : k = 16
   .subst h16
    rw [if_pos rfl] at hf
    simp_all! [DC, e1, hf, A0]
   .rw [if_neg h16] at hf
    cases hx : l.findIdx? (Fz k) with
    | some i =>
     rw [hx] at hf
     simp only [Option.map_some] at hf
     simp_all! [DC, e1, hf, A0, h16, hx]
    | none =>
     rw [hx] at hf
     simp only [Option.map_none] at hf
     simp_all! [DC, e1, hf, A0, h16, hx]
theorem Bj {ix nv ln : V} {key : Gc} {ns : Option (List V)} {exact : Bool} (hx : Bi S H (D8 key) ix) (Bf : CL key) (hn : JF S H ns nv) (ha : ∀ l, ns = some l -> l.all Ey = true /\ l.length <= 90) :
  match Cb ns exact key with
  | .ok p => ∃ L, Bg Ab (d + 4) .Bj [ix, ln, nv, .bool exact] H = .ok (pv p) (H ++ L)
  | .error e => Bg Ab (d + 4) .Bj [ix, ln, nv, .bool exact] H = .exc e H := by
 have hx' := hx
 cases key with
 | na =>
  rw [D8, AC] at hx
  obtain ⟨b, ⟨a, t, sh, rfl, q, r⟩, c⟩ := hx
  have q1 := q.1
  have c1 := c.1
  have e1 : Bg Ab (d + 3) .A6 [.ref a] H = .ok (.ref b) H := by
   simp_all! [Dl, q1]
  have e2 : Bg Ab (d + 3) .Ch [.none, ln] H = .ok .none H := by
   simp_all! [Ei]
  refine ⟨[], ?_⟩
  simp_all! [DL, q1, c1, e1, e2, pv]
 | num i =>
  rw [D8, AC] at hx
  obtain ⟨b, ⟨a, t, sh, rfl, q, r⟩, c⟩ := hx
  have q1 := q.1
  have c1 := c.1
  have e1 : Bg Ab (d + 3) .A6 [.ref a] H = .ok (.ref b) H := by
   simp_all! [Dl, q1]
  cases i with
  | zero =>
   have e2 : Bg Ab (d + 3) .Ch [.int 0, ln] H = .exc 26 H := by
    simp_all! [Ei]
   show Bg Ab (d + 4) .Bj [.ref a, ln, nv, .bool exact] H = .exc 26 H
   simp at c1
   simp_all! [DL, q1, c1, e1, e2]
  | succ i =>
   have hi : (0 : Int) < (i : Int) + 1 := by omega
   have e2 : Bg Ab (d + 3) .Ch [.int ((i : Int) + 1), ln] H = .ok (.int i) H := by
    simp_all! [Ei, hi]
   simp at c1
   refine ⟨[], ?_⟩
   simp_all! [DL, q1, c1, e1, e2, pv]
 | nm k =>
  rw [D8, AC] at hx
  obtain ⟨b, ⟨a, t, sh, rfl, q, r⟩, c⟩ := hx
  have q1 := q.1
  have c1 := c.1
  obtain ⟨L, e1⟩ := CC (Ab := Ab) (d := d) (exact := exact) Bf hn ha
  refine ⟨L, ?_⟩
  simp_all! [DL, q1, c1, e1, pv]
def Bn (t : Tr) (key : Gc) (exact : Bool) : Except Nat Tr := match t with
 | .null => .ok .null
 | .atom k xs ns => (match Cb ns exact key with
  | .error e => .error e
  | .ok none => .ok (.atom k [.none] none)
  | .ok (some s) => if s < 0 \/ (xs.length : Int) <= s then .error 28 else .ok (.atom k [xs.getD s.toNat .none] none))
 | .list ts ns => (match Cb ns exact key with
  | .error e => .error e
  | .ok none => .ok .null
  | .ok (some s) => if s < 0 then .ok .null else if (ts.length : Int) <= s then .error 28 else .ok (ts.getD s.toNat .null))
def JG (n : Nat) (ns : Option (List V)) : Prop := ∀ l, ns = some l -> l.all Ey = true /\ l.length = n
def plain : V -> Bool
 | .ref _ => false
 | .ext => false
 | _ => true
inductive Be (st : Bool) : Nat -> Tr -> Prop
 | null {d : Nat} : Be st d .null
 | atom {d k : Nat} {xs : List V} {ns : Option (List V)} (hk : k = 8 \/ k = 9) (hx : xs.length <= 8) (hn : JG xs.length ns) (hi : xs.all plain = true /\ (st = true -> xs.length <= 4 /\ (k = 8 -> ∀ x ∈ xs, ∃ i : Int, x = .int i /\ 0 <= i /\ i <= 100000))) : Be st d (.atom k xs ns)
 | list {d : Nat} {ts : List Tr} {ns : Option (List V)} (hx : ts.length <= 8) (hn : JG ts.length ns) (hs : st = true -> ts.length <= 4) (ht : ∀ t ∈ ts, Be st d t) : Be st (d + 1) (.list ts ns)
def CZ (S : Nat -> Prop) (m : M V) (H : MH) (r : Except Nat Tr) : Prop := match r with
 | .ok t => W S m H fun v H' => Bi S H' t v
 | .error e => Xc S m H e
theorem CZ.ok {m : M V} {r : Except Nat Tr} {t : Tr} (h : r = .ok t) (w : W S m H fun v H' => Bi S H' t v) : CZ S m H r := by subst h; exact w
theorem CZ.err {m : M V} {r : Except Nat Tr} {e : Nat} (h : r = .error e) (x : Xc S m H e) : CZ S m H r := by subst h; exact x
theorem Df (hS : CH S H) {L : MH} : Bi S (H ++ .inst .null [(0, .w 6), (2, .none)] :: L) .null (.ref H.length) := by
 rw [Bi]
 exact ⟨H.length, rfl, hS.new⟩
theorem Dc (hS : CH S H) {k : Nat} {xs : List V} {sh : V} : Bi S (H ++ [.list xs, Ah k H.length .none sh]) (.atom k xs none) (.ref (H.length + 1)) := by
 have nS : ∀ j, ¬ S (H.length + j) := fun j q => absurd (hS _ q) (by omega)
 rw [AC]
 exact ⟨H.length, ⟨H.length + 1, .none, sh, rfl, ⟨by simp, nS 1⟩, rfl⟩, by simp, nS 0⟩
theorem DQ {v ix : V} {ts : List Tr} {ns : Option (List V)} {key : Gc} {exact : Bool} (hS : CH S H) (hv : Bi S H (.list ts ns) v) (hx : Bi S H (D8 key) ix) (Bf : CL key) (hn : JG ts.length ns) (hl : ts.length <= 8) :
  CZ S (Bg Ab (d + 5) .Bb [v, ix, .bool exact]) H (Bn (.list ts ns) key exact) := by
 obtain ⟨b0, vs0, hv0, hb0, hr0⟩ := A2.mp hv
 have hlen0 := hr0.len
 obtain ⟨nv, Ha, e1, x0, n1⟩ := AQ (Ab := Ab) (d := d + 1) hS hv0 (.inl rfl) (fun l h => by have := (hn l h).2; omega)
 have hSa := hS.up x0
 have ep := Bj (Ab := Ab) (d := d) (ln := .int vs0.length) (exact := exact) (hx.up x0) Bf n1 (fun l h => ⟨(hn l h).1, by have := (hn l h).2; omega⟩)
 obtain ⟨a0, t0, sh0, rfl, q0, r0⟩ := hv0
 obtain ⟨sha, qa⟩ := q0.upV x0
 have q0' := q0.1
 have b0' := hb0.1
 have C7 : vs0.length <= 100000 := by omega
 cases hp : Cb ns exact key with
 | error e =>
  rw [hp] at ep
  refine CZ.err (e := e) (by simp [Bn, hp]) ⟨Ha, ?_, x0⟩
  simp_all! [AU, q0', b0', C7, e1, ep]
 | ok p =>
  rw [hp] at ep
  obtain ⟨L, ep⟩ := ep
  have xL : Ak S Ha (Ha ++ L) := Ak.app _ _ _
  generalize hHb : Ha ++ L = Hb at ep xL
  have xb := x0.trans xL
  have hSb := hS.up xb
  obtain ⟨shb, qb⟩ := q0.upV xb
  have qb' := qb.1
  have bb' := (hb0.upL xb).1
  have l1 := Ad (Ab := Ab) (d := d + 3) (H := Hb) (k := 7)
  simp at l1
  have eN : Bg Ab (d + 4) .Ad [.w 7] Hb = .ok (.bool true) Hb := l1
  cases p with
  | none =>
   refine CZ.ok (t := .null) (by simp [Bn, hp]) ⟨.ref Hb.length, Hb ++ [.inst .null [(0, .w 6), (2, .none)]], ?_, xb.trans (Ak.app _ _ _), Df hSb⟩
   simp_all! [AU, q0', b0', C7, qb', e1, ep, pv, l1, GB]
  | some s =>
   by_cases h0 : s < 0
   .refine CZ.ok (t := .null) (by simp [Bn, hp, h0]) ⟨.ref Hb.length, Hb ++ [.inst .null [(0, .w 6), (2, .none)]], ?_, xb.trans (Ak.app _ _ _), Df hSb⟩
    simp_all! [AU, q0', b0', C7, qb', e1, ep, pv, l1, h0, GB]
   .by_cases h1 : (ts.length : Int) <= s
    .have h1' : (vs0.length : Int) <= s := by omega
     refine CZ.err (e := 28) (by simp only [Bn, hp]; rw [if_neg h0, if_pos h1]) ⟨Hb, ?_, xb⟩
     simp_all! [AU, q0', b0', C7, qb', e1, ep, pv, l1, h0, h1']
    .have h1' : ¬ (vs0.length : Int) <= s := by omega
     have h1s : s < (vs0.length : Int) := by omega
     have h00 : 0 <= s := by omega
     have hs1 : s <= 100000 := by omega
     have CV : s.toNat < ts.length := by omega
     obtain ⟨u, hu, hru⟩ := hr0.get (i := s.toNat) (t := ts[s.toNat]) (by simp [CV])
     have hget : ts.getD s.toNat .null = ts[s.toNat] := by simp [CV]
     have l2 := Ad (Ab := Ab) (d := d + 2) (H := Hb) (k := 7)
     simp at l2
     have e5 : Bg Ab (d + 4) .CO [.ref a0, .int s] Hb = .ok u Hb := by
      simp_all! [FW, qb', bb', l2, h00, hs1, hu]
     refine CZ.ok (t := ts.getD s.toNat .null) (by simp only [Bn, hp]; rw [if_neg h0, if_neg h1]) ⟨u, Hb, ?_, xb, by rw [hget]; exact hru.up xb⟩
     simp_all! [AU, q0', b0', C7, qb', e1, ep, pv, l1, h0, h1', h1s, e5]
theorem Fw {v ix : V} {k : Nat} {xs : List V} {ns : Option (List V)} {key : Gc} {exact : Bool} (hS : CH S H) (hv : Bi S H (.atom k xs ns) v) (hk : k = 8 \/ k = 9) (hx : Bi S H (D8 key) ix) (Bf : CL key) (hn : JG xs.length ns) (hl : xs.length <= 8) :
  CZ S (Bg Ab (d + 5) .Bb [v, ix, .bool exact]) H (Bn (.atom k xs ns) key exact) := by
 obtain ⟨b0, hv0, hb0⟩ := AC.mp hv
 obtain ⟨nv, Ha, e1, x0, n1⟩ := AQ (Ab := Ab) (d := d + 1) hS hv0 (.inr hk) (fun l h => by have := (hn l h).2; omega)
 have hSa := hS.up x0
 have ep := Bj (Ab := Ab) (d := d) (ln := .int xs.length) (exact := exact) (hx.up x0) Bf n1 (fun l h => ⟨(hn l h).1, by have := (hn l h).2; omega⟩)
 obtain ⟨a0, t0, sh0, rfl, q0, r0⟩ := hv0
 have q0' := q0.1
 have b0' := hb0.1
 have C7 : xs.length <= 100000 := by omega
 have lk : [7, 19, 20].contains k = false := by rcases hk with rfl | rfl <;> rfl
 cases hp : Cb ns exact key with
 | error e =>
  rw [hp] at ep
  refine CZ.err (e := e) (by simp [Bn, hp]) ⟨Ha, ?_, x0⟩
  simp_all! [AU, q0', b0', C7, e1, ep]
 | ok p =>
  rw [hp] at ep
  obtain ⟨L, ep⟩ := ep
  have xL : Ak S Ha (Ha ++ L) := Ak.app _ _ _
  generalize hHb : Ha ++ L = Hb at ep xL
  have xb := x0.trans xL
  have hSb := hS.up xb
  obtain ⟨shb, qb⟩ := q0.upV xb
  have qb' := qb.1
  have bb' := (hb0.upL xb).1
  have l1 := Ad (Ab := Ab) (d := d + 3) (H := Hb) (k := k)
  rw [lk] at l1
  have la : a0 < Hb.length := (AH qb')
  have hA : ∀ L : MH, (Hb ++ L)[a0]? = some (Ah k b0 t0 shb) := fun L => by rw [Ck la]; exact qb'
  simp only [Ah] at hA
  cases p with
  | none =>
   refine CZ.ok (t := .atom k [.none] none) (by simp [Bn, hp]) ⟨.ref (Hb.length + 1), Hb ++ [.list [.none], Ah k Hb.length .none (.bool false)], ?_, xb.trans (Ak.app _ _ _), Dc hSb⟩
   simp_all! [AU, q0', b0', C7, qb', e1, ep, pv, l1, hA, CD]
  | some s =>
   by_cases h0 : s < 0
   .refine CZ.err (e := 28) (by simp only [Bn, hp]; rw [if_pos (.inl h0)]) ⟨Hb, ?_, xb⟩
    simp_all! [AU, q0', b0', C7, qb', e1, ep, pv, l1, h0]
   .by_cases h1 : (xs.length : Int) <= s
    .refine CZ.err (e := 28) (by simp only [Bn, hp]; rw [if_pos (.inr h1)]) ⟨Hb, ?_, xb⟩
     simp_all! [AU, q0', b0', C7, qb', e1, ep, pv, l1, h0, h1]
    .have h1s : s < (xs.length : Int) := by omega
     have h00 : 0 <= s := by omega
     have hs1 : s <= 100000 := by omega
     have CV : s.toNat < xs.length := by omega
     have hu : xs[s.toNat]? = some (xs.getD s.toNat .none) := by simp [CV]
     obtain ⟨u, hu2⟩ : ∃ u, xs.getD s.toNat .none = u := ⟨_, rfl⟩
     rw [hu2] at hu
     have l2 := Ad (Ab := Ab) (d := d + 2) (H := Hb) (k := k)
     rw [lk] at l2
     have e5 : Bg Ab (d + 4) .CO [.ref a0, .int s] Hb = .ok (.ref (Hb.length + 1)) (Hb ++ [.list [u], Ah k Hb.length .none (.bool false)]) := by
      simp_all! [FW, qb', bb', l2, h00, hs1, hu, CD]
     refine CZ.ok (t := .atom k [u] none) (by simp only [Bn, hp]; rw [if_neg (by omega), hu2]) ⟨.ref (Hb.length + 1), Hb ++ [.list [u], Ah k Hb.length .none (.bool false)], ?_, xb.trans (Ak.app _ _ _), Dc hSb⟩
     simp_all! [AU, q0', b0', C7, qb', e1, ep, pv, l1, h0, h1, h1s, e5]
def KQ (t : Tr) (k : Nat) : Except Nat Tr := match t with
 | .null => .ok .null
 | .atom _ _ _ => .error 30
 | .list ts ns => Bn (.list ts ns) (.nm k) false
theorem CZ.up {m m' : M V} {H1 : MH} {r : Except Nat Tr} (h : CZ S m H1 r) (x : Ak S H H1) (e : ∀ v G, m H1 = .ok v G -> m' H = .ok v G) (e2 : ∀ n G, m H1 = .exc n G -> m' H = .exc n G) : CZ S m' H r := by
 cases r with
 | ok t => obtain ⟨v, G, q, x2, p⟩ := h; exact ⟨v, G, e _ _ q, x.trans x2, p⟩
 | error n => obtain ⟨G, q, x2⟩ := h; exact ⟨G, e2 _ _ q, x.trans x2⟩
theorem AM {t : Tr} {v ix : V} {key : Gc} {exact : Bool} {n : Nat} (hS : CH S H) (hv : Bi S H t v) (ht : Be st n t) (hx : Bi S H (D8 key) ix) (Bf : CL key) :
  CZ S (Bg Ab (d + 6) .AM [v, ix, .bool exact]) H (Bn t key exact) := by
 cases ht with
 | null =>
  rw [Bi] at hv
  obtain ⟨a, rfl, q⟩ := hv
  have q1 := q.1
  refine CZ.ok (t := .null) rfl ⟨.ref H.length, H ++ [.inst .null [(0, .w 6), (2, .none)]], ?_, Ak.app _ _ _, Df hS⟩
  simp_all! [Cs, q1, GB]
 | @atom _ k xs ns hk hxs hn hi =>
  have r := Fw (Ab := Ab) (d := d) (exact := exact) hS hv hk hx Bf hn hxs
  obtain ⟨b0, hv0, hb0⟩ := AC.mp hv
  obtain ⟨a0, t0, sh0, rfl, q0, r0⟩ := hv0
  have q1 := q0.1
  have e1 := AD (Ab := Ab) (d := d + 4) q0
  have k6 : (k == 6) = false := by rcases hk with rfl | rfl <;> rfl
  have k21 : (k == 21) = false := by rcases hk with rfl | rfl <;> rfl
  have k22 : (k == 22) = false := by rcases hk with rfl | rfl <;> rfl
  refine CZ.up r (Ak.refl _ _) (fun v G e2 => ?_) fun n G e2 => ?_
  .simp_all! [Cs, q1, e1, e2, k6, k21, k22]
  .simp_all! [Cs, q1, e1, e2, k6, k21, k22]
 | @list _ ts ns hxs hn hs4 hts =>
  have r := DQ (Ab := Ab) (d := d) (exact := exact) hS hv hx Bf hn hxs
  obtain ⟨b0, vs0, hv0, hb0, hr0⟩ := A2.mp hv
  obtain ⟨a0, t0, sh0, rfl, q0, r0⟩ := hv0
  have q1 := q0.1
  have e1 := AD (Ab := Ab) (d := d + 4) q0
  refine CZ.up r (Ak.refl _ _) (fun v G e2 => ?_) fun n G e2 => ?_
  .simp_all! [Cs, q1, e1, e2]
  .simp_all! [Cs, q1, e1, e2]
theorem Gg {ix : V} {k : Nat} {xs : List V} {ns : Option (List V)} (h : Bi S H (.atom k xs ns) ix) (hk : k = 8 \/ k = 9) (hl : xs.length <= 8) : Bg Ab (d + 2) .Bx [ix] H = .ok (.bool (decide (1 < xs.length))) H := by
 obtain ⟨b0, hv0, hb0⟩ := AC.mp h
 obtain ⟨a0, t0, sh0, rfl, q0, r0⟩ := hv0
 have q1 := q0.1
 have b1 := hb0.1
 have e1 := AD (Ab := Ab) (d := d) q0
 have l1 := Ad (Ab := Ab) (d := d) (H := H) (k := k)
 have lk : [7, 19, 20].contains k = false := by rcases hk with rfl | rfl <;> rfl
 rw [lk] at l1
 have C7 : xs.length <= 100000 := by omega
 simp_all! [EZ, q1, b1, e1, l1, C7]
 omega
theorem Lh {key : Gc} {ix : V} (h : Bi S H (D8 key) ix) : ∃ k x, (k = 8 \/ k = 9) /\ Bi S H (.atom k [x] none) ix := by
 cases key with
 | na => exact ⟨8, _, .inl rfl, h⟩
 | num i => exact ⟨8, _, .inl rfl, h⟩
 | nm k => exact ⟨9, _, .inr rfl, h⟩
theorem Mw {t : Tr} {v ix : V} {l : Nat} {key : Gc} {exact : Bool} {n : Nat} (hS : CH S H) (hv : Bi S H t v) (ht : Be st n t) (hx : Bi S H (D8 key) ix) (Bf : CL key) (hl : H[l]? = some (.list [ix])) :
  CZ S (Bg Ab (d + 7) .Ct [v, .ref l, .bool exact]) H (Bn t key exact) := by
 have r := AM (Ab := Ab) (d := d) (exact := exact) hS hv ht hx Bf
 obtain ⟨k, x, hk, hx2⟩ := Lh hx
 have e1 := Gg (Ab := Ab) (d := d + 4) hx2 hk (by simp)
 obtain ⟨b0, hv0, hb0⟩ := AC.mp hx2
 obtain ⟨a0, t0, sh0, rfl, q0, r0⟩ := hv0
 have q1 := q0.1
 have k29 : (k == 29) = false := by rcases hk with rfl | rfl <;> rfl
 simp at e1
 refine CZ.up r (Ak.refl _ _) (fun v G e2 => ?_) fun n G e2 => ?_
 .simp_all! [DX, hl, q1, e1, e2, k29]
 .simp_all! [DX, hl, q1, e1, e2, k29]
theorem CS {t : Tr} {v : V} {k : Nat} {n : Nat} (hS : CH S H) (hv : Bi S H t v) (ht : Be st n t) (hk : 12 <= k /\ k < 18) : CZ S (Bg Ab (d + 6) .CS [v, .w k]) H (KQ t k) := by
 cases ht with
 | null =>
  rw [Bi] at hv
  obtain ⟨a, rfl, q⟩ := hv
  have q1 := q.1
  refine CZ.ok (t := .null) rfl ⟨.ref H.length, H ++ [.inst .null [(0, .w 6), (2, .none)]], ?_, Ak.app _ _ _, Df hS⟩
  simp_all! [ES, q1, GB]
 | @atom _ k' xs ns hk' hxs hn hi =>
  obtain ⟨b0, hv0, hb0⟩ := AC.mp hv
  obtain ⟨a0, t0, sh0, rfl, q0, r0⟩ := hv0
  have q1 := q0.1
  have e1 := AD (Ab := Ab) (d := d + 4) q0
  have l1 := Ad (Ab := Ab) (d := d + 4) (H := H) (k := k')
  have lk : [7, 19, 20].contains k' = false := by rcases hk' with rfl | rfl <;> rfl
  rw [lk] at l1
  have k6 : (k' == 6) = false := by rcases hk' with rfl | rfl <;> rfl
  have k21 : (k' == 21) = false := by rcases hk' with rfl | rfl <;> rfl
  have k22 : (k' == 22) = false := by rcases hk' with rfl | rfl <;> rfl
  refine CZ.err (e := 30) rfl ⟨H, ?_, Ak.refl _ _⟩
  simp_all! [ES, q1, e1, l1, k6, k21, k22]
 | @list _ ts ns hxs hn hs4 hts =>
  have x0 : Ak S H (H ++ [An.list [.w k], .list [.w k], Ah 9 (H.length + 1) .none (.bool false)]) := Ak.app _ _ _
  have nS : ∀ j, ¬ S (H.length + j) := fun j q => absurd (hS _ q) (by omega)
  have hx : Bi S (H ++ [An.list [.w k], .list [.w k], Ah 9 (H.length + 1) .none (.bool false)]) (D8 (.nm k)) (.ref (H.length + 2)) := by
   rw [D8, AC]
   exact ⟨H.length + 1, ⟨H.length + 2, .none, .bool false, rfl, ⟨by simp, nS 2⟩, rfl⟩, by simp, nS 1⟩
  have r := DQ (Ab := Ab) (d := d) (exact := false) (key := .nm k) (hS.up x0) (hv.up x0) hx hk hn hxs
  have e0 := Av (Ab := Ab) (d := d + 3) (H := H ++ [An.list [.w k]]) (b := H.length) (xs := [.w k]) (by simp) (by simp)
  have e0' : Bg Ab (d + 5) .Av [.ref H.length] (H ++ [An.list [.w k]]) = .ok (.ref (H.length + 2)) (H ++ [An.list [.w k], .list [.w k], Ah 9 (H.length + 1) .none (.bool false)]) := by simpa using e0
  obtain ⟨b0, vs0, hv0, hb0, hr0⟩ := A2.mp hv
  obtain ⟨a0, t0, sh0, rfl, q0, r0⟩ := hv0
  have q1 := q0.1
  have e1 := AD (Ab := Ab) (d := d + 4) q0
  have l1 := Ad (Ab := Ab) (d := d + 4) (H := H) (k := 7)
  simp at l1
  simp only [Ah] at e0'
  refine CZ.up r x0 (fun v G e2 => ?_) fun n G e2 => ?_
  .simp only [Ah] at e2
   simp_all! [ES, q1, e0', e1, l1, e2]
  .simp only [Ah] at e2
   simp_all! [ES, q1, e0', e1, l1, e2]
def CE {α : Type} (p : Nat) : Nat -> List α -> List α
 | _, [] => []
 | i, x :: xs => if i = p then CE p (i + 1) xs else x :: CE p (i + 1) xs
abbrev Ec : List (MS Fn) := [.ifs (.cmp .notin (.var 8) (.var 4)) [.asg 9 (.cmp .lt (.var 8) (.len (.attr (.var 0) 1))), .ex (.append (.var 6) (.ite (.var 9) (.idx (.attr (.var 0) 1) (.var 8)) (.mk .null []))), .ifs (.isNone true (.var 2)) [.ex (.append (.var 7) (.ite (.var 9) (.idx (.var 2) (.var 8)) (.cst (.w 16))))] []] []]
theorem K8 {a b p : Nat} {k : Nat} {t sh : V} {e1 e3 e5 : Option V} (ha : H[a]? = some (Ah k b t sh)) : ∀ (xs done out : List V) (e8 e9 : Option V), H[b]? = some (.list (done ++ xs)) -> (done ++ xs).length <= 90 -> out.length <= done.length ->
  ∃ e8' e9', CG (fun x env => Ae (AI Ab d) Ec (env.set 8 (some x))) (ret ()) (Ij done.length xs.length) [some (.ref a), e1, some .none, e3, some (.ref H.length), e5, some (.ref (H.length + 1)), some (.ref (H.length + 2)), e8, e9, none, none] (H ++ [.dictI [((p : Int), .bool true)], .list out, .list []]) =
   .ok ([some (.ref a), e1, some .none, e3, some (.ref H.length), e5, some (.ref (H.length + 1)), some (.ref (H.length + 2)), e8', e9', none, none], none) (H ++ [.dictI [((p : Int), .bool true)], .list (out ++ CE p done.length xs), .list []])
 | [], done, out, e8, e9, _, _, _ => ⟨e8, e9, by simp [CG, Ij, ret, CE]⟩
 | x :: xs, done, out, e8, e9, hb, hl, ho => by
  have la : a < H.length := (AH ha)
  have lb : b < H.length := (AH hb)
  have hA : ∀ L : MH, (H ++ L)[a]? = some (Ah k b t sh) := fun L => by rw [Ck la]; exact ha
  have hB : ∀ L : MH, (H ++ L)[b]? = some (.list (done ++ x :: xs)) := fun L => by rw [Ck lb]; exact hb
  have e : done ++ x :: xs = (done ++ [x]) ++ xs := by simp
  have hx : (done ++ x :: xs)[done.length]? = some x := by simp
  have hd : (done.length : Int) <= 100000 := by simp at hl; omega
  have hl1 : done.length + (xs.length + 1) <= 100000 := by simp at hl; omega
  have CV : (done.length : Int) < (done.length : Int) + ((xs.length : Int) + 1) := by omega
  have ho' : out.length <= 100000 := by simp at hl; omega
  have go := fun out' e8 e9 (h : out'.length <= (done ++ [x]).length) => K8 (p := p) (e1 := e1) (e3 := e3) (e5 := e5) ha xs (done ++ [x]) out' e8 e9 (by rw [<- e]; exact hb) (by rw [<- e]; exact hl) h
  simp only [List.length_append, List.length_cons, List.length_nil, Nat.zero_add] at go
  simp only [Ah] at hA
  rw [List.length_cons, EQ, CG]
  unfold CE
  by_cases hp : done.length = p
  .rw [if_pos hp]
   obtain ⟨e8', e9', g⟩ := go out (some (.int done.length)) e9 (by omega)
   refine ⟨e8', e9', ?_⟩
   rw [<- g]
   have hpi : (p : Int) = (done.length : Int) := by omega
   have : Ae (AI Ab d) Ec ([some (.ref a), e1, some .none, e3, some (.ref H.length), e5, some (.ref (H.length + 1)), some (.ref (H.length + 2)), e8, e9, none, none].set 8 (some (.int done.length))) (H ++ [.dictI [((p : Int), .bool true)], .list out, .list []]) =
     .ok ([some (.ref a), e1, some .none, e3, some (.ref H.length), e5, some (.ref (H.length + 1)), some (.ref (H.length + 2)), some (.int done.length), e9, none, none], none) (H ++ [.dictI [((p : Int), .bool true)], .list out, .list []]) := by
    rw [hpi]
    simp [Ec, Ae, Ai, Aa, Ap, bnd, ret, Au, DM, Aw, AJ, Fu, L4, Fo]
   simp only [bnd, this, ret]
  .rw [if_neg hp]
   obtain ⟨e8', e9', g⟩ := go (out ++ [x]) (some (.int done.length)) (some (.bool true)) (by simp; omega)
   refine ⟨e8', e9', ?_⟩
   have e10 : out ++ x :: CE p (done.length + 1) xs = (out ++ [x]) ++ CE p (done.length + 1) xs := by simp
   rw [e10, <- g]
   have hpi : ¬ (p : Int) = (done.length : Int) := by omega
   have : Ae (AI Ab d) Ec ([some (.ref a), e1, some .none, e3, some (.ref H.length), e5, some (.ref (H.length + 1)), some (.ref (H.length + 2)), e8, e9, none, none].set 8 (some (.int done.length))) (H ++ [.dictI [((p : Int), .bool true)], .list out, .list []]) =
     .ok ([some (.ref a), e1, some .none, e3, some (.ref H.length), e5, some (.ref (H.length + 1)), some (.ref (H.length + 2)), some (.int done.length), some (.bool true), none, none], none) (H ++ [.dictI [((p : Int), .bool true)], .list (out ++ [x]), .list []]) := by
    simp [Ec, Ae, Ai, Aa, Ap, bnd, ret, Au, DM, Aw, AJ, Fu, L4, Fo, DF, MA, Bd, EW, Bz, LY, E3, Dm, hpi, hA, hB, hx, hd, hl1, CV, ho']
   simp only [bnd, this, ret]
theorem K1 {a b p nl : Nat} {k : Nat} {t sh : V} {e1 e3 e5 : Option V} (ha : H[a]? = some (Ah k b t sh)) : ∀ (xs done out ls ld lo : List V) (e8 e9 : Option V), H[b]? = some (.list (done ++ xs)) -> (done ++ xs).length <= 90 -> out.length <= done.length -> H[nl]? = some (.list (ld ++ ls)) -> ld.length = done.length -> ls.length = xs.length -> lo.length <= done.length ->
  ∃ e8' e9', CG (fun x env => Ae (AI Ab d) Ec (env.set 8 (some x))) (ret ()) (Ij done.length xs.length) [some (.ref a), e1, some (.ref nl), e3, some (.ref H.length), e5, some (.ref (H.length + 1)), some (.ref (H.length + 2)), e8, e9, none, none] (H ++ [.dictI [((p : Int), .bool true)], .list out, .list lo]) =
   .ok ([some (.ref a), e1, some (.ref nl), e3, some (.ref H.length), e5, some (.ref (H.length + 1)), some (.ref (H.length + 2)), e8', e9', none, none], none) (H ++ [.dictI [((p : Int), .bool true)], .list (out ++ CE p done.length xs), .list (lo ++ CE p done.length ls)])
 | [], done, out, [], ld, lo, e8, e9, _, _, _, _, _, _, _ => ⟨e8, e9, by simp [CG, Ij, ret, CE]⟩
 | [], done, out, _ :: _, ld, lo, e8, e9, _, _, _, _, _, h, _ => by cases h
 | _ :: _, done, out, [], ld, lo, e8, e9, _, _, _, _, _, h, _ => by cases h
 | x :: xs, done, out, y :: ls, ld, lo, e8, e9, hb, hl, ho, hn, hld, hls, hlo => by
  have ln : nl < H.length := (AH hn)
  have hN : ∀ L : MH, (H ++ L)[nl]? = some (.list (ld ++ y :: ls)) := fun L => by rw [Ck ln]; exact hn
  have ey : ld ++ y :: ls = (ld ++ [y]) ++ ls := by simp
  have hy : (ld ++ y :: ls)[done.length]? = some y := by rw [<- hld]; simp
  have hlo' : lo.length <= 100000 := by simp at hl; omega
  have la : a < H.length := (AH ha)
  have lb : b < H.length := (AH hb)
  have hA : ∀ L : MH, (H ++ L)[a]? = some (Ah k b t sh) := fun L => by rw [Ck la]; exact ha
  have hB : ∀ L : MH, (H ++ L)[b]? = some (.list (done ++ x :: xs)) := fun L => by rw [Ck lb]; exact hb
  have e : done ++ x :: xs = (done ++ [x]) ++ xs := by simp
  have hx : (done ++ x :: xs)[done.length]? = some x := by simp
  have hd : (done.length : Int) <= 100000 := by simp at hl; omega
  have hl1 : done.length + (xs.length + 1) <= 100000 := by simp at hl; omega
  have CV : (done.length : Int) < (done.length : Int) + ((xs.length : Int) + 1) := by omega
  have ho' : out.length <= 100000 := by simp at hl; omega
  have go := fun out' lo' e8 e9 (h : out'.length <= (done ++ [x]).length) (h2 : lo'.length <= (done ++ [x]).length) => K1 (p := p) (e1 := e1) (e3 := e3) (e5 := e5) ha xs (done ++ [x]) out' ls (ld ++ [y]) lo' e8 e9 (by rw [<- e]; exact hb) (by rw [<- e]; exact hl) h (by rw [<- ey]; exact hn) (by simp [hld]) (by simpa using hls) h2
  simp only [List.length_append, List.length_cons, List.length_nil, Nat.zero_add] at go
  simp only [Ah] at hA
  rw [List.length_cons, EQ, CG]
  rw [CE, CE]
  by_cases hp : done.length = p
  .rw [if_pos hp, if_pos hp]
   obtain ⟨e8', e9', g⟩ := go out lo (some (.int done.length)) e9 (by omega) (by omega)
   refine ⟨e8', e9', ?_⟩
   rw [<- g]
   have hpi : (p : Int) = (done.length : Int) := by omega
   have : Ae (AI Ab d) Ec ([some (.ref a), e1, some (.ref nl), e3, some (.ref H.length), e5, some (.ref (H.length + 1)), some (.ref (H.length + 2)), e8, e9, none, none].set 8 (some (.int done.length))) (H ++ [.dictI [((p : Int), .bool true)], .list out, .list lo]) =
     .ok ([some (.ref a), e1, some (.ref nl), e3, some (.ref H.length), e5, some (.ref (H.length + 1)), some (.ref (H.length + 2)), some (.int done.length), e9, none, none], none) (H ++ [.dictI [((p : Int), .bool true)], .list out, .list lo]) := by
    rw [hpi]
    simp [Ec, Ae, Ai, Aa, Ap, bnd, ret, Au, DM, Aw, AJ, Fu, L4, Fo]
   simp only [bnd, this, ret]
  .rw [if_neg hp, if_neg hp]
   obtain ⟨e8', e9', g⟩ := go (out ++ [x]) (lo ++ [y]) (some (.int done.length)) (some (.bool true)) (by simp; omega) (by simp; omega)
   refine ⟨e8', e9', ?_⟩
   have e10 : out ++ x :: CE p (done.length + 1) xs = (out ++ [x]) ++ CE p (done.length + 1) xs := by simp
   have e11 : lo ++ y :: CE p (done.length + 1) ls = (lo ++ [y]) ++ CE p (done.length + 1) ls := by simp
   rw [e10, e11, <- g]
   have hpi : ¬ (p : Int) = (done.length : Int) := by omega
   have : Ae (AI Ab d) Ec ([some (.ref a), e1, some (.ref nl), e3, some (.ref H.length), e5, some (.ref (H.length + 1)), some (.ref (H.length + 2)), e8, e9, none, none].set 8 (some (.int done.length))) (H ++ [.dictI [((p : Int), .bool true)], .list out, .list lo]) =
     .ok ([some (.ref a), e1, some (.ref nl), e3, some (.ref H.length), e5, some (.ref (H.length + 1)), some (.ref (H.length + 2)), some (.int done.length), some (.bool true), none, none], none) (H ++ [.dictI [((p : Int), .bool true)], .list (out ++ [x]), .list (lo ++ [y])]) := by
    simp [Ec, Ae, Ai, Aa, Ap, bnd, ret, Au, DM, Aw, AJ, Fu, L4, Fo, DF, MA, Bd, EW, Bz, LY, E3, Dm, hpi, hA, hB, hN, hx, hy, hd, hl1, CV, ho', hlo']
   simp only [bnd, this, ret]
theorem E1 {α : Type} {p : Nat} : ∀ {xs : List α} {i : Nat}, CE p i xs = if i <= p then xs.eraseIdx (p - i) else xs
 | [], i => by simp [CE]
 | x :: xs, i => by
  unfold CE
  rw [E1]
  by_cases h : i = p
  .subst h
   rw [if_pos rfl, if_neg (by omega), if_pos (Nat.le_refl _)]
   simp
  .rw [if_neg h]
   by_cases h2 : i <= p
   .have e : p - i = (p - (i + 1)) + 1 := by omega
    rw [if_pos (by omega), if_pos h2, e, List.eraseIdx_cons_succ]
   .rw [if_neg (by omega), if_neg h2]
theorem A4.erase : ∀ {ts : List Tr} {vs : List V} (p : Nat), A4 S H ts vs -> A4 S H (ts.eraseIdx p) (vs.eraseIdx p)
 | [], _, _, h => by rw [A4] at h; rw [h]; simp only [List.eraseIdx_nil]; rw [A4]
 | t :: ts, _, 0, h => by
  rw [A4] at h
  obtain ⟨v, r, rfl, h1, h2⟩ := h
  simpa using h2
 | t :: ts, _, p + 1, h => by
  rw [A4] at h
  obtain ⟨v, r, rfl, h1, h2⟩ := h
  simp only [List.eraseIdx_cons_succ]
  rw [A4]
  exact ⟨v, _, rfl, h1, A4.erase p h2⟩
theorem BH {pl p : Nat} (h : H[pl]? = some (.list [.int p])) : Bg Ab (d + 1) .BH [.ref pl] H = .ok (.int ((p : Int) + 1)) H := by
 simp_all! [FU, h, C8, CG]
theorem OE {v : V} {pl p : Nat} {ts : List Tr} {ns : Option (List V)} (hS : CH S H) (hv : Bi S H (.list ts ns) v) (hl : ts.length <= 8) (hn : JG ts.length ns) (hp : p < ts.length) (hpl : At S H pl (.list [.int p])) :
  W S (Bg Ab (d + 6) .BP [v, .ref pl]) H fun r H' => Bi S H' (.list (ts.eraseIdx p) (ns.map (·.eraseIdx p))) r := by
 obtain ⟨b0, vs0, hv0, hb0, hr0⟩ := A2.mp hv
 have hlen0 := hr0.len
 obtain ⟨nv, Ha, e1, x0, n1⟩ := AQ (Ab := Ab) (d := d + 2) hS hv0 (.inl rfl) (fun l h => by have := (hn l h).2; omega)
 have hSa := hS.up x0
 have hpa := hpl.upL x0
 have e2 := BH (Ab := Ab) (d := d + 4) hpa.1
 have e3 := Eb (Ab := Ab) (d := d + 4) (H := Ha) (i := (vs0.length : Int)) (by omega)
 obtain ⟨a0, t0, sh0, rfl, q0, r0⟩ := hv0
 obtain ⟨sha, qa⟩ := q0.upV x0
 have ra := r0.up x0
 have ba := hb0.upL x0
 have qa' := qa.1
 have ba' := ba.1
 have q0' := q0.1
 have pa' := hpa.1
 have nS : ∀ j, ¬ S (Ha.length + j) := fun j q => absurd (hSa _ q) (by omega)
 have la : a0 < Ha.length := (AH qa')
 have lb : b0 < Ha.length := (AH ba')
 have hA : ∀ L : MH, (Ha ++ L)[a0]? = some (Ah 7 b0 t0 sha) := fun L => by rw [Ck la]; exact qa'
 have lpl : pl < Ha.length := (AH pa')
 have hPl : ∀ L : MH, (Ha ++ L)[pl]? = some (.list [.int p]) := fun L => by rw [Ck lpl]; exact pa'
 have hB : ∀ L : MH, (Ha ++ L)[b0]? = some (.list vs0) := fun L => by rw [Ck lb]; exact ba'
 have hmax : ¬ (vs0.length : Int) < (p : Int) + 1 := by omega
 have hl1 : vs0.length <= 100000 := by omega
 have hl2 : (vs0.length : Int) <= 100000 := by omega
 have AR : (p : Int) <= 100000 := by omega
 have hr := EE vs0.length
 have hde : CE p 0 vs0 = vs0.eraseIdx p := by rw [E1]; simp
 simp only [Ah] at hA
 have hel : (vs0.eraseIdx p).length <= 100000 := Nat.le_trans (List.length_eraseIdx_le ..) hl1
 cases ns with
 | none =>
  cases n1
  cases ra
  obtain ⟨e8, e9, g⟩ := K8 (Ab := Ab) (d := d + 5) (p := p) (e1 := some (.ref pl)) (e3 := some (.int vs0.length)) (e5 := some (.int p)) qa' vs0 [] [] none none (by simpa using ba') (by simp; omega) (Nat.le_refl _)
  simp! [Ec, hde] at g
  refine ⟨.ref (Ha.length + 3), Ha ++ [.dictI [((p : Int), .bool true)], .list (vs0.eraseIdx p), .list [], Ah 7 (Ha.length + 1) .none (.bool false)], ?_, x0.trans (Ak.app _ _ _), ?_⟩
  .simp_all! [DZ, C8, CG, qa', ba', pa', hPl, q0', e1, e2, e3, hmax, hl1, hl2, AR, hr, g, hA, hB, CD]
  .dsimp only
   rw [A2]
   exact ⟨Ha.length + 1, _, ⟨Ha.length + 3, .none, .bool false, rfl, ⟨by simp, nS 3⟩, rfl⟩, ⟨by simp, nS 1⟩, (A4.erase p (hr0.up x0)).up (Ak.app _ _ _)⟩
 | some l =>
  obtain ⟨nl, rfl, hnl⟩ := n1
  obtain ⟨c, n0, m0, shn, rfl, c1, c2, c3⟩ := ra
  have hll := (hn l rfl).2
  have c1' := c1.1
  have lc : c < Ha.length := (AH c1')
  obtain ⟨e8, e9, g⟩ := K1 (Ab := Ab) (d := d + 5) (p := p) (nl := nl) (e1 := some (.ref pl)) (e3 := some (.int vs0.length)) (e5 := some (.int p)) qa' vs0 [] [] l [] [] none none (by simpa using ba') (by simp; omega) (Nat.le_refl _) (by simpa using hnl.1) rfl (by omega) (Nat.le_refl _)
  have hdl : CE p 0 l = l.eraseIdx p := by rw [E1]; simp
  have hell : (l.eraseIdx p).length <= 100000 := Nat.le_trans (List.length_eraseIdx_le ..) (by omega)
  simp! [Ec, hde, hdl] at g
  have hC : ∀ L : MH, (Ha ++ L)[c]? = some (.dictW [(5, .ref n0)]) := fun L => by rw [Ck lc]; exact c1'
  have hCP : ∀ L : MH, ((Ha ++ L).set c (.dictP [(5, .ref n0)]))[c]? = some (.dictP [(5, .ref n0)]) := fun L => Ew (by simp; omega)
  have hback : ∀ L : MH, (Ha ++ L).set c (.dictW [(5, .ref n0)]) = Ha ++ L := fun L => by
   apply List.ext_getElem?
   intro i
   by_cases hi : c = i
   .subst hi; rw [Ew (by simp; omega), hC]
   .rw [Cq hi]
  have f1 := Av (Ab := Ab) (d := d + 3) (H := Ha ++ [An.dictI [((p : Int), .bool true)], .list (vs0.eraseIdx p), .list (l.eraseIdx p), Ah 7 (Ha.length + 1) .none (.bool false)]) (b := Ha.length + 2) (xs := l.eraseIdx p) (by simp) hell
  have f1' : Bg Ab (d + 5) .Av [.ref (Ha.length + 2)] (Ha ++ [An.dictI [((p : Int), .bool true)], .list (vs0.eraseIdx p), .list (l.eraseIdx p), Ah 7 (Ha.length + 1) .none (.bool false)]) = .ok (.ref (Ha.length + 5)) (Ha ++ [An.dictI [((p : Int), .bool true)], .list (vs0.eraseIdx p), .list (l.eraseIdx p), Ah 7 (Ha.length + 1) .none (.bool false), .list (l.eraseIdx p), Ah 9 (Ha.length + 4) .none (.bool false)]) := by simpa using f1
  have f2 := Jz (Ab := Ab) (d := d + 3) (H := Ha ++ [An.dictI [((p : Int), .bool true)], .list (vs0.eraseIdx p), .list (l.eraseIdx p), Ah 7 (Ha.length + 1) .none (.bool false), .list (l.eraseIdx p), Ah 9 (Ha.length + 4) .none (.bool false)]) (a := Ha.length + 3) (k := 7) (b := Ha.length + 1) (sh := .bool false) (n := Ha.length + 5) (m := Ha.length + 4) (shn := .bool false) (by simp) (by simp) (by omega)
  obtain ⟨K, hK⟩ : ∃ K, K = ((((Ha ++ [An.dictI [((p : Int), .bool true)], .list (vs0.eraseIdx p), .list (l.eraseIdx p), Ah 7 (Ha.length + 1) .none (.bool false), .list (l.eraseIdx p), Ah 9 (Ha.length + 4) .none (.bool false)] ++ [An.dictW []]).set (Ha.length + 3) (Ah 7 (Ha.length + 1) (.ref (Ha ++ [An.dictI [((p : Int), .bool true)], .list (vs0.eraseIdx p), .list (l.eraseIdx p), Ah 7 (Ha.length + 1) .none (.bool false), .list (l.eraseIdx p), Ah 9 (Ha.length + 4) .none (.bool false)]).length) (.bool false))).set (Ha.length + 5) (Ah 9 (Ha.length + 4) .none (.bool true))).set (Ha ++ [An.dictI [((p : Int), .bool true)], .list (vs0.eraseIdx p), .list (l.eraseIdx p), Ah 7 (Ha.length + 1) .none (.bool false), .list (l.eraseIdx p), Ah 9 (Ha.length + 4) .none (.bool false)]).length (.dictW [(5, .ref (Ha.length + 5))])) := ⟨_, rfl⟩
  rw [<- hK] at f2
  have hK2 : K = Ha ++ [An.dictI [((p : Int), .bool true)], .list (vs0.eraseIdx p), .list (l.eraseIdx p), Ah 7 (Ha.length + 1) (.ref (Ha.length + 6)) (.bool false), .list (l.eraseIdx p), Ah 9 (Ha.length + 4) .none (.bool true), .dictW [(5, .ref (Ha.length + 5))]] := by
   rw [hK]; simp
  subst hK2
  clear hK
  refine ⟨.ref (Ha.length + 3), Ha ++ [An.dictI [((p : Int), .bool true)], .list (vs0.eraseIdx p), .list (l.eraseIdx p), Ah 7 (Ha.length + 1) (.ref (Ha.length + 6)) (.bool false), .list (l.eraseIdx p), Ah 9 (Ha.length + 4) .none (.bool true), .dictW [(5, .ref (Ha.length + 5))]], ?_, x0.trans (Ak.app _ _ _), ?_⟩
  rotate_left
  .dsimp only
   rw [A2]
   refine ⟨Ha.length + 1, vs0.eraseIdx p, ⟨Ha.length + 3, .ref (Ha.length + 6), .bool false, rfl, ⟨?_, nS 3⟩, Ha.length + 6, Ha.length + 5, Ha.length + 4, .bool true, rfl, ⟨?_, nS 6⟩, ⟨?_, nS 5⟩, ⟨?_, nS 4⟩⟩, ⟨?_, nS 1⟩, (A4.erase p (hr0.up x0)).up (Ak.app _ _ _)⟩ <;> simp
  .simp only [Ah] at f1' f2
   simp_all! [DZ, C8, CG, getD, qa', ba', pa', hPl, q0', e1, e2, e3, hmax, hl1, hl2, AR, hr, g, hA, hB, hC, hCP, hback, CD, f1', f2]
def Tr.names : Tr -> Option (List V)
 | .null => none
 | .atom _ _ ns => ns
 | .list _ ns => ns
def Tr.len : Tr -> Nat
 | .null => 0
 | .atom _ xs _ => xs.length
 | .list ts _ => ts.length
def Tr.isNull : Tr -> Bool
 | .null => true
 | _ => false
def Gf : Gc -> Option V
 | .nm k => some (.w k)
 | _ => none
def Ba (t : Tr) (key : Gc) (q : Tr) : Except Nat Tr := match Cb t.names true key with
 | .error e => .error e
 | .ok none => .error 28
 | .ok (some s) => match t, q with
  | .list ts ns, .null => if s < 0 \/ (ts.length : Int) <= s then .ok (.list ts ns) else .ok (.list (ts.eraseIdx s.toNat) (ns.map (·.eraseIdx s.toNat)))
  | t, q => if s < 0 then DP t t.len (Gf key) q else DP t s.toNat none q
def Do (t : Tr) (key : Gc) (q : Tr) : Except Nat Tr := match t, q with
 | .null, .null => .ok .null
 | .null, .atom k [y] ns => Ba (.atom k [] none) key (.atom k [y] ns)
 | .null, q => Ba (.list [] none) key q
 | t, q => Ba t key q
abbrev C2 : List (MS Fn) := (prog .AB).body.drop 1
theorem QM {t q : Tr} {v val notes : V} {p n m : Nat} {mo : Option V} (hS : CH S H) (hv : Bi S H t v) (ht : Be true n t) (C1 : t ≠ .null) (hq : Bi S H q val) (Ez : Be st m q) (hsq : st = true \/ ∃ ts ns, t = .list ts ns) (hlq : (∃ ts ns, t = .list ts ns) -> q ≠ .null) (hp : p < 100) (hmo : mo ≠ some .none) (hl : t.len <= p -> t.len + mo.toList.length <= p + 1) :
  CZ S (Bg Ab (d + 9) .Bk [v, .int p, mo.getD .none, val, notes]) H (DP t p mo q) := by
 cases ht with
 | null => exact absurd rfl C1
 | @list _ ts ns hxs hn hs4 hts =>
  have hqn := hlq ⟨ts, ns, rfl⟩
  refine CZ.ok rfl (Mn (d := d + 1) hS hv hq hqn hp (by omega) (fun l h => by have := (hn l h).2; omega) hmo fun h => ?_)
  have := hl h
  cases ns with
  | none => simpa [Tr.len] using this
  | some l => have h2 := (hn l rfl).2; simp [Tr.len] at this ⊢; omega
 | @atom _ k xs ns hk hxs hn hi =>
  have hnl : xs.length <= p -> (ns.getD (List.replicate xs.length (.w 16)) ++ mo.toList).length <= p + 1 := fun h => by
   have := hl h
   cases ns with
   | none => simpa [Tr.len] using this
   | some l => have h2 := (hn l rfl).2; simp [Tr.len] at this ⊢; omega
  have hll : ∀ l, ns = some l -> l.length <= 100 := fun l h => by have := (hn l h).2; omega
  obtain ⟨b0, hv0, hb0⟩ := AC.mp hv
  cases Ez with
  | null => exact CZ.err rfl (EX (d := d + 1) (n := 0) hS hv0 hk hll (fun Ha x => JW (hq.up x)) (by decide))
  | @atom _ kq ys nsq hkq hys hnq hiq =>
   rcases ys with _ | ⟨y, _ | ⟨y2, r⟩⟩
   .obtain ⟨bq, hvq, hbq⟩ := AC.mp hq
    exact CZ.err rfl (EX (d := d + 1) (n := 0) hS hv0 hk hll (fun Ha x => BS (hvq.up x) (hbq.upL x) (.inr hkq) (by simp)) (by decide))
   .refine CZ.ok rfl (Mr (d := d) rfl hS hv hq hk hkq ?_ ?_ hp (by omega) hll (fun l h => by have := (hnq l h).2; simp at this; omega) hmo hnl)
    .rcases hk with rfl | rfl
     .rcases hkq with rfl | rfl
      .exact .inl rfl
      .exact .inr (.inr ⟨rfl, rfl, (hi.2 rfl).2 rfl⟩)
     .exact .inl rfl
    .rcases hkq with rfl | rfl
     .rcases hk with rfl | rfl
      .exact .inl rfl
      .exact .inr (.inr ⟨rfl, rfl, (hiq.2 (hsq.elim id fun ⟨_, _, h⟩ => by cases h)).2 rfl⟩)
     .refine .inl ?_
      rw [if_neg (by omega)]
   .obtain ⟨bq, hvq, hbq⟩ := AC.mp hq
    have := EX (Ab := Ab) (notes := notes) (nmv := mo.getD .none) (p := p) (d := d + 1) (n := (y :: y2 :: r).length) hS hv0 hk hll (fun Ha x => BS (hvq.up x) (hbq.upL x) (.inr hkq) (by omega)) (by simp)
    exact CZ.err rfl this
  | @list _ us nsq hus hnq hs5 hts =>
   rcases us with _ | ⟨u, _ | ⟨u2, r⟩⟩
   .obtain ⟨bq, vs, hvq, hbq, hr⟩ := A2.mp hq
    have e0 : vs.length = 0 := hr.len
    refine CZ.err rfl (EX (d := d + 1) (n := 0) hS hv0 hk hll (fun Ha x => ?_) (by decide))
    rw [<- e0]; exact BS (hvq.up x) (hbq.upL x) (.inl rfl) (by omega)
   .exact CZ.ok rfl (LS (d := d) hS hv hq hk hp (by omega) hll hmo hnl)
   .obtain ⟨bq, vs, hvq, hbq, hr⟩ := A2.mp hq
    have e0 := hr.len
    have e1 : vs.length = r.length + 2 := by simpa using e0
    have := EX (Ab := Ab) (notes := notes) (nmv := mo.getD .none) (p := p) (d := d + 1) (n := vs.length) hS hv0 hk hll (fun Ha x => BS (hvq.up x) (hbq.upL x) (.inl rfl) (by rw [e0]; omega)) (by omega)
    rw [if_neg (by omega)] at this
    exact CZ.err rfl this
abbrev CQ : Mine.Env × Option V -> M V := fun p => ret (p.2.getD .none)
theorem Kx {t : Tr} {n : Nat} {v : V} (hv : Bi S H t v) (ht : Be st n t) (C1 : t ≠ .null) : ∃ k b xs, (k = 7 \/ k = 8 \/ k = 9) /\ Dy S H v k b t.names /\ At S H b (.list xs) /\ xs.length = t.len /\ t.len <= 8 /\ JG t.len t.names /\ (k = 7 ↔ ∃ ts ns, t = .list ts ns) := by
 cases ht with
 | null => exact absurd rfl C1
 | atom hk hx hn hi =>
  obtain ⟨b, h1, h2⟩ := AC.mp hv
  exact ⟨_, b, _, .inr hk, h1, h2, rfl, hx, hn, fun h => by omega, fun ⟨_, _, h⟩ => by cases h⟩
 | list hx hn hs4 ht =>
  obtain ⟨b, vs, h1, h2, h3⟩ := A2.mp hv
  exact ⟨7, b, vs, .inl rfl, h1, h2, h3.len, hx, hn, fun _ => ⟨_, _, rfl⟩, fun _ => rfl⟩
theorem Jb {q : Tr} {m : Nat} {val : V} (hq : Bi S H q val) (Ez : Be st m q) : ∃ k, DF val 0 H = .ok (.w k) H /\ (k = 6 ↔ q = .null) := by
 cases Ez with
 | null =>
  rw [Bi] at hq
  obtain ⟨a, rfl, c⟩ := hq
  have c1 := c.1
  exact ⟨6, by simp [DF, bnd, AJ, c1, Bd, Au, ret], fun _ => rfl, fun _ => rfl⟩
 | @atom _ k xs ns hk hx hn hi =>
  obtain ⟨b, ⟨a, t, sh, rfl, c, r⟩, h2⟩ := AC.mp hq
  have c1 := c.1
  exact ⟨k, by simp [DF, bnd, AJ, c1, Bd, Au, ret], ⟨fun h => by omega, fun h => by cases h⟩⟩
 | list hx hn hs4 ht =>
  obtain ⟨b, vs, ⟨a, t, sh, rfl, c, r⟩, h2, h3⟩ := A2.mp hq
  have c1 := c.1
  exact ⟨7, by simp [DF, bnd, AJ, c1, Bd, Au, ret], ⟨fun h => absurd h (by decide), fun h => by cases h⟩⟩
theorem Md {k : Nat} : ∀ {xs : List V} {i j : Nat}, j ∈ JR k xs i -> j < i + xs.length
 | [], _, _, h => by cases h
 | x :: xs, i, j, h => by
  unfold JR at h
  rw [List.length_cons]
  split at h
  .rcases List.mem_cons.mp h with rfl | h
   .omega
   .have := Md h; omega
  .have := Md h; omega
theorem Kz {n : Nat} {ns : Option (List V)} {k : Nat} {exact : Bool} (hn : JG n ns) : A0 ns k exact < n \/ (A0 ns k exact = -1) := by
 cases ns with
 | none => exact .inr rfl
 | some l =>
  have hl := (hn l rfl).2
  unfold A0
  dsimp only
  split
  .exact .inr rfl
  .split
   .rename_i i hi
    have := (List.findIdx?_eq_some_iff_getElem.mp hi).1
    left; omega
   .split
    .exact .inr rfl
    .cases hb : JR k l 0 with
     | nil => exact .inr rfl
     | cons j r =>
      cases r with
      | nil =>
       have := Md (k := k) (xs := l) (i := 0) (j := j) (by rw [hb]; exact .head _)
       left
       show (j : Int) < n
       omega
      | cons _ _ => exact .inr rfl
theorem Ni {t q : Tr} {v ix val notes : V} {n m : Nat} {key : Gc} {e4 : Option V} (hS : CH S H) (hv : Bi S H t v) (ht : Be true n t) (C1 : t ≠ .null) (hx : Bi S H (D8 key) ix) (Bf : CL key) (hq : Bi S H q val) (Ez : Be st m q) (hsq : st = true \/ ∃ ts ns, t = .list ts ns) :
  CZ S (bnd (Ae (AI Ab (d + 9)) C2 [some v, some ix, some val, some notes, e4, none, none, none]) CQ) H (Ba t key q) := by
 obtain ⟨k, b, xs, hk, hv0, hb0, BN, hl20, hn, hk7⟩ := Kx hv ht C1
 obtain ⟨nv, Ha, e1, x0, n1⟩ := AQ (Ab := Ab) (d := d + 6) hS hv0 hk (fun l h => by have := (hn l h).2; omega)
 have hSa := hS.up x0
 have ep := Bj (Ab := Ab) (d := d + 5) (ln := .int xs.length) (exact := true) (hx.up x0) Bf n1 (fun l h => ⟨(hn l h).1, by have := (hn l h).2; omega⟩)
 obtain ⟨a0, t0, sh0, rfl, q0, r0⟩ := hv0
 have q0' := q0.1
 have b0' := hb0.1
 have C7 : xs.length <= 100000 := by omega
 cases hp : Cb t.names true key with
 | error e =>
  rw [hp] at ep
  refine CZ.err (e := e) (by simp [Ba, hp]) ⟨Ha, ?_, x0⟩
  simp! [C2, AN, q0', b0', C7, e1, ep]
 | ok p =>
  rw [hp] at ep
  obtain ⟨L, ep⟩ := ep
  have xL : Ak S Ha (Ha ++ L) := Ak.app _ _ _
  generalize hHb : Ha ++ L = Hb at ep xL
  have xb := x0.trans xL
  cases p with
  | none =>
   refine CZ.err (e := 28) (by simp [Ba, hp]) ⟨Hb, ?_, xb⟩
   simp! [C2, AN, q0', b0', C7, e1, ep, pv]
  | some s =>
   obtain ⟨kq, ek, hk6⟩ := Jb (hq.up xb) Ez
   obtain ⟨shb, qb⟩ := q0.upV xb
   have qb' := qb.1
   have l1 := Ad (Ab := Ab) (d := d + 8) (H := Hb) (k := k)
   have hSb := hS.up xb
   by_cases hA : q = .null /\ k = 7
   .obtain ⟨rfl, rfl⟩ := hA
    obtain ⟨ts, ns, rfl⟩ := hk7.mp rfl
    have k6 := hk6.mpr rfl
    subst k6
    simp at l1
    have hputc : Ba (.list ts ns) key .null = if s < 0 \/ (ts.length : Int) <= s then .ok (.list ts ns) else .ok (.list (ts.eraseIdx s.toNat) (ns.map (·.eraseIdx s.toNat))) := by
     unfold Ba
     rw [hp]
    rw [hputc]
    have hlen' : xs.length = ts.length := BN
    simp! [] at ek
    by_cases h0 : s < 0
    .rw [if_pos (.inl h0)]
     refine ⟨.ref a0, Hb, ?_, xb, hv.up xb⟩
     simp! [C2, AN, q0', b0', C7, e1, ep, pv, ek, l1, qb', h0]
    .by_cases h1 : (ts.length : Int) <= s
     .rw [if_pos (.inr h1)]
      have h1' : (xs.length : Int) <= s := by omega
      refine ⟨.ref a0, Hb, ?_, xb, hv.up xb⟩
      simp! [C2, AN, q0', b0', C7, e1, ep, pv, ek, l1, qb', h0, h1']
     .rw [if_neg (by omega)]
      have h1' : ¬ (xs.length : Int) <= s := by omega
      have h1s : s < (xs.length : Int) := by omega
      have hs : (s.toNat : Int) = s := by omega
      have xp : Ak S Hb (Hb ++ [An.list [.int s]]) := Ak.app _ _ _
      have cp : At S (Hb ++ [An.list [.int s]]) Hb.length (.list [.int (s.toNat : Int)]) := by rw [hs]; exact hSb.new
      obtain ⟨r, G, e2, x2, p2⟩ := OE (Ab := Ab) (d := d + 3) (p := s.toNat) (hSb.up xp) ((hv.up xb).up xp) hl20 hn (by omega) cp
      refine ⟨r, G, ?_, xb.trans (xp.trans x2), p2⟩
      simp! [C2, AN, q0', b0', C7, e1, ep, pv, ek, l1, qb', h0, h1', h1s, e2]
   .have hputc : Ba t key q = if s < 0 then DP t t.len (Gf key) q else DP t s.toNat none q := by
     unfold Ba
     rw [hp]
     cases t with
     | null => rfl
     | atom k' xs' ns' => rfl
     | list ts ns => cases q with
      | null => exact absurd ⟨rfl, hk7.mpr ⟨_, _, rfl⟩⟩ hA
      | _ => rfl
    have hlq : (∃ ts ns, t = .list ts ns) -> q ≠ .null := fun h e => hA ⟨e, hk7.mpr h⟩
    rw [hputc]
    by_cases h0 : s < 0
    .rw [if_pos h0]
     cases key with
     | na => cases hp
     | num i =>
      cases i with
      | zero => cases hp
      | succ i => cases hp; omega
     | nm k' =>
      have r := QM (Ab := Ab) (d := d) (notes := notes) (p := t.len) (mo := some (.w k')) hSb (hv.up xb) ht C1 (hq.up xb) Ez hsq hlq (by omega) (by intro h; cases h) (by intro h; simp)
      have hxb := hx.up xb
      rw [D8, AC] at hxb
      obtain ⟨bx, ⟨ax, tx, shx, rfl, qx, rx⟩, cx⟩ := hxb
      have qx' := qx.1
      have cx' := cx.1
      rw [<- BN] at r
      refine CZ.up (r := DP t t.len (Gf (.nm k')) q) (by rw [<- BN]; exact r) xb (fun v G e2 => ?_) fun n G e2 => ?_
      .simp! [] at ek e2
       by_cases h6 : kq = 6
       .have k7 : ¬ k = 7 := fun h => hA ⟨hk6.mp h6, h⟩
        have lk : [7, 19, 20].contains k = false := by rcases hk with rfl | rfl | rfl <;> first | exact absurd rfl k7 | rfl
        rw [lk] at l1
        subst h6
        simp! [C2, AN, q0', b0', C7, e1, ep, pv, ek, l1, qb', qx', cx', h0, e2]
       .have h6' : (kq == 6) = false := by simpa using h6
        simp! [C2, AN, q0', b0', C7, e1, ep, pv, ek, l1, qb', qx', cx', h0, h6, h6', e2]
      .simp! [] at ek e2
       by_cases h6 : kq = 6
       .have k7 : ¬ k = 7 := fun h => hA ⟨hk6.mp h6, h⟩
        have lk : [7, 19, 20].contains k = false := by rcases hk with rfl | rfl | rfl <;> first | exact absurd rfl k7 | rfl
        rw [lk] at l1
        subst h6
        simp! [C2, AN, q0', b0', C7, e1, ep, pv, ek, l1, qb', qx', cx', h0, e2]
       .have h6' : (kq == 6) = false := by simpa using h6
        simp! [C2, AN, q0', b0', C7, e1, ep, pv, ek, l1, qb', qx', cx', h0, h6, h6', e2]
    .rw [if_neg h0]
     have hs9 : s.toNat < 100 := by
      cases key with
      | na => cases hp
      | num i =>
       have : i <= 6 := Bf
       cases i with
       | zero => cases hp
       | succ i => cases hp; omega
      | nm k' =>
       have h2 : A0 t.names k' true = s := by
        have : (Except.ok (some (A0 t.names k' true)) : Except Nat (Option Int)) = .ok (some s) := hp
        cases this; rfl
       have h3 := Kz (ns := t.names) (k := k') (exact := true) hn
       omega
     have hs : (s.toNat : Int) = s := by omega
     have r := QM (Ab := Ab) (d := d) (notes := notes) (p := s.toNat) (mo := none) hSb (hv.up xb) ht C1 (hq.up xb) Ez hsq hlq hs9 (by intro h; cases h) (by intro h; simp; omega)
     rw [hs] at r
     refine CZ.up r xb (fun v G e2 => ?_) fun n G e2 => ?_
     .simp! [] at ek e2
      by_cases h6 : kq = 6
      .have k7 : ¬ k = 7 := fun h => hA ⟨hk6.mp h6, h⟩
       have lk : [7, 19, 20].contains k = false := by rcases hk with rfl | rfl | rfl <;> first | exact absurd rfl k7 | rfl
       rw [lk] at l1
       subst h6
       simp! [C2, AN, q0', b0', C7, e1, ep, pv, ek, l1, qb', h0, e2]
      .have h6' : (kq == 6) = false := by simpa using h6
       simp! [C2, AN, q0', b0', C7, e1, ep, pv, ek, l1, qb', h0, h6, h6', e2]
     .simp! [] at ek e2
      by_cases h6 : kq = 6
      .have k7 : ¬ k = 7 := fun h => hA ⟨hk6.mp h6, h⟩
       have lk : [7, 19, 20].contains k = false := by rcases hk with rfl | rfl | rfl <;> first | exact absurd rfl k7 | rfl
       rw [lk] at l1
       subst h6
       simp! [C2, AN, q0', b0', C7, e1, ep, pv, ek, l1, qb', h0, e2]
      .have h6' : (kq == 6) = false := by simpa using h6
       simp! [C2, AN, q0', b0', C7, e1, ep, pv, ek, l1, qb', h0, h6, h6', e2]
abbrev EH : MS Fn := .ifs (.cmp .eq (.attr (.var 0) 0) (.cst (.w 6))) [.ifs (.cmp .eq (.attr (.var 2) 0) (.cst (.w 6))) [.ret (.var 0)] [],
   .asg 4 (.cst (.w 7)), .ifs (.and2 (.call .Br [.var 2]) (.cmp .eq (.len (.attr (.var 2) 1)) (.cst (.int 1)))) [.asg 4 (.attr (.var 2) 0)] [],
   .asg 0 (.mk .vector [.var 4, .lst []])] []
theorem Qx : (prog .AB).body = EH :: C2 := rfl
theorem Io {C : Ef Fn} {env Aj : Mine.Env} (h : Ai C EH env H = .ok (Aj, none) H') : bnd (Ae C (EH :: C2) env) CQ H = bnd (Ae C C2 Aj) CQ H' := by
 rw [Ae]
 unfold bnd
 rw [h]
theorem KU {v ix val notes : V} : Bg Ab (d + 1) .AB [v, ix, val, notes] H = bnd (Ae (AI Ab d) (EH :: C2) [some v, some ix, some val, some notes, none, none, none, none]) CQ H := by
 rw [Db Ab rfl rfl, Qx]
 rfl
theorem AB {t q : Tr} {v ix val notes : V} {n m : Nat} {key : Gc} (hS : CH S H) (hv : Bi S H t v) (ht : Be true n t) (hx : Bi S H (D8 key) ix) (Bf : CL key) (hq : Bi S H q val) (Ez : Be st m q) (hsq : st = true \/ ∃ ts ns, t = .list ts ns) :
  CZ S (Bg Ab (d + 10) .AB [v, ix, val, notes]) H (Do t key q) := by
 obtain ⟨k, ek, hk6⟩ := Jb hv ht
 obtain ⟨kq, ekq, hkq6⟩ := Jb hq Ez
 by_cases C1 : t = .null
 .have k6 := hk6.mpr C1
  subst k6 C1
  by_cases hqn : q = .null
  .have kq6 := hkq6.mpr hqn
   subst kq6 hqn
   refine CZ.ok (t := .null) rfl ⟨v, H, ?_, Ak.refl _ _, hv⟩
   simp! [] at ek ekq
   simp_all! [AN, ek, ekq]
  .have kq6 : ¬ kq = 6 := fun h => hqn (hkq6.mp h)
   have kq6' : (kq == 6) = false := by simpa using kq6
   have step : ∀ k' b, Ai (AI Ab (d + 9)) EH [some v, some ix, some val, some notes, none, none, none, none] H = .ok ([some (.ref (H.length + 1)), some ix, some val, some notes, some (.w k'), none, none, none], none) (H ++ [.list [], Ah k' H.length .none b]) ->
     ∀ t', (t' = .atom k' [] none /\ (k' = 8 \/ k' = 9)) \/ (t' = .list [] none /\ k' = 7) -> CZ S (Bg Ab (d + 10) .AB [v, ix, val, notes]) H (Ba t' key q) := by
    intro k' b hst t' ht'
    have x0 : Ak S H (H ++ [An.list [], Ah k' H.length .none b]) := Ak.app _ _ _
    have nS : ∀ j, ¬ S (H.length + j) := fun j q => absurd (hS _ q) (by omega)
    have hr : Bi S (H ++ [An.list [], Ah k' H.length .none b]) t' (.ref (H.length + 1)) /\ Be true 1 t' /\ t' ≠ .null := by
     rcases ht' with ⟨rfl, hk'⟩ | ⟨rfl, rfl⟩
     .exact ⟨Dc hS, .atom hk' (by simp) (by intro l h; cases h) ⟨rfl, fun _ => ⟨by simp, by intro _ x h; cases h⟩⟩, by intro h; cases h⟩
     .refine ⟨?_, .list (by simp) (by intro l h; cases h) (by simp) (by intro x h; cases h), by intro h; cases h⟩
      rw [A2]
      exact ⟨H.length, [], ⟨H.length + 1, .none, b, rfl, ⟨by simp, nS 1⟩, rfl⟩, ⟨by simp, nS 0⟩, by rw [A4]⟩
    have r := Ni (Ab := Ab) (d := d) (notes := notes) (e4 := some (.w k')) (hS.up x0) hr.1 hr.2.1 hr.2.2 (hx.up x0) Bf (hq.up x0) Ez (.inl (hsq.elim id fun ⟨_, _, h⟩ => by cases h))
    refine CZ.up r x0 (fun v' G e2 => ?_) fun n G e2 => ?_
    .rw [KU, Io hst]; exact e2
    .rw [KU, Io hst]; exact e2
   obtain ⟨k2, b2, ys, hk2, hvq, hbq, hlq, hl20, hnq, hq7⟩ := Kx hq Ez hqn
   obtain ⟨aq, tq, shq, rfl, qq, rq⟩ := hvq
   have qq' := qq.1
   have bq' := hbq.1
   have ea := Br (Ab := Ab) (d := d + 8) qq
   have C7 : ys.length <= 100000 := by omega
   simp! [] at ek
   by_cases h1 : (k2 = 8 \/ k2 = 9) /\ ys.length = 1
   .have ak : [23, 8, 24, 9].contains k2 = true := by rcases h1.1 with rfl | rfl <;> rfl
    rw [ak] at ea
    have k26 : ¬ k2 = 6 := by omega
    have h2 := step k2 (.bool false) (by simp! [EH, ek, qq', bq', ea, C7, h1.2, k26, CD]) (.atom k2 [] none) (.inl ⟨rfl, h1.1⟩)
    cases Ez with
    | null => exact absurd rfl hqn
    | @atom _ k3 xs3 ns3 hk3 hx3 hn3 hi3 =>
     have h3 : xs3.length = 1 := by rw [<- h1.2, hlq]; rfl
     rcases xs3 with _ | ⟨y, _ | ⟨_, _⟩⟩
     .cases h3
     .obtain ⟨b4, ⟨a4, t4, sh4, e4, q4, r4⟩, _⟩ := AC.mp hq
      cases e4
      have := q4.1.symm.trans qq'
      have e5 : k3 = k2 := by
       simp [Ah] at this
       exact this.1
      subst e5
      exact h2
     .cases h3
    | list hx3 hn3 hs3 ht3 =>
     have := hq7.mpr ⟨_, _, rfl⟩
     omega
   .have k26 : ¬ k2 = 6 := by omega
    have h2 := step 7 (.bool false) (by
     rcases hk2 with rfl | hk2
     .simp at ea
      simp! [EH, ek, qq', bq', ea, CD]
     .have ak : [23, 8, 24, 9].contains k2 = true := by rcases hk2 with rfl | rfl <;> rfl
      rw [ak] at ea
      have h4 : ¬ ys.length = 1 := fun h => h1 ⟨hk2, h⟩
      have h5 : ((ys.length : Int) == 1) = false := by
       rw [beq_eq_false_iff_ne]; omega
      simp! [EH, ek, qq', bq', ea, C7, h4, h5, k26, CD]) (.list [] none) (.inr ⟨rfl, rfl⟩)
    cases Ez with
    | null => exact absurd rfl hqn
    | @atom _ k3 xs3 ns3 hk3 hx3 hn3 hi3 =>
     rcases xs3 with _ | ⟨y, _ | ⟨y2, r2⟩⟩
     .exact h2
     .obtain ⟨b4, ⟨a4, t4, sh4, e4, q4, r4⟩, _⟩ := AC.mp hq
      cases e4
      have := q4.1.symm.trans qq'
      have e5 : k3 = k2 := by
       simp [Ah] at this
       exact this.1
      subst e5
      exact absurd ⟨hk3, by rw [hlq]; rfl⟩ h1
     .exact h2
    | list hx3 hn3 hs3 ht3 => exact h2
 .have k6 : ¬ k = 6 := fun h => C1 (hk6.mp h)
  have k6' : (k == 6) = false := by simpa using k6
  simp! [] at ek
  have hst : Ai (AI Ab (d + 9)) EH [some v, some ix, some val, some notes, none, none, none, none] H = .ok ([some v, some ix, some val, some notes, none, none, none, none], none) H := by
   simp! [EH, ek, k6']
  have r := Ni (Ab := Ab) (d := d) (notes := notes) (e4 := none) hS hv ht C1 hx Bf hq Ez hsq
  have hput : Do t key q = Ba t key q := by
   cases t with
   | null => exact absurd rfl C1
   | _ => cases q <;> rfl
  rw [hput]
  refine CZ.up r (Ak.refl _ _) (fun v' G e2 => ?_) fun n G e2 => ?_
  .rw [KU, Io hst]; exact e2
  .rw [KU, Io hst]; exact e2
theorem Re {t : Tr} {n : Nat} {v : V} (hv : Bi S H t v) (ht : Be st n t) (C1 : t ≠ .null) : Bg Ab (d + 1) .AD [v] H = .ok (.bool true) H := by
 obtain ⟨k, b, xs, hk, ⟨a, t0, sh, rfl, q, r⟩, _⟩ := Kx hv ht C1
 exact AD q
theorem Jj {t : Tr} {n : Nat} {v : V} (hv : Bi S H t v) (ht : Be st n t) : ∃ k, DF v 0 H = .ok (.w k) H /\ (k = 6 ↔ t = .null) /\ (k == 21) = false /\ (k == 22) = false /\ (k = 6 \/ k = 7 \/ k = 8 \/ k = 9) := by
 cases ht with
 | null =>
  rw [Bi] at hv
  obtain ⟨a, rfl, c⟩ := hv
  have c1 := c.1
  exact ⟨6, by simp [DF, bnd, AJ, c1, Bd, Au, ret], ⟨fun _ => rfl, fun _ => rfl⟩, rfl, rfl, .inl rfl⟩
 | @atom _ k xs ns hk hx hn hi =>
  obtain ⟨b, ⟨a, t, sh, rfl, c, r⟩, h2⟩ := AC.mp hv
  have c1 := c.1
  exact ⟨k, by simp [DF, bnd, AJ, c1, Bd, Au, ret], ⟨fun h => by omega, fun h => by cases h⟩, by rcases hk with rfl | rfl <;> rfl, by rcases hk with rfl | rfl <;> rfl, .inr (.inr hk)⟩
 | list hx hn hs4 ht =>
  obtain ⟨b, vs, ⟨a, t, sh, rfl, c, r⟩, h2, h3⟩ := A2.mp hv
  have c1 := c.1
  exact ⟨7, by simp [DF, bnd, AJ, c1, Bd, Au, ret], ⟨fun h => absurd h (by decide), fun h => by cases h⟩, rfl, rfl, .inr (.inl rfl)⟩
theorem FR {t q : Tr} {v ix val notes : V} {l n m : Nat} {key : Gc} (hS : CH S H) (hv : Bi S H t v) (ht : Be true n t) (hx : Bi S H (D8 key) ix) (Bf : CL key) (hq : Bi S H q val) (Ez : Be st m q) (hsq : st = true \/ ∃ ts ns, t = .list ts ns) (hl : H[l]? = some (.list [ix])) :
  CZ S (Bg Ab (d + 11) .Bs [v, .ref l, val, notes]) H (Do t key q) := by
 have r := AB (Ab := Ab) (d := d) (notes := notes) hS hv ht hx Bf hq Ez hsq
 obtain ⟨k, ek, hk6, k21, k22, hk⟩ := Jj hv ht
 simp! [] at ek
 have k21' : ¬ k = 21 := by simpa using k21
 by_cases C1 : t = .null
 .have k6 := hk6.mpr C1
  subst k6
  refine CZ.up r (Ak.refl _ _) (fun v' G e2 => ?_) fun n G e2 => ?_
  .simp_all! [BK, ek, hl, e2]
  .simp_all! [BK, ek, hl, e2]
 .have e1 := Re (Ab := Ab) (d := d + 9) hv ht C1
  have k6 : ¬ k = 6 := fun h => C1 (hk6.mp h)
  have k6' : (k == 6) = false := by simpa using k6
  refine CZ.up r (Ak.refl _ _) (fun v' G e2 => ?_) fun n G e2 => ?_
  .simp_all! [BK, ek, hl, e1, e2, k6, k6', k21, k21']
  .simp_all! [BK, ek, hl, e1, e2, k6, k6', k21, k21']
theorem GU {t q : Tr} {v ix val notes : V} {l n m : Nat} {key : Gc} (hS : CH S H) (hv : Bi S H t v) (ht : Be true n t) (hx : Bi S H (D8 key) ix) (Bf : CL key) (hq : Bi S H q val) (Ez : Be st m q) (hsq : st = true \/ ∃ ts ns, t = .list ts ns) (hl : H[l]? = some (.list [ix])) :
  CZ S (Bg Ab (d + 12) .A1 [v, .ref l, val, notes]) H (Do t key q) := by
 have x0 : Ak S H (H ++ [An.list [ix]]) := Ak.app _ _ _
 have r := FR (Ab := Ab) (d := d) (notes := notes) (l := H.length) (hS.up x0) (hv.up x0) ht (hx.up x0) Bf (hq.up x0) Ez hsq (by simp)
 obtain ⟨k, x, hk, hx2⟩ := Lh hx
 have e1 := Gg (Ab := Ab) (d := d + 9) hx2 hk (by simp)
 obtain ⟨b0, hv0, hb0⟩ := AC.mp hx2
 obtain ⟨a0, t0, sh0, rfl, q0, r0⟩ := hv0
 have q1 := q0.1
 have k29 : (k == 29) = false := by rcases hk with rfl | rfl <;> rfl
 simp at e1
 refine CZ.up r x0 (fun v' G e2 => ?_) fun n G e2 => ?_
 .simp_all! [Cz, hl, q1, e1, e2, k29]
 .simp_all! [Cz, hl, q1, e1, e2, k29]
theorem KO {a k b : Nat} {sh : V} {xs : List V} (ha : H[a]? = some (Ah k b .none sh)) (hb : H[b]? = some (.list xs)) (hk : k = 8 \/ k = 9) (hl : xs.length <= 100) :
  Bg Ab (d + 1) .Am [.ref a] H = .ok (.ref (H.length + 2)) (H ++ [.dictW [], .list xs, .tup [.w k, .ref (H.length + 1), .ref H.length]]) := by
 have la : a < H.length := (AH ha)
 have lb : b < H.length := (AH hb)
 have hA : ∀ L : MH, (H ++ L)[a]? = some (Ah k b .none sh) := fun L => by rw [Ck la]; exact ha
 have hB : ∀ L : MH, (H ++ L)[b]? = some (.list xs) := fun L => by rw [Ck lb]; exact hb
 have k6 : (k == 6) = false := by rcases hk with rfl | rfl <;> rfl
 have k7 : ¬ (k = 7 \/ k = 19 \/ k = 20) := by omega
 have C7 : xs.length <= 100000 := by omega
 simp only [Ah] at hA ha
 simp_all! [FM, ha, hA, hB, k6, k7, C7]
theorem Mj {c n m : Nat} {sh : V} {ns : List V} {e0 e1 : Option V} {v : V} (hc : H[c]? = some (.dictW [(5, .ref n)])) (hn : H[n]? = some (Ah 9 m .none sh)) (hm : H[m]? = some (.list ns)) (hl : ns.length <= 100) (hv : ∀ G : MH, (∀ x, x ≠ c -> x < H.length -> G[x]? = H[x]?) -> DF v 2 G = .ok (.ref c) G) :
  Aa (AI Ab (d + 1)) (.dcomp (.call .Am [.idx (.attr (.var 0) 2) (.var 2)]) (.attr (.var 0) 2)) [some v, e1] H =
   .ok (.ref H.length) (H ++ [.dictW [(5, .ref (H.length + 3))], .dictW [], .list ns, .tup [.w 9, .ref (H.length + 2), .ref (H.length + 1)]]) := by
 have lc : c < H.length := (AH hc)
 have ln : n < H.length := (AH hn)
 have lm : m < H.length := (AH hm)
 have hcn : c ≠ n := fun h => by rw [h, hn] at hc; cases hc
 have hcm : c ≠ m := fun h => by rw [h, hm] at hc; cases hc
 have f1 := KO (Ab := Ab) (d := d) (H := H.set c (.dictP [(5, .ref n)]) ++ [.dictW []]) (a := n) (k := 9) (b := m) (sh := sh) (xs := ns)
  (by rw [Ck (by simpa using ln), Cq hcn]; exact hn) (by rw [Ck (by simpa using lm), Cq hcm]; exact hm) (.inr rfl) hl
 have hv0 := hv H (fun _ _ _ => rfl)
 have hv1 : ∀ L : MH, DF v 2 (H.set c (.dictP [(5, .ref n)]) ++ L) = .ok (.ref c) (H.set c (.dictP [(5, .ref n)]) ++ L) := fun L => hv _ fun x hx hxl => by rw [Ck (by simpa using hxl), Cq (Ne.symm hx)]
 have hP : ∀ L : MH, (H.set c (.dictP [(5, .ref n)]) ++ L)[c]? = some (.dictP [(5, .ref n)]) := fun L => by rw [Ck (by simpa using lc), Ew lc]
 have hset : H.set c (.dictW [(5, .ref n)]) = H := by
  apply List.ext_getElem?
  intro i
  by_cases hi : c = i
  .subst hi; rw [Ew lc, hc]
  .rw [Cq hi]
 have hback : ∀ L : MH, (H.set c (.dictP [(5, .ref n)]) ++ L).set c (.dictW [(5, .ref n)]) = H ++ L := fun L => by
  rw [List.set_append_left _ _ (by simpa using lc), List.set_set, hset]
 have hP0 : (H.set c (.dictP [(5, .ref n)]))[c]? = some (.dictP [(5, .ref n)]) := Ew lc
 simp at f1
 simp [Aa, Ap, bnd, ret, Au, getD, AJ, Dm, alloc, still, By, stays, Cw, EW, Bd, DS, hv0, hv1, hc, hP, hP0, f1, hback]
theorem MD {v : V} {k b : Nat} {ns : Option (List V)} (hS : CH S H) (hv : Dy S H v k b ns) (hl : ∀ l, ns = some l -> l.length <= 100) :
  ∃ r H1, Ai (AI Ab (d + 1)) (.ifs (.isNone true (.attr (.var 0) 2)) [.asg 1 (.dcomp (.call .Am [.idx (.attr (.var 0) 2) (.var 2)]) (.attr (.var 0) 2))] []) [some v, some (.ref H.length)] (H ++ [.dictW []]) = .ok ([some v, some r], none) H1 /\ Ak S H H1 /\ Dk S H1 ns r := by
 obtain ⟨a, t, sh, rfl, q, r⟩ := hv
 have q1 := q.1
 have la : a < H.length := (AH q1)
 have hA : ∀ L : MH, (H ++ L)[a]? = some (Ah k b t sh) := fun L => by rw [Ck la]; exact q1
 have nS : ∀ j, ¬ S (H.length + j) := fun j q => absurd (hS _ q) (by omega)
 simp only [Ah] at hA
 cases ns with
 | none =>
  cases r
  refine ⟨.ref H.length, H ++ [.dictW []], ?_, Ak.app _ _ _, H.length, rfl, by simp, nS 0⟩
  simp! [hA]
 | some l =>
  obtain ⟨c, n, m, shn, rfl, h1, h2, h3⟩ := r
  have x0 : Ak S H (H ++ [An.dictW []]) := Ak.app _ _ _
  obtain ⟨shn', h2'⟩ := h2.upV x0
  have lc : c < H.length := (AH h1.1)
  have hac : a ≠ c := fun h => by have := h1.1; rw [<- h, q1] at this; cases this
  have vn := Mj (Ab := Ab) (d := d) (e0 := none) (e1 := some (.ref H.length)) (v := .ref a) (h1.upD x0).1 h2'.1 (h3.upL x0).1 (hl l rfl) (fun G hG => by
   have := hG a hac (by simp; omega)
   rw [hA] at this
   simp [DF, bnd, AJ, this, Bd, Au, ret])
  simp at vn
  refine ⟨.ref (H.length + 1), H ++ [.dictW [], .dictW [(5, .ref (H.length + 4))], .dictW [], .list l, .tup [.w 9, .ref (H.length + 3), .ref (H.length + 2)]], ?_, Ak.app _ _ _, H.length + 1, H.length + 4, H.length + 3, H.length + 2, rfl, ⟨by simp, nS 1⟩, ⟨by simp, nS 4⟩, ⟨by simp, nS 3⟩, ⟨by simp, nS 2⟩⟩
  rw [Ai]
  have e1 : Aa (AI Ab (d + 1)) (.isNone true (.attr (.var 0) 2)) [some (V.ref a), some (.ref H.length)] (H ++ [.dictW []]) = .ok (.bool true) (H ++ [.dictW []]) := by
   simp! [hA]
  simp only [bnd, e1, Aw, ret, if_true]
  rw [Ae, Ai]
  simp only [bnd, vn, ret]
  simp [Ae, ret]
theorem seq {C : Ef Fn} {s : MS Fn} {r : List (MS Fn)} {env Aj : Mine.Env} (h : Ai C s env H = .ok (Aj, none) H') : Ae C (s :: r) env H = Ae C r Aj H' := by
 rw [Ae]
 unfold bnd
 rw [h]
abbrev S1 : MS Fn := .ifs (.isNone true (.attr (.var 0) 2)) [.asg 1 (.dcomp (.call .Am [.idx (.attr (.var 0) 2) (.var 2)]) (.attr (.var 0) 2))] []
abbrev SG : MS Fn := .ifs (.inW false (.attr (.var 0) 0) [7, 19, 20]) [.ret (.tup [.attr (.var 0) 0, .comp (.call .Am [.var 2]) (.attr (.var 0) 1), .var 1])] []
theorem PH : (prog .Am).body = [.ifs (.isT (.var 0) .str) [.bad] [], .ifs (.cmp .eq (.attr (.var 0) 0) (.cst (.w 6))) [.ret (.cst (.w 6))] [], .asg 1 .dct0, S1, SG, .ret (.tup [.attr (.var 0) 0, .listOf (.attr (.var 0) 1), .var 1])] := rfl
theorem OI {v : V} {k b : Nat} {ns : Option (List V)} (hS : CH S H) (hv : Dy S H v k b ns) (hk : k = 7 \/ k = 8 \/ k = 9) (hl : ∀ l, ns = some l -> l.length <= 100) :
  ∃ r H1, Bg Ab (d + 2) .Am [v] H = bnd (Ae (AI Ab (d + 1)) [SG, .ret (.tup [.attr (.var 0) 0, .listOf (.attr (.var 0) 1), .var 1])] [some v, some r]) CQ H1 /\ Ak S H H1 /\ Dk S H1 ns r := by
 obtain ⟨r, H1, e3, x1, p⟩ := MD (Ab := Ab) (d := d) hS hv hl
 refine ⟨r, H1, ?_, x1, p⟩
 obtain ⟨a, t, sh, rfl, q, rr⟩ := hv
 have q1 := q.1
 have k6 : (k == 6) = false := by rcases hk with rfl | rfl | rfl <;> rfl
 have s0 : Ai (AI Ab (d + 1)) (.ifs (.isT (.var 0) .str) [.bad] []) [some (V.ref a), none] H = .ok ([some (.ref a), none], none) H := by simp! [q1]
 have s1 : Ai (AI Ab (d + 1)) (.ifs (.cmp .eq (.attr (.var 0) 0) (.cst (.w 6))) [.ret (.cst (.w 6))] []) [some (V.ref a), none] H = .ok ([some (.ref a), none], none) H := by simp! [q1, k6]
 have s2 : Ai (AI Ab (d + 1)) (.asg 1 .dct0) [some (V.ref a), none] H = .ok ([some (.ref a), some (.ref H.length)], none) (H ++ [.dictW []]) := by simp! []
 rw [Db Ab rfl rfl, PH]
 show bnd (Ae (AI Ab (d + 1)) _ [some (V.ref a), none]) CQ H = _
 unfold bnd
 rw [seq s0, seq s1, seq s2, seq e3]
theorem HY {v : V} (hv : Bi S H .null v) : Bg Ab (d + 1) .Am [v] H = .ok (.w 6) H := by
 rw [Bi] at hv
 obtain ⟨a, rfl, q⟩ := hv
 have q1 := q.1
 simp_all! [FM, q1]
theorem DV : Ar S H .null (.w 6) := by rw [Ar]
theorem Ia {v : V} {k : Nat} {xs : List V} {ns : Option (List V)} (hk : k = 8 \/ k = 9) (hx : xs.length <= 8) (hn : JG xs.length ns) (hS : CH S H) (hv : Bi S H (.atom k xs ns) v) :
  W S (Bg Ab (d + 2) .Am [v]) H fun r H' => Ar S H' (.atom k xs ns) r := by
 obtain ⟨b0, hv0, hb0⟩ := AC.mp hv
 obtain ⟨r, H1, e, x1, p⟩ := OI (Ab := Ab) (d := d) hS hv0 (.inr hk) (fun l h => by have := (hn l h).2; omega)
 have hS1 := hS.up x1
 obtain ⟨a, t, sh, rfl, q, rr⟩ := hv0.up x1
 have q1 := q.1
 have b1 := (hb0.upL x1).1
 have k7 : ¬ (k = 7 \/ k = 19 \/ k = 20) := by omega
 have C7 : xs.length <= 100000 := by omega
 have la : a < H1.length := (AH q1)
 have nS : ∀ j, ¬ S (H1.length + j) := fun j q => absurd (hS1 _ q) (by omega)
 have x2 : Ak S H1 (H1 ++ [An.list xs, .tup [.w k, .ref H1.length, r]]) := Ak.app _ _ _
 refine ⟨.ref (H1.length + 1), H1 ++ [.list xs, .tup [.w k, .ref H1.length, r]], ?_, x1.trans x2, ?_⟩
 .rw [e]
  simp! [q1, b1, k7, C7]
 .dsimp only
  rw [Ar]
  exact ⟨H1.length + 1, H1.length, r, rfl, ⟨by simp, nS 1⟩, ⟨by simp, nS 0⟩, p.up x2⟩
theorem Ja : ∀ (n : Nat) {t : Tr} {v : V} {H : MH}, Be st n t -> CH S H -> Bi S H t v -> W S (Bg Ab (d + n + 2) .Am [v]) H fun r H' => Ar S H' t r := by
 intro n
 induction n with
 | zero =>
  intro t v H ht hS hv
  cases ht with
  | null => exact ⟨.w 6, H, HY hv, Ak.refl _ _, DV⟩
  | @atom _ k xs ns hk hx hn hi => exact Ia (d := d) hk hx hn hS hv
 | succ n ih =>
  intro t v H ht hS hv
  cases ht with
  | null => exact ⟨.w 6, H, HY hv, Ak.refl _ _, DV⟩
  | @atom _ k xs ns hk hx hn hi => exact Ia (d := d + (n + 1)) hk hx hn hS hv
  | @list _ ts ns hx hn hs4 hts =>
   obtain ⟨b0, vs, hv0, hb0, hr0⟩ := A2.mp hv
   have hlen0 := hr0.len
   obtain ⟨r, H1, e, x1, p⟩ := OI (Ab := Ab) (d := d + (n + 1)) hS hv0 (.inl rfl) (fun l h => by have := (hn l h).2; omega)
   have hS1 := hS.up x1
   have hv1 := hv0.up x1
   have hb1 := hb0.upL x1
   obtain ⟨ys, H2, e2, x2, p2⟩ := Km (S := S) (τ := Tr) (R := fun t v H => Bi S H t v) (P := fun t v H => Ar S H t v) (f := fun x => bnd (Aa (AI Ab (d + (n + 1) + 1)) (.call .Am [.var 2]) [some v, some r, some x]) fun y => ret (some y)) (post := stays (.ref b0) (.list vs))
    (fun _ _ _ _ h x => h.up x) (fun _ _ _ _ h x => h.up x) (G0.mp (hr0.up x1)) (fun t' v' G hm x' h' => by
     obtain ⟨y, G2, g1, g2, g3⟩ := ih (hts t' hm) (hS1.up x') h'
     refine ⟨some y, G2, ?_, g2, y, rfl, g3⟩
     have g1' : Bg Ab (d + (n + 1) + 1) .Am [v'] G = .ok y G2 := by
      have e0 : d + (n + 1) + 1 = d + n + 2 := by omega
      rw [e0]; exact g1
     simp [Aa, Ap, bnd, ret, Au, g1']) (fun G x' => CT (hb1.upL x').1)
   have hyl := p2.len
   obtain ⟨a, t, sh, rfl, q, rr⟩ := hv1
   have q1 := q.1
   have b1 := hb1.1
   have hS2 := hS1.up x2
   have nS : ∀ j, ¬ S (H2.length + j) := fun j q => absurd (hS2 _ q) (by omega)
   have x3 : Ak S H2 (H2 ++ [An.list ys, .tup [.w 7, .ref H2.length, r]]) := Ak.app _ _ _
   have hy : ys.length <= 100000 := by omega
   have hvl : vs.length <= 100000 := by omega
   refine ⟨.ref (H2.length + 1), H2 ++ [.list ys, .tup [.w 7, .ref H2.length, r]], ?_, x1.trans (x2.trans x3), ?_⟩
   .have e0 : d + (n + 1) + 2 = d + (n + 1) + 2 := rfl
    rw [e]
    simp! [] at e2
    simp! [q1, b1, C8, hvl, e2, hy]
   .dsimp only
    rw [Ar]
    exact ⟨H2.length + 1, H2.length, r, ys, rfl, ⟨by simp, nS 1⟩, ⟨by simp, nS 0⟩, (Eo.mpr p2).up x3, p.up (x2.trans x3)⟩
theorem CB {t : Tr} {n : Nat} {v : V} (hv : Ar S H t v) (ht : Be st n t) (C1 : t ≠ .null) : ∃ k a b xs u, (k = 7 \/ k = 8 \/ k = 9) /\ v = .ref a /\ At S H a (.tup [.w k, .ref b, u]) /\ At S H b (.list xs) /\ Dk S H t.names u /\ xs.length = t.len /\ t.len <= 8 /\ JG t.len t.names /\ (k = 7 ↔ ∃ ts ns, t = .list ts ns) := by
 cases ht with
 | null => exact absurd rfl C1
 | atom hk hx hn hi =>
  rw [Ar] at hv
  obtain ⟨a, b, u, e, h1, h2, h3⟩ := hv
  exact ⟨_, a, b, _, u, .inr hk, e, h1, h2, h3, rfl, hx, hn, fun h => by omega, fun ⟨_, _, h⟩ => by cases h⟩
 | list hx hn hs4 ht =>
  rw [Ar] at hv
  obtain ⟨a, b, u, vs, e, h1, h2, h3, h4⟩ := hv
  exact ⟨7, a, b, vs, u, .inl rfl, e, h1, h2, h4, (Eo.mp h3).len, hx, hn, fun _ => ⟨_, _, rfl⟩, fun _ => rfl⟩
theorem LG {t : Tr} {n : Nat} {v : V} (hS : CH S H) (hv : Ar S H t v) (ht : Be st n t) : W S (Bg Ab (d + 1) .Bv [v]) H fun r H' => JF S H' t.names r := by
 by_cases C1 : t = .null
 .subst C1
  rw [Ar] at hv
  subst hv
  refine ⟨.none, H, ?_, Ak.refl _ _, rfl⟩
  simp_all! [Dr]
 .obtain ⟨k, a, b, xs, u, hk, rfl, h1, h2, h3, h4, h5, h6, h7⟩ := CB hv ht C1
  have a1 := h1.1
  cases Eg : t.names with
  | none =>
   rw [Eg] at h3
   obtain ⟨c, rfl, hc⟩ := h3
   have c1 := hc.1
   refine ⟨.none, H, ?_, Ak.refl _ _, rfl⟩
   simp_all! [Dr, a1, c1]
  | some l =>
   rw [Eg] at h3
   obtain ⟨c, n', m, e, rfl, hc, hn', hm, he⟩ := h3
   have c1 := hc.1
   have n1 := hn'.1
   have m1 := hm.1
   have hl : l.length <= 100000 := by have := (h6 l Eg).2; omega
   refine ⟨.ref H.length, H ++ [.list l], ?_, Ak.app _ _ _, H.length, rfl, hS.new⟩
   simp_all! [Dr, a1, c1, n1, m1, hl]
def BY : Gc -> V
 | .na => .w 10
 | .num i => .int i
 | .nm k => .w k
def OC (ns : Option (List V)) (exact : Bool) : Gc -> V
 | .na => .none
 | .num 0 => .w 26
 | .num (i + 1) => .int i
 | .nm k => .int (A0 ns k exact)
theorem Ml {v : V} {i : Nat} {exact : Bool} : Bg Ab (d + 1) .B6 [v, .int i, .bool exact] H = .ok (OC none exact (.num i)) H := by
 cases i with
 | zero => simp_all! [Ci, OC]
 | succ i =>
  have h : ¬ ((i : Int) + 1 = 0) := by omega
  have h' : (((i : Int) + 1) == 0) = false := by simpa using h
  simp_all! [Ci, OC, h']
abbrev Js : ME Fn := .and2 (.isNone true (.idx (.var 3) (.var 5))) (.starts (.idx (.var 3) (.var 5)) (.var 1))
abbrev RK (C : Ef Fn) (env : Mine.Env) : V -> M (Option V) := fun x => bnd (Aa C Js (env ++ [some x])) fun c => bnd (Aw c) fun t => if t then bnd (Aa C (.var 5) (env ++ [some x])) fun y => ret (some y) else ret Option.none
theorem Nx {C : Ef Fn} (hC : C.bg = Ii) {nl k : Nat} {e0 e2 : Option V} (hk : 12 <= k /\ k < 18) : ∀ (xs done : List V), H[nl]? = some (.list (done ++ xs)) -> (done ++ xs).all Ey = true -> (done ++ xs).length <= 90 ->
  By (RK C [e0, some (.w k), e2, some (.ref nl), none]) (ret ()) (Ij done.length xs.length) H = .ok ((JR k xs done.length).map fun (i : Nat) => V.int (i : Int)) H
 | [], done, _, _, _ => rfl
 | x :: xs, done, hn, ha, hl => by
  have e : done ++ x :: xs = (done ++ [x]) ++ xs := by simp
  have hx : (done ++ x :: xs)[done.length]? = some x := by simp
  have hd : (done.length : Int) <= 100000 := by simp at hl; omega
  have go := Nx hC (e0 := e0) (e2 := e2) hk xs (done ++ [x]) (by rw [<- e]; exact hn) (by rw [<- e]; exact ha) (by rw [<- e]; exact hl)
  simp only [List.length_append, List.length_cons, List.length_nil, Nat.zero_add] at go
  have hw : Ey x = true := List.all_eq_true.mp ha x (by simp)
  have r1 : RK C [e0, some (.w k), e2, some (.ref nl), none] (.int done.length) H = .ok (if QK k x then some (.int done.length) else none) H := by
   cases x with
   | w j =>
    have hj : 12 <= j /\ j < 18 := by simpa [Ey] using hw
    have hbg := MR hj hk
    have hb' : QK k (.w j) = HR.contains (j, k) := rfl
    rw [hb']
    cases hb : HR.contains (j, k) with
    | true => rw [hb] at hbg; simp [RK, Js, Aa, bnd, ret, Au, Aw, AJ, EW, Bz, JH, CI, hn, hx, hd, hC, hbg]
    | false => rw [hb] at hbg; simp [RK, Js, Aa, bnd, ret, Au, Aw, AJ, EW, Bz, JH, CI, hn, hx, hd, hC, hbg]
   | none =>
    have : QK k .none = false := rfl
    rw [this]
    simp [RK, Js, Aa, bnd, ret, Au, Aw, AJ, EW, Bz, JH, CI, hn, hx, hd]
   | _ => cases hw
  rw [List.length_cons, EQ, By]
  simp only [bnd, r1, ret, go]
  rw [JR]
  cases QK k x <;> simp
theorem LF {t : Tr} {n : Nat} {v : V} {k : Nat} {exact : Bool} (hS : CH S H) (hv : Ar S H t v) (ht : Be st n t) (C1 : t ≠ .null) (hk : 12 <= k /\ k < 18) :
  W S (Bg Ab (d + 2) .B6 [v, .w k, .bool exact]) H fun r H' => r = .int (A0 t.names k exact) := by
 obtain ⟨nv, Ha, e1, x0, n1⟩ := LG (Ab := Ab) (d := d) hS hv ht
 obtain ⟨k0, a, b, xs, u, _, rfl, _, _, _, h4, h5, h6, _⟩ := CB hv ht C1
 cases Eg : t.names with
 | none =>
  rw [Eg] at n1
  cases n1
  refine ⟨.int (-1), Ha, ?_, x0, rfl⟩
  by_cases h16 : k = 16
  .subst h16
   simp_all! [Ci, e1]
  .simp_all! [Ci, e1, h16]
 | some l =>
  rw [Eg] at n1
  obtain ⟨nl, rfl, q⟩ := n1
  obtain ⟨a1, a2⟩ := h6 l Eg
  have q1 := q.1
  have aw := Pr a1
  have aw' : ∀ x ∈ l, wn x = true := List.all_eq_true.mp aw
  have C7 : l.length <= 100000 := by omega
  have hl2 : (l.length : Int) <= 100000 := by omega
  have hr := EE l.length
  by_cases h16 : k = 16
  .subst h16
   refine ⟨.int (-1), Ha, ?_, x0, by simp [A0]⟩
   simp_all! [Ci, e1]
  .cases hx : l.findIdx? (Fz k) with
   | some i =>
    have hany : l.any (Fz k) = true := by
     obtain ⟨h, h2, _⟩ := List.findIdx?_eq_some_iff_getElem.mp hx
     exact List.any_eq_true.mpr ⟨l[i], List.getElem_mem h, h2⟩
    refine ⟨.int i, Ha, ?_, x0, by simp [A0, h16, hx]⟩
    simp_all! [Ci, Fb, e1, h16, q1, aw, hany, hx, C7, -List.all_eq_true, -List.any_eq_true]
   | none =>
    have hany : l.any (Fz k) = false := by
     rw [List.any_eq_false]
     intro x hm
     have := List.findIdx?_eq_none_iff.mp hx x hm
     rw [this]; decide
    have hE := Nx (H := Ha) (C := AI Ab (d + 1)) rfl (e0 := some (.ref a)) (e2 := some (.bool exact)) hk l [] (by simpa using q1) (by simpa using a1) (by simpa using (by omega : l.length <= 90))
    simp only [List.length_nil] at hE
    have hbl : (JR k l 0).length <= l.length := by
     have : ∀ (xs : List V) (i : Nat), (JR k xs i).length <= xs.length := by
      intro xs
      induction xs with
      | nil => intro i; simp [JR]
      | cons x xs ih =>
       intro i
       rw [JR]
       have := ih (i + 1)
       split <;> simp <;> omega
     exact this l 0
    have hbl' : (JR k l 0).length <= 100000 := by omega
    refine ⟨.int (A0 (some l) k exact), Ha ++ [.list ((JR k l 0).map fun (i : Nat) => V.int (i : Int))], ?_, x0.trans (Ak.app _ _ _), rfl⟩
    unfold RK Js at hE
    simp! [CI] at hE
    have hsp : A0 (some l) k exact = if exact = true then -1 else only (JR k l 0) := by simp [A0, h16, hx]
    rw [hsp]
    cases hb : JR k l 0 with
    | nil =>
     rw [hb] at hE hbl'
     cases exact <;> (simp_all! [Ci, Fb, CI, e1, h16, q1, aw, hany, hx, C7, hl2, hr, hE, only, -List.all_eq_true, -List.any_eq_true])
    | cons j r =>
     rw [hb] at hE hbl'
     simp at hE hbl'
     cases r with
     | nil => cases exact <;> (simp_all! [Ci, Fb, CI, e1, h16, q1, aw, hany, hx, C7, hl2, hr, hE, only, -List.all_eq_true, -List.any_eq_true])
     | cons j2 r2 =>
      obtain ⟨zs, hz⟩ : ∃ zs, zs = List.map (fun (i : Nat) => V.int (i : Int)) r2 := ⟨_, rfl⟩
      have hzl : zs.length = r2.length := by rw [hz, List.length_map]
      simp only [List.map_cons, <- hz] at hE ⊢
      have hz1 : zs.length + 1 + 1 <= 100000 := by rw [hzl]; simp at hbl'; omega
      have hz2 : (((zs.length : Int) + 1 + 1) == 1) = false := by rw [beq_eq_false_iff_ne]; omega
      have hz3 : ¬ ((zs.length : Int) + 1 + 1 = 1) := by omega
      cases exact <;> (simp_all! [Ci, Fb, CI, e1, h16, q1, aw, hany, hx, C7, hl2, hr, hE, hz1, hz2, hz3, only, -List.all_eq_true, -List.any_eq_true])
def BJ (S : Nat -> Prop) (H : MH) : Except Nat Tr -> V -> Prop
 | .ok t, v => Ar S H t v
 | .error e, v => ∃ l, v = .ref l /\ At S H l (.list [.w 11, .w e])
theorem Ks {key : Gc} {exact : Bool} : Bg Ab (d + 1) .AA [.w 6, BY key, .bool exact] H = .ok (.w 6) H := by
 simp_all! [Bh]
theorem MG {t : Tr} {n : Nat} {v : V} {exact : Bool} (hS : CH S H) (hv : Ar S H t v) (ht : Be st n t) (C1 : t ≠ .null) : W S (Bg Ab (d + 1) .AA [v, BY .na, .bool exact] ) H fun r H' => BJ S H' (Bn t .na exact) r := by
 obtain ⟨k, a, b, xs, u, hk, rfl, h1, h2, h3, h4, h5, h6, h7⟩ := CB hv ht C1
 have a1 := h1.1
 have nS : ∀ j, ¬ S (H.length + j) := fun j q => absurd (hS _ q) (by omega)
 cases ht with
 | null => exact absurd rfl C1
 | list hx hn hs4 hts =>
  have k7 := h7.mpr ⟨_, _, rfl⟩
  subst k7
  refine ⟨.w 6, H, ?_, Ak.refl _ _, (DV : Ar S H .null (.w 6))⟩
  simp_all! [Bh, BD, BY, a1]
 | @atom _ k2 xs2 ns2 hk2 hx hn hi =>
  have k7 : ¬ k = 7 := fun h => by obtain ⟨_, _, e⟩ := h7.mp h; cases e
  have k7' : (k == 7) = false := by simpa using k7
  have e2 : k2 = k := by
   rw [Ar] at hv
   obtain ⟨a', b', t', e, q1, _⟩ := hv
   cases e
   have := q1.1.symm.trans a1
   simp at this
   exact this.1
  subst e2
  refine ⟨.ref (H.length + 2), H ++ [.list [.none], .dictW [], .tup [.w k2, .ref H.length, .ref (H.length + 1)]], ?_, Ak.app _ _ _, ?_⟩
  .simp_all! [Bh, BD, BY, a1, k7, k7']
  .show Ar S _ (.atom k2 [.none] none) _
   rw [Ar]
   exact ⟨H.length + 2, H.length, .ref (H.length + 1), rfl, ⟨by simp, nS 2⟩, ⟨by simp, nS 0⟩, H.length + 1, rfl, ⟨by simp, nS 1⟩⟩
def Em (ns : Option (List V)) (exact : Bool) (key : Gc) : V := match Cb ns exact key with
 | .error e => .w e
 | .ok (some s) => .int s
 | .ok none => .none
theorem AS.get {ts : List Tr} {vs : List V} {i : Nat} {t : Tr} (h : AS S H ts vs) (e : ts[i]? = some t) : ∃ v, vs[i]? = some v /\ Ar S H t v := by
 induction ts generalizing vs i with
 | nil => simp at e
 | cons u ts ih =>
  rw [AS] at h
  obtain ⟨v, r, rfl, h1, h2⟩ := h
  cases i with
  | zero => simp at e; subst e; exact ⟨v, by simp, h1⟩
  | succ i =>
   obtain ⟨w, h3, h4⟩ := ih h2 (by simpa using e)
   exact ⟨w, by simpa using h3, h4⟩
theorem Pf {t : Tr} {n : Nat} {v : V} {key : Gc} {exact : Bool} (hS : CH S H) (hv : Ar S H t v) (ht : Be st n t) (C1 : t ≠ .null) (Bf : CL key) (hna : key ≠ .na) :
  W S (Bg Ab (d + 2) .B6 [v, BY key, .bool exact]) H fun r H' => r = Em t.names exact key := by
 cases key with
 | na => exact absurd rfl hna
 | num i =>
  refine ⟨_, H, Ml, Ak.refl _ _, ?_⟩
  cases i <;> rfl
 | nm k => exact LF hS hv ht C1 Bf
theorem Qh {a b : Nat} : Fg H (.w a) (.w b) = some (a == b) := rfl
theorem Oe {key : Gc} (Bf : CL key) (hna : key ≠ .na) (H : MH) : Fg H (BY key) (.w 10) = some false := by
 cases key with
 | na => exact absurd rfl hna
 | num i => rfl
 | nm k' =>
  have : ¬ k' = 10 := by have := Bf.1; omega
  simp [BY, Fg, this]
theorem Qq {t : Tr} {n : Nat} {v : V} {key : Gc} {exact : Bool} (hS : CH S H) (hv : Ar S H t v) (ht : Be st n t) (C1 : t ≠ .null) (Bf : CL key) (hna : key ≠ .na) :
  W S (Bg Ab (d + 3) .AA [v, BY key, .bool exact]) H fun r H' => BJ S H' (Bn t key exact) r := by
 obtain ⟨r1, Ha, e1, x0, rfl⟩ := Pf (Ab := Ab) (d := d) (exact := exact) hS hv ht C1 Bf hna
 obtain ⟨k, a, b, xs, u, hk, rfl, h1, h2, h3, h4, h5, h6, h7⟩ := CB hv ht C1
 have hSa := hS.up x0
 have a0 := h1.1
 have b1 := (h2.upL x0).1
 have C7 : xs.length <= 100000 := by omega
 have nS : ∀ j, ¬ S (Ha.length + j) := fun j q => absurd (hSa _ q) (by omega)
 have hkv := Oe Bf hna
 generalize BY key = kv at hkv e1 ⊢
 have refused : ∀ e, Bn t key exact = .error e -> (∀ G : MH, Bg Ab (d + 3) .AA [.ref a, kv, .bool exact] H = .ok (.ref Ha.length) (Ha ++ [.list [.w 11, .w e]])) -> W S (Bg Ab (d + 3) .AA [.ref a, kv, .bool exact]) H fun r H' => BJ S H' (Bn t key exact) r := fun e hE hr => by
  rw [hE]
  exact ⟨.ref Ha.length, _, hr H, x0.trans (Ak.app _ _ _), Ha.length, rfl, by simp, nS 0⟩
 cases hp : Cb t.names exact key with
 | error e =>
  have hr : Em t.names exact key = .w e := by unfold Em; rw [hp]
  rw [hr] at e1
  refine refused e ?_ fun _ => ?_
  .cases t with
   | null => exact absurd rfl C1
   | atom _ _ ns => have hp : Cb ns exact key = .error e := hp; simp only [Bn, hp]
   | list _ ns => have hp : Cb ns exact key = .error e := hp; simp only [Bn, hp]
  .simp_all! [Bh, BD, -Fg, Qh, hkv, a0, b1, e1, C7]
 | ok p =>
  cases p with
  | none =>
   cases key with
   | na => exact absurd rfl hna
   | num i => cases i <;> cases hp
   | nm k' => cases hp
  | some s =>
   have hr : Em t.names exact key = .int s := by unfold Em; rw [hp]
   rw [hr] at e1
   cases ht with
   | null => exact absurd rfl C1
   | @atom _ k2 xs2 ns2 hk2 hx2 hn2 hi2 =>
    rw [Ar] at hv
    obtain ⟨a', b', t', e, q1, q2, q3⟩ := hv
    cases e
    have e3 := q1.1.symm.trans a0
    simp at e3
    obtain ⟨rfl, rfl, rfl⟩ := e3
    have e4 := q2.1.symm.trans h2.1
    simp at e4
    subst e4
    have B9 : Cb ns2 exact key = .ok (some s) := hp
    have k7 : ¬ k2 = 7 := by omega
    have k7' : (k2 == 7) = false := by simpa using k7
    by_cases h0 : s < 0
    .refine refused 28 (by simp only [Bn, B9]; rw [if_pos (.inl h0)]) fun _ => ?_
     simp_all! [Bh, BD, -Fg, Qh, hkv, a0, b1, e1, C7, k7, k7', h0]
    .by_cases h1' : (xs2.length : Int) <= s
     .refine refused 28 (by simp only [Bn, B9]; rw [if_pos (.inr h1')]) fun _ => ?_
      simp_all! [Bh, BD, -Fg, Qh, hkv, a0, b1, e1, C7, k7, k7', h0, h1']
     .have hE : Bn (.atom k2 xs2 ns2) key exact = .ok (.atom k2 [xs2.getD s.toNat .none] none) := by simp only [Bn, B9]; rw [if_neg (by omega)]
      rw [hE]
      have h00 : 0 <= s := by omega
      have hs1 : s <= 100000 := by omega
      have h1s : s < (xs2.length : Int) := by omega
      have CV : s.toNat < xs2.length := by omega
      have hu : xs2[s.toNat]? = some (xs2.getD s.toNat .none) := by simp [CV]
      obtain ⟨w, hw⟩ : ∃ w, xs2.getD s.toNat .none = w := ⟨_, rfl⟩
      rw [hw] at hu ⊢
      refine ⟨.ref (Ha.length + 2), Ha ++ [.list [w], .dictW [], .tup [.w k2, .ref Ha.length, .ref (Ha.length + 1)]], ?_, x0.trans (Ak.app _ _ _), ?_⟩
      .simp_all! [Bh, -getElem?_pos, List.getElem?_cons_zero, List.getElem?_cons_succ, BD, -Fg, Qh, hkv, a0, b1, e1, C7, k7, k7', h0, h1', h1s, h00, hs1, hu]
      .show Ar S _ (.atom k2 [w] none) _
       rw [Ar]
       exact ⟨Ha.length + 2, Ha.length, .ref (Ha.length + 1), rfl, ⟨by simp, nS 2⟩, ⟨by simp, nS 0⟩, Ha.length + 1, rfl, ⟨by simp, nS 1⟩⟩
   | @list _ ts ns hx2 hn2 hs2 hts2 =>
    have k7 := h7.mpr ⟨_, _, rfl⟩
    subst k7
    have B9 : Cb ns exact key = .ok (some s) := hp
    by_cases h0 : s < 0
    .have hE : Bn (.list ts ns) key exact = .ok .null := by simp only [Bn, B9]; rw [if_pos h0]
     rw [hE]
     refine ⟨.w 6, Ha, ?_, x0, (DV : Ar S Ha .null (.w 6))⟩
     simp_all! [Bh, BD, -Fg, Qh, hkv, a0, b1, e1, C7, h0]
    .have h4' : xs.length = ts.length := h4
     by_cases h1' : (xs.length : Int) <= s
     .refine refused 28 (by simp only [Bn, B9]; rw [if_neg h0, if_pos (by omega)]) fun _ => ?_
      simp_all! [Bh, BD, -Fg, Qh, hkv, a0, b1, e1, C7, h0, h1']
     .have hE : Bn (.list ts ns) key exact = .ok (ts.getD s.toNat .null) := by simp only [Bn, B9]; rw [if_neg h0, if_neg (by omega)]
      rw [hE]
      have h00 : 0 <= s := by omega
      have hs1 : s <= 100000 := by omega
      have h1s : s < (xs.length : Int) := by omega
      have CV : s.toNat < ts.length := by omega
      rw [Ar] at hv
      obtain ⟨a', b', t', vs, e, q1, q2, q3, q4⟩ := hv
      cases e
      have e3 := q1.1.symm.trans a0
      simp at e3
      obtain ⟨rfl, rfl⟩ := e3
      have e4 := q2.1.symm.trans h2.1
      simp at e4
      subst e4
      obtain ⟨w, hw, hrw⟩ := q3.get (i := s.toNat) (t := ts[s.toNat]) (by simp [CV])
      have hget : ts.getD s.toNat .null = ts[s.toNat] := by simp [CV]
      refine ⟨w, Ha, ?_, x0, ?_⟩
      .simp_all! [Bh, -getElem?_pos, List.getElem?_cons_zero, List.getElem?_cons_succ, BD, -Fg, Qh, hkv, a0, b1, e1, C7, h0, h1', h1s, h00, hs1, hw]
      .rw [hget]; exact hrw.up x0
def GX (S : Nat -> Prop) (H : MH) : Except Nat Tr -> V -> Prop
 | .ok t, v => Bi S H t v
 | .error e, v => v = .w e
theorem BJ.up {r : Except Nat Tr} {v : V} (h : BJ S H r v) (x : Ak S H H') : BJ S H' r v := by
 cases r with
 | ok t => exact Ar.up h x
 | error e => obtain ⟨l, rfl, q⟩ := h; exact ⟨l, rfl, q.upL x⟩
theorem LV {t : Tr} {n : Nat} {v : V} {key : Gc} {exact : Bool} (hS : CH S H) (hv : Ar S H t v) (ht : Be st n t) (Bf : CL key) :
  W S (Bg Ab (d + 3) .AA [v, BY key, .bool exact]) H fun r H' => BJ S H' (Bn t key exact) r := by
 by_cases C1 : t = .null
 .subst C1
  rw [Ar] at hv
  subst hv
  exact ⟨.w 6, H, Ks, Ak.refl _ _, (DV : Ar S H .null (.w 6))⟩
 .by_cases hna : key = .na
  .subst hna
   exact MG (d := d + 2) hS hv ht C1
  .exact Qq hS hv ht C1 Bf hna
theorem PU {key : Gc} (hS : CH S H) (Bf : CL key) : W S (Bg Ab (d + 2) .BQ [BY key]) H fun r H' => Bi S H' (D8 key) r := by
 have go : ∀ k x, Bg Ab (d + 2) .BQ [BY key] H = .ok (.ref (H.length + 1)) (H ++ [.list [x], Ah k H.length .none (.bool false)]) -> D8 key = .atom k [x] none -> W S (Bg Ab (d + 2) .BQ [BY key]) H fun r H' => Bi S H' (D8 key) r := fun k x h1 h2 => by
  rw [h2]; exact ⟨_, _, h1, Ak.app _ _ _, Dc hS⟩
 cases key with
 | na => exact go 8 .none (by simp_all! [El, BY, CD]) rfl
 | num i => exact go 8 (.int i) (by simp_all! [El, BY, CD]) rfl
 | nm k =>
  have hk' : ¬ k = 10 := by have := Bf.1; omega
  exact go 9 (.w k) (by simp_all! [El, BY, hk', CD]) rfl
theorem Lr {m : M V} {r : Except Nat Tr} (h : CZ S m H r) : W S (J4 m) H fun v H' => GX S H' r v := by
 cases r with
 | ok t => obtain ⟨v, G, e, x, p⟩ := h; exact ⟨v, G, by unfold J4; rw [e], x, p⟩
 | error e => obtain ⟨G, q, x⟩ := h; exact ⟨.w e, G, by unfold J4; rw [q], x, rfl⟩
theorem Nt {r : Except Nat Tr} {n : Nat} {v : V} (hS : CH S H) (h : GX S H r v) (EN : ∀ t, r = .ok t -> Be st n t) : W S (Bg Ab (d + n + 3) .AG [v]) H fun v H' => BJ S H' r v := by
 cases r with
 | error e =>
  cases h
  refine ⟨.ref H.length, H ++ [.list [.w 11, .w e]], ?_, Ak.app _ _ _, H.length, rfl, hS.new⟩
  simp_all! [Fe]
 | ok t =>
  have ht := EN t rfl
  obtain ⟨r, G, e1, x1, p⟩ := Ja (Ab := Ab) (d := d) n ht hS h
  refine ⟨r, G, ?_, x1, p⟩
  have hs : FH v .str H = .ok (.bool false) H := by
   cases ht with
   | null =>
    have h : Bi S H .null v := h
    rw [Bi] at h
    obtain ⟨a, rfl, c⟩ := h
    have c1 := c.1
    simp [FH, c1]
   | atom hk hx hn hi =>
    obtain ⟨b, ⟨a, t, sh, rfl, c, r⟩, h2⟩ := AC.mp h
    have c1 := c.1
    simp [FH, c1]
   | list hx hn hs4 ht =>
    obtain ⟨b, vs, ⟨a, t, sh, rfl, c, r⟩, h2, h3⟩ := A2.mp h
    have c1 := c.1
    simp [FH, c1]
  simp_all! [Fe, -FH, hs, e1]
theorem IR {k : Nat} {xs : List V} {ns : Option (List V)} {v : V} (hS : CH S H) (hv : Ar S H (.atom k xs ns) v) (hx : xs.length <= 8) : W S (Bg Ab (d + 1) .AW [v]) H fun r H' => Ar S H' (.list (xs.map fun x => .atom k [x] none) ns) r := by
 rw [Ar] at hv
 obtain ⟨a, b, t, rfl, q1, q2, q3⟩ := hv
 have a1 := q1.1
 have b1 := q2.1
 obtain ⟨ys, H1, e1, x1, p1⟩ := Km (S := S) (τ := V) (R := fun l v _ => v = l) (P := fun x y H => Ar S H (.atom k [x] none) y) (f := fun x => bnd (Aa (AI Ab d) (.tup [.var 1, .lst [.var 4], .dct0]) [some (.ref a), some (.w k), some (.ref b), some t, some x]) fun y => ret (some y)) (post := stays (.ref b) (.list xs))
  (fun _ _ _ _ h _ => h) (fun _ _ _ _ h x => h.up x) (B1.self xs H) (fun l x G hm x1 hx => by
   subst hx
   have hSG := hS.up x1
   have nS : ∀ j, ¬ S (G.length + j) := fun j q => absurd (hSG _ q) (by omega)
   refine ⟨some (.ref (G.length + 2)), G ++ [.list [x], .dictW [], .tup [.w k, .ref G.length, .ref (G.length + 1)]], ?_, Ak.app _ _ _, _, rfl, ?_⟩
   .simp! []
   .rw [Ar]
    exact ⟨G.length + 2, G.length, .ref (G.length + 1), rfl, ⟨by simp, nS 2⟩, ⟨by simp, nS 0⟩, G.length + 1, rfl, ⟨by simp, nS 1⟩⟩) (fun G x' => CT (q2.upL x').1)
 have BN := p1.len
 have hy : ys.length <= 100000 := by omega
 have C7 : xs.length <= 100000 := by omega
 have hS1 := hS.up x1
 have nS : ∀ j, ¬ S (H1.length + j) := fun j q => absurd (hS1 _ q) (by omega)
 have x3 : Ak S H1 (H1 ++ [An.list ys, .tup [.w 7, .ref H1.length, t]]) := Ak.app _ _ _
 refine ⟨.ref (H1.length + 1), H1 ++ [.list ys, .tup [.w 7, .ref H1.length, t]], ?_, x1.trans x3, ?_⟩
 .simp! [] at e1
  simp_all! [Fj, BD, a1, b1, C8, C7, e1, hy]
 .dsimp only
  rw [Ar]
  exact ⟨H1.length + 1, H1.length, t, ys, rfl, ⟨by simp, nS 1⟩, ⟨by simp, nS 0⟩, (Eo.mpr (B1.map p1)).up x3, q3.up (x1.trans x3)⟩
abbrev FV : List (MS Fn) := (prog .AO).body.drop 1
abbrev JB : List (MS Fn) := (prog .AO).body.drop 11
abbrev Ok : MS Fn := .ifs (.cmp .eq (.var 4) (.cst (.w 7))) [.setI (.var 5) (.var 9) (.var 2)] [.setI (.var 5) (.var 9) (.ite (.and2 (.cmp .eq (.var 4) (.cst (.w 9))) (.cmp .eq (.idx (.var 2) (.cst (.int 0))) (.cst (.w 8)))) (.strOf (.idx (.idx (.var 2) (.cst (.int 1))) (.cst (.int 0)))) (.idx (.idx (.var 2) (.cst (.int 1))) (.cst (.int 0))))]
abbrev Oj : MS Fn := .ifs (.cmp .ge (.var 9) (.var 7)) [.augL 5 (.bin .mul (.lst [.ite (.cmp .eq (.var 4) (.cst (.w 7))) (.cst (.w 6)) (.cst .none)]) (.bin .sub (.bin .add (.var 9) (.cst (.int 1))) (.var 7))), .ifs (.or2 (.isNone true (.var 8)) (.cmp .ne (.var 11) (.lst []))) [.asg 12 (.bin .add (.ite (.isNone false (.var 8)) (.bin .mul (.lst [.cst (.w 16)]) (.var 7)) (.var 8)) (.var 11)), .setI (.var 6) (.cst (.w 5)) (.tup [.cst (.w 9), .bin .add (.var 12) (.bin .mul (.lst [.cst (.w 16)]) (.bin .sub (.bin .add (.var 9) (.cst (.int 1))) (.len (.var 12)))), .dct0])] []] []
theorem NN : JB = [.asg 5 (.listOf (.var 5)), .asg 6 (.dictOf (.var 6)), Oj, Ok, .ret (.tup [.var 4, .var 5, .var 6])] := rfl
theorem AV {C : Ef Fn} {s : MS Fn} {r : List (MS Fn)} {env Aj : Mine.Env} (h : Ai C s env H = .ok (Aj, none) H') : bnd (Ae C (s :: r) env) CQ H = bnd (Ae C r Aj) CQ H' := by
 unfold bnd
 rw [seq h]
theorem L6 {ns : Option (List V)} {u : V} (h : Dk S H ns u) : ∃ c kvs, u = .ref c /\ At S H c (.dictW kvs) /\ kvs.length < 2 /\ (∀ v, DS 5 v kvs = [(5, v)]) /\ (∀ H', Ak S H H' -> ∀ c', At S H' c' (.dictW kvs) -> Dk S H' ns (.ref c')) := by
 cases ns with
 | none =>
  obtain ⟨c, rfl, q⟩ := h
  exact ⟨c, [], rfl, q, by simp, fun _ => rfl, fun H' _ c' q' => ⟨c', rfl, q'⟩⟩
 | some l =>
  obtain ⟨c, n, m, e, rfl, q, h2, h3, h4⟩ := h
  exact ⟨c, [(5, .ref n)], rfl, q, by simp, fun _ => by simp [DS], fun H' x c' q' => ⟨c', n, m, e, rfl, q', h2.upT x, h3.upL x, h4.upD x⟩⟩
theorem Dx {a : Nat} {c : An} (h : At S H a c) (L : MH) : (H ++ L)[a]? = some c := by rw [Ck (AH h.1)]; exact h.1
theorem Qt {v0 ky put nv : V} {e3 e10 : Option V} {k p al : Nat} {zs : List V} {kvs : List (Nat × V)} {ns : Option (List V)} {mo : Option V}
  (hS : CH S H) (hkv : kvs.length < 2) (hput : ∀ v, DS 5 v kvs = [(5, v)])
  (hattr : ∀ H', Ak S H H' -> At S H' (H.length + 1) (.dictW kvs) -> Dk S H' ns (.ref (H.length + 1))) (hn : JF S H ns nv) (hal : At S H al (.list mo.toList)) (hmo : zs.length <= p -> zs.length + mo.toList.length <= p + 1) (hnl : JG zs.length ns) (hp : p <= 100) (hz : zs.length <= 100) :
  ∃ e12 kvs' L, Ai (AI Ab d) Oj [some v0, some ky, some put, e3, some (.w k), some (.ref H.length), some (.ref (H.length + 1)), some (.int zs.length), some nv, some (.int p), e10, some (.ref al), none] (H ++ [.list zs, .dictW kvs]) =
   .ok ([some v0, some ky, some put, e3, some (.w k), some (.ref H.length), some (.ref (H.length + 1)), some (.int zs.length), some nv, some (.int p), e10, some (.ref al), e12], none) (H ++ .list (zs ++ List.replicate (p + 1 - zs.length) (if k = 7 then .w 6 else .none)) :: .dictW kvs' :: L) /\
   ∀ ws, Dk S (H ++ .list ws :: .dictW kvs' :: L) (BA zs.length ns mo p) (.ref (H.length + 1)) := by
 have nS : ∀ j, ¬ S (H.length + j) := fun j q => absurd (hS _ q) (by omega)
 have hal' := Dx hal
 by_cases hge : zs.length <= p
 .have hr : ((p : Int) + 1 - (zs.length : Int)).toNat = p + 1 - zs.length := by omega
  have hr0 : (zs.length : Int) <= (p : Int) + 1 := by omega
  have hr1 : (p : Int) + 1 - (zs.length : Int) <= 1000 := by omega
  have hr2 : zs.length + (p + 1 - zs.length) <= 100000 := by omega
  have hgi : (zs.length : Int) <= (p : Int) := by omega
  cases ns with
  | none =>
   cases hn
   cases mo with
   | none =>
    refine ⟨none, kvs, [.list [if k = 7 then .w 6 else .none], .list (List.replicate (p + 1 - zs.length) (if k = 7 then .w 6 else .none)), .list []], ?_, fun ws => ?_⟩
    .by_cases h7 : k = 7
     .subst h7
      simp! [hgi, hr, hr0, hr1, hr2, hal']
     .simp! [hgi, hr, hr0, hr1, hr2, hal', h7]
    .simp [BA, hge, E6]
     exact hattr _ (Ak.app _ _ _) ⟨by simp, nS 1⟩
   | some w =>
    have hm : zs.length + 1 <= p + 1 := hmo hge
    have hq : ((p : Int) + 1 - ((zs.length : Int) + 1)).toNat = p - zs.length := by omega
    have hq0 : (zs.length : Int) + 1 <= (p : Int) + 1 := by omega
    have hq1 : (p : Int) + 1 - ((zs.length : Int) + 1) <= 1000 := by omega
    have hz1 : (zs.length : Int) <= 1000 := by omega
    have hz2 : zs.length + 1 <= 100000 := by omega
    have hz3 : zs.length + 1 + (p - zs.length) <= 100000 := by omega
    have hz4 : zs.length <= 100000 := by omega
    have hkv' : kvs.length < 100 := by omega
    simp only [Option.toList_some] at hal'
    refine ⟨some (.ref (H.length + 7)), [(5, .ref (H.length + 12))], [.list [if k = 7 then .w 6 else .none], .list (List.replicate (p + 1 - zs.length) (if k = 7 then .w 6 else .none)), .list [], .list [.w 16], .list (List.replicate zs.length (.w 16)), .list (List.replicate zs.length (.w 16) ++ [w]), .list [.w 16], .list (List.replicate (p - zs.length) (.w 16)), .list (List.replicate zs.length (.w 16) ++ [w] ++ List.replicate (p - zs.length) (.w 16)), .dictW [], .tup [.w 9, .ref (H.length + 10), .ref (H.length + 11)]], ?_, fun ws => ?_⟩
    .by_cases h7 : k = 7
     .subst h7
      simp! [hgi, hr, hr0, hr1, hr2, hal', hq, hq0, hq1, hz1, hz2, hz3, hz4, hkv', hput]
     .simp! [hgi, hr, hr0, hr1, hr2, hal', hq, hq0, hq1, hz1, hz2, hz3, hz4, hkv', hput, h7]
    .simp [BA, hge, E6]
     exact ⟨H.length + 1, H.length + 12, H.length + 10, H.length + 11, rfl, ⟨by simp, nS 1⟩, ⟨by simp, nS 12⟩, ⟨by simp, nS 10⟩, ⟨by simp, nS 11⟩⟩
  | some l =>
   obtain ⟨nl, rfl, hnl2⟩ := hn
   have hll := (hnl l rfl).2
   have hm := hmo hge
   have hnl' := Dx hnl2
   have hz5 : l.length + mo.toList.length <= 100000 := by omega
   have hz6 : l.length + mo.toList.length + (p + 1 - (l.length + mo.toList.length)) <= 100000 := by omega
   have hq : ((p : Int) + 1 - ((l.length : Int) + (mo.toList.length : Int))).toNat = p + 1 - (l.length + mo.toList.length) := by omega
   have hq0 : (l.length : Int) + (mo.toList.length : Int) <= (p : Int) + 1 := by omega
   have hq1 : (p : Int) + 1 - ((l.length : Int) + (mo.toList.length : Int)) <= 1000 := by omega
   have hkv' : kvs.length < 100 := by omega
   have hz4 : zs.length <= 100000 := by omega
   generalize hmm : mo.toList = ml at *
   refine ⟨some (.ref (H.length + 4)), [(5, .ref (H.length + 9))], [.list [if k = 7 then .w 6 else .none], .list (List.replicate (p + 1 - zs.length) (if k = 7 then .w 6 else .none)), .list (l ++ ml), .list [.w 16], .list (List.replicate (p + 1 - (l.length + ml.length)) (.w 16)), .list (l ++ ml ++ List.replicate (p + 1 - (l.length + ml.length)) (.w 16)), .dictW [], .tup [.w 9, .ref (H.length + 7), .ref (H.length + 8)]], ?_, fun ws => ?_⟩
   .by_cases h7 : k = 7
    .subst h7
     simp! [hgi, hr, hr0, hr1, hr2, hal', hnl', hq, hq0, hq1, hz4, hz5, hz6, hkv', hput]
    .simp! [hgi, hr, hr0, hr1, hr2, hal', hnl', hq, hq0, hq1, hz4, hz5, hz6, hkv', hput, h7]
   .simp [BA, hge, E6, hmm]
    exact ⟨H.length + 1, H.length + 9, H.length + 7, H.length + 8, rfl, ⟨by simp, nS 1⟩, ⟨by simp, nS 9⟩, ⟨by simp, nS 7⟩, ⟨by simp, nS 8⟩⟩
 .have hgi : ¬ (zs.length : Int) <= (p : Int) := by omega
  have h0 : p + 1 - zs.length = 0 := by omega
  refine ⟨none, kvs, [], ?_, fun ws => ?_⟩
  .simp! [hgi, h0]
  .unfold BA
   rw [if_neg hge]
   exact hattr _ (Ak.app _ _ _) ⟨by simp, nS 1⟩
abbrev F7 (k : Nat) : V := if k = 7 then .w 6 else .none
theorem OB {v0 ky put u nv w : V} {e3 e10 : Option V} {k p al b : Nat} {zs : List V} {ns : Option (List V)} {mo : Option V}
  (hS : CH S H) (hb : At S H b (.list zs)) (hu : Dk S H ns u) (hn : JF S H ns nv) (hal : At S H al (.list mo.toList)) (hmo : zs.length <= p -> zs.length + mo.toList.length <= p + 1) (hnl : JG zs.length ns) (hp : p <= 100) (hz : zs.length <= 100)
  (hitem : ∀ e12 c L, p < (zs ++ List.replicate (p + 1 - zs.length) (F7 k)).length -> (zs ++ List.replicate (p + 1 - zs.length) (F7 k)).length <= 100000 -> Ai (AI Ab d) Ok [some v0, some ky, some put, e3, some (.w k), some (.ref H.length), some (.ref (H.length + 1)), some (.int zs.length), some nv, some (.int p), e10, some (.ref al), e12] (H ++ .list (zs ++ List.replicate (p + 1 - zs.length) (F7 k)) :: c :: L) =
   .ok ([some v0, some ky, some put, e3, some (.w k), some (.ref H.length), some (.ref (H.length + 1)), some (.int zs.length), some nv, some (.int p), e10, some (.ref al), e12], none) (H ++ .list ((zs ++ List.replicate (p + 1 - zs.length) (F7 k)).set p w) :: c :: L)) :
  ∃ a1 b1 u1 G', bnd (Ae (AI Ab d) JB [some v0, some ky, some put, e3, some (.w k), some (.ref b), some u, some (.int zs.length), some nv, some (.int p), e10, some (.ref al), none]) CQ H = .ok (.ref a1) G' /\ Ak S H G' /\
   At S G' a1 (.tup [.w k, .ref b1, u1]) /\ At S G' b1 (.list ((zs ++ List.replicate (p + 1 - zs.length) (F7 k)).set p w)) /\ Dk S G' (BA zs.length ns mo p) u1 := by
 have nS : ∀ j, ¬ S (H.length + j) := fun j q => absurd (hS _ q) (by omega)
 obtain ⟨c, kvs, rfl, hc, hkv, hput, hat⟩ := L6 hu
 have b1 := hb.1
 have c1 := Dx hc
 have hz4 : zs.length <= 100000 := by omega
 have hkv' : kvs.length < 100 := by omega
 obtain ⟨e12, kvs', L, e1, p1⟩ := Qt (Ab := Ab) (d := d) (v0 := v0) (ky := ky) (put := put) (e3 := e3) (e10 := e10) (k := k) hS hkv hput (fun G x q => hat G x _ q) hn hal hmo hnl hp hz
 have BN : p < (zs ++ List.replicate (p + 1 - zs.length) (F7 k)).length /\ (zs ++ List.replicate (p + 1 - zs.length) (F7 k)).length <= 100000 := by
  rw [List.length_append, List.length_replicate]; omega
 have e2 := hitem e12 (.dictW kvs') L BN.1 BN.2
 have s11 : Ai (AI Ab d) (.asg 5 (.listOf (.var 5))) [some v0, some ky, some put, e3, some (.w k), some (.ref b), some (.ref c), some (.int zs.length), some nv, some (.int p), e10, some (.ref al), none] H = .ok ([some v0, some ky, some put, e3, some (.w k), some (.ref H.length), some (.ref c), some (.int zs.length), some nv, some (.int p), e10, some (.ref al), none], none) (H ++ [.list zs]) := by
  simp! [b1, hz4]
 have s12 : Ai (AI Ab d) (.asg 6 (.dictOf (.var 6))) [some v0, some ky, some put, e3, some (.w k), some (.ref H.length), some (.ref c), some (.int zs.length), some nv, some (.int p), e10, some (.ref al), none] (H ++ [.list zs]) = .ok ([some v0, some ky, some put, e3, some (.w k), some (.ref H.length), some (.ref (H.length + 1)), some (.int zs.length), some nv, some (.int p), e10, some (.ref al), none], none) (H ++ [.list zs, .dictW kvs]) := by
  simp! [c1, hkv']
 generalize hzz : (zs ++ List.replicate (p + 1 - zs.length) (F7 k)) = zz at e1 e2 BN ⊢
 refine ⟨H.length + (L.length + 2), H.length, .ref (H.length + 1), H ++ .list (zz.set p w) :: .dictW kvs' :: (L ++ [.tup [.w k, .ref H.length, .ref (H.length + 1)]]), ?_, Ak.app _ _ _, ⟨by simp, nS _⟩, hS.new, ?_⟩
 .rw [NN, AV s11, AV s12, AV e1, AV e2]
  simp! []
 .have := (p1 (zz.set p w)).up (Ak.app S _ [.tup [.w k, .ref H.length, .ref (H.length + 1)]])
  simpa using this
theorem AS.app {ts us : List Tr} {vs ws : List V} (h : AS S H ts vs) (h2 : AS S H us ws) : AS S H (ts ++ us) (vs ++ ws) := by
 induction ts generalizing vs with
 | nil => rw [AS] at h; rw [h]; exact h2
 | cons t ts ih =>
  rw [AS] at h
  obtain ⟨v, r, rfl, h1, h3⟩ := h
  rw [List.cons_append, AS]
  exact ⟨v, r ++ ws, rfl, h1, ih h3⟩
theorem AS.set {t : Tr} {v : V} (q : Ar S H t v) {ts : List Tr} {vs : List V} (i : Nat) (h : AS S H ts vs) : AS S H (ts.set i t) (vs.set i v) := by
 induction ts generalizing vs i with
 | nil => rw [AS] at h; rw [h]; rw [List.set_nil, List.set_nil, AS]
 | cons u ts ih =>
  rw [AS] at h
  obtain ⟨w, r, rfl, h1, h3⟩ := h
  cases i with
  | zero => rw [List.set_cons_zero, List.set_cons_zero, AS]; exact ⟨v, r, rfl, q, h3⟩
  | succ i => rw [List.set_cons_succ, List.set_cons_succ, AS]; exact ⟨w, _, rfl, h1, ih i h3⟩
theorem AS.nulls : ∀ {n : Nat}, AS S H (List.replicate n .null) (List.replicate n (.w 6))
 | 0 => by rw [List.replicate_zero, List.replicate_zero, AS]
 | n + 1 => by rw [List.replicate_succ, List.replicate_succ, AS]; exact ⟨_, _, rfl, DV, AS.nulls⟩
theorem AS.len {ts : List Tr} {vs : List V} (h : AS S H ts vs) : vs.length = ts.length := (Eo.mp h).len
theorem M7 {v0 ky put u nv : V} {e3 e10 : Option V} {p al b : Nat} {zs : List V} {ts : List Tr} {q : Tr} {ns : Option (List V)} {mo : Option V}
  (hS : CH S H) (hb : At S H b (.list zs)) (hts : AS S H ts zs) (hu : Dk S H ns u) (hn : JF S H ns nv) (hal : At S H al (.list mo.toList)) (hmo : ts.length <= p -> ts.length + mo.toList.length <= p + 1) (hnl : JG ts.length ns) (hp : p <= 100) (hz : ts.length <= 100) (hq : Ar S H q put) :
  W S (bnd (Ae (AI Ab d) JB [some v0, some ky, some put, e3, some (.w 7), some (.ref b), some u, some (.int ts.length), some nv, some (.int p), e10, some (.ref al), none]) CQ) H fun r H' => Ar S H' (.list ((ts ++ List.replicate (p + 1 - ts.length) Tr.null).set p q) (BA ts.length ns mo p)) r := by
 have hl := hts.len
 obtain ⟨a1, b1, u1, G, e, x, q1, q2, q3⟩ := OB (Ab := Ab) (d := d) (v0 := v0) (ky := ky) (put := put) (e3 := e3) (e10 := e10) (k := 7) (w := put) hS hb hu hn hal (by rw [hl]; exact hmo) (by rw [hl]; exact hnl) hp (by omega) (fun e12 c L h1 h2 => by
  simp only [F7, if_true] at h1 h2 ⊢
  generalize hzz : zs ++ List.replicate (p + 1 - zs.length) (V.w 6) = zz at h1 h2 ⊢
  have h1' : (p : Int) < (zz.length : Int) := by omega
  simp! [h1', h1, h2])
 rw [hl] at e q2 q3
 refine ⟨_, G, e, x, ?_⟩
 dsimp only
 rw [Ar]
 refine ⟨a1, b1, u1, _, rfl, q1, q2, (((hts.app AS.nulls).set hq p).up x), q3⟩
theorem Ng {v0 ky u nv y : V} {e3 e10 : Option V} {k kq p al b aq bq : Nat} {uq : V} {xs : List V} {ns : Option (List V)} {mo : Option V}
  (hk : k = 8 \/ k = 9) (hS : CH S H) (hb : At S H b (.list xs)) (hu : Dk S H ns u) (hn : JF S H ns nv) (hal : At S H al (.list mo.toList)) (hmo : xs.length <= p -> xs.length + mo.toList.length <= p + 1) (hnl : JG xs.length ns) (hp : p <= 100) (hz : xs.length <= 100)
  (hq : At S H aq (.tup [.w kq, .ref bq, uq])) (hq2 : At S H bq (.list [y])) (hy : kq = 8 -> k = 9 -> ∃ i : Int, y = .int i /\ 0 <= i /\ i <= 100000) (hkk : kq = 9 -> k = 9) (hkq : kq = 8 \/ kq = 9) :
  W S (bnd (Ae (AI Ab d) JB [some v0, some ky, some (.ref aq), e3, some (.w k), some (.ref b), some u, some (.int xs.length), some nv, some (.int p), e10, some (.ref al), none]) CQ) H fun r H' => Ar S H' (.atom k ((xs ++ List.replicate (p + 1 - xs.length) V.none).set p (one kq k y)) (BA xs.length ns mo p)) r := by
 have k7 : ¬ k = 7 := by omega
 obtain ⟨a1, b1, u1, G, e, x, q1, q2, q3⟩ := OB (Ab := Ab) (d := d) (v0 := v0) (ky := ky) (put := .ref aq) (e3 := e3) (e10 := e10) (k := k) (w := one kq k y) hS hb hu hn hal hmo hnl hp hz (fun e12 c L h1 h2 => by
  simp only [F7, if_neg k7] at h1 h2 ⊢
  generalize hzz : xs ++ List.replicate (p + 1 - xs.length) V.none = zz at h1 h2 ⊢
  have h1' : (p : Int) < (zz.length : Int) := by omega
  have hA := Dx hq
  have hB := Dx hq2
  have k7' : (k == 7) = false := by simpa using k7
  rcases hk with rfl | rfl
  .rcases hkq with rfl | rfl
   .simp! [h1', h1, h2, hA, hB, one]
   .simp at hkk
  .rcases hkq with rfl | rfl
   .obtain ⟨i, rfl, h3, h4⟩ := hy rfl rfl
    simp! [h1', h1, h2, hA, hB, one, Gs, h3, h4]
   .simp! [h1', h1, h2, hA, hB, one])
 refine ⟨_, G, e, x, ?_⟩
 dsimp only
 rw [Ar]
 simp only [F7, if_neg k7] at q2
 exact ⟨a1, b1, u1, rfl, q1, q2, q3⟩
abbrev Lj : List (MS Fn) := (prog .AO).body.drop 7
abbrev Pi : List (MS Fn) := (prog .AO).body.drop 8
abbrev MX : MS Fn := .ifs (.and2 (.cmp .eq (.var 2) (.cst (.w 6))) (.cmp .eq (.var 4) (.cst (.w 7)))) [.ifs (.or2 (.cmp .lt (.var 9) (.cst (.int 0))) (.cmp .ge (.var 9) (.var 7))) [.ret (.var 0)] [],
   .asg 10 (.dct0), .ifs (.isNone true (.var 8)) [.setI (.var 10) (.cst (.w 5)) (.tup [.cst (.w 9), .bin .add (.cutTo (.var 8) (.var 9)) (.cutFrom (.var 8) (.bin .add (.var 9) (.cst (.int 1)))), .dct0])] [],
   .ret (.tup [.var 4, .bin .add (.cutTo (.var 5) (.var 9)) (.cutFrom (.var 5) (.bin .add (.var 9) (.cst (.int 1)))), .var 10])] []
abbrev SP : List (MS Fn) := [.asgT [4, 5, 6] (.var 0), .asg 7 (.len (.var 5)), .asg 8 (.call .Bv [.var 0]), .ifs (.cmp .eq (.var 1) (.cst (.w 10))) [.ret (.lst [.cst (.w 11), .cst (.w 28)])] [],
   .asg 9 (.call .B6 [.var 0, .var 1, .cst (.bool true)]), .ifs (.isT (.var 9) .str) [.ret (.lst [.cst (.w 11), .var 9])] []]
theorem GN : FV = SP ++ Lj := rfl
theorem J6 : Lj = MX :: Pi := rfl
theorem QB {t : Tr} {n k a b : Nat} {xs : List V} {u put : V} {e3 : Option V} {key : Gc} (hS : CH S H) (hv : Ar S H t (.ref a)) (ht : Be st n t) (C1 : t ≠ .null) (Bf : CL key) (h1 : At S H a (.tup [.w k, .ref b, u])) (h2 : At S H b (.list xs)) (hl : xs.length <= 8) :
  (∃ e G l, (Cb t.names true key = .error e \/ Cb t.names true key = .ok none /\ e = 28) /\ bnd (Ae (AI Ab (d + 2)) FV [some (.ref a), some (BY key), some put, e3, none, none, none, none, none, none, none, none, none]) CQ H = .ok (.ref l) G /\ Ak S H G /\ At S G l (.list [.w 11, .w e])) \/
  (∃ s nv G, Cb t.names true key = .ok (some s) /\ bnd (Ae (AI Ab (d + 2)) FV [some (.ref a), some (BY key), some put, e3, none, none, none, none, none, none, none, none, none]) CQ H =
   bnd (Ae (AI Ab (d + 2)) Lj [some (.ref a), some (BY key), some put, e3, some (.w k), some (.ref b), some u, some (.int xs.length), some nv, some (.int s), none, none, none]) CQ G /\ Ak S H G /\ JF S G t.names nv) := by
 have a1 := h1.1
 have b1 := h2.1
 have C7 : xs.length <= 100000 := by omega
 obtain ⟨nv, Ha, e1, x1, n1⟩ := LG (Ab := Ab) (d := d + 1) hS hv ht
 have hSa := hS.up x1
 by_cases hna : key = .na
 .subst hna
  refine .inl ⟨28, Ha ++ [.list [.w 11, .w 28]], Ha.length, .inr ⟨rfl, rfl⟩, ?_, x1.trans (Ak.app _ _ _), hSa.new (L := [])⟩
  rw [GN]
  simp! [BD, BY, a1, b1, C7, e1]
 .obtain ⟨r1, Hb, e2, x2, rfl⟩ := Pf (Ab := Ab) (d := d) (exact := true) hSa (hv.up x1) ht C1 Bf hna
  have hkv := Oe Bf hna
  generalize BY key = kv at hkv e2 ⊢
  cases hp : Cb t.names true key with
  | error e =>
   have hr : Em t.names true key = .w e := by unfold Em; rw [hp]
   rw [hr] at e2
   refine .inl ⟨e, Hb ++ [.list [.w 11, .w e]], Hb.length, .inl rfl, ?_, (x1.trans x2).trans (Ak.app _ _ _), ((hSa.up x2).new (L := []))⟩
   rw [GN]
   simp! [BD, -Fg, Qh, hkv, a1, b1, C7, e1, e2]
  | ok p =>
   cases p with
   | none =>
    cases key with
    | na => exact absurd rfl hna
    | num i => cases i <;> cases hp
    | nm k' => cases hp
   | some s =>
    have hr : Em t.names true key = .int s := by unfold Em; rw [hp]
    rw [hr] at e2
    refine .inr ⟨s, nv, Hb, rfl, ?_, x1.trans x2, n1.up x2⟩
    rw [GN]
    simp! [SP, BD, -Fg, Qh, hkv, a1, b1, C7, e1, e2]
theorem AS.erase {ts : List Tr} {vs : List V} (p : Nat) (h : AS S H ts vs) : AS S H (ts.eraseIdx p) (vs.eraseIdx p) := by
 induction ts generalizing vs p with
 | nil => rw [AS] at h; rw [h]; rw [List.eraseIdx_nil, List.eraseIdx_nil, AS]
 | cons u ts ih =>
  rw [AS] at h
  obtain ⟨w, r, rfl, h1, h3⟩ := h
  cases p with
  | zero => rw [List.eraseIdx_cons_zero, List.eraseIdx_cons_zero]; exact h3
  | succ i => rw [List.eraseIdx_cons_succ, List.eraseIdx_cons_succ, AS]; exact ⟨w, _, rfl, h1, ih i h3⟩
theorem Rd {ky u nv : V} {e3 : Option V} {a b : Nat} {zs : List V} {s : Int} {ts : List Tr} {ns : Option (List V)}
  (hS : CH S H) (hv : Ar S H (.list ts ns) (.ref a)) (hb : At S H b (.list zs)) (hts : AS S H ts zs) (hn : JF S H ns nv) (hnl : JG ts.length ns) (hz : ts.length <= 100) :
  W S (bnd (Ae (AI Ab d) Lj [some (.ref a), some ky, some (.w 6), e3, some (.w 7), some (.ref b), some u, some (.int zs.length), some nv, some (.int s), none, none, none]) CQ) H fun r H' => Ar S H' (if s < 0 \/ (ts.length : Int) <= s then .list ts ns else .list (ts.eraseIdx s.toNat) (ns.map (·.eraseIdx s.toNat))) r := by
 have hl := hts.len
 rw [J6]
 by_cases h0 : s < 0
 .refine ⟨.ref a, H, ?_, Ak.refl _ _, ?_⟩
  .simp! [h0]
  .dsimp only; rw [if_pos (.inl h0)]; exact hv
 .by_cases h1 : (ts.length : Int) <= s
  .have h1' : (zs.length : Int) <= s := by omega
   refine ⟨.ref a, H, ?_, Ak.refl _ _, ?_⟩
   .simp! [h0, h1']
   .dsimp only; rw [if_pos (.inr h1)]; exact hv
  .obtain ⟨p, rfl⟩ : ∃ p : Nat, s = (p : Int) := ⟨s.toNat, by omega⟩
   have h1' : ¬ (zs.length : Int) <= (p : Int) := by omega
   have nS : ∀ j, ¬ S (H.length + j) := fun j q => absurd (hS _ q) (by omega)
   have hb' := Dx hb
   have hb1 := hb.1
   have AR : (p : Int) <= 100000 := by omega
   have B9 : (p : Int) + 1 <= 100000 := by omega
   have hp3 : ((p : Int) + 1).toNat = p + 1 := by omega
   have hp0 : 0 <= (p : Int) + 1 := by omega
   have hz4 : zs.length <= 100000 := by omega
   have hz5 : zs.take p ++ zs.drop (p + 1) = zs.eraseIdx p := (List.eraseIdx_eq_take_drop_succ ..).symm
   have hz6 : min p zs.length + (zs.length - (p + 1)) <= 100000 := by omega
   simp only [if_neg (not_or.mpr ⟨h0, h1⟩), Int.toNat_natCast]
   cases ns with
   | none =>
    cases hn
    refine ⟨.ref (H.length + 4), H ++ [.dictW [], .list (zs.take p), .list (zs.drop (p + 1)), .list (zs.eraseIdx p), .tup [.w 7, .ref (H.length + 3), .ref H.length]], ?_, Ak.app _ _ _, ?_⟩
    .simp! [cutFrom, h0, h1', hb', hb1, hp0, AR, B9, hp3, hz4, hz5, hz6]
    .show Ar S _ (.list (ts.eraseIdx p) none) _
     rw [Ar]
     exact ⟨H.length + 4, H.length + 3, .ref H.length, _, rfl, ⟨by simp, nS 4⟩, ⟨by simp, nS 3⟩, (hts.erase p).up (Ak.app _ _ _), H.length, rfl, ⟨by simp, nS 0⟩⟩
   | some l =>
    obtain ⟨nl, rfl, hnl2⟩ := hn
    have hll := (hnl l rfl).2
    have hnl' := Dx hnl2
    have hnl1 := hnl2.1
    have hl4 : l.length <= 100000 := by omega
    have hl5 : l.take p ++ l.drop (p + 1) = l.eraseIdx p := (List.eraseIdx_eq_take_drop_succ ..).symm
    have hl6 : min p l.length + (l.length - (p + 1)) <= 100000 := by omega
    refine ⟨.ref (H.length + 9), H ++ [.dictW [(5, .ref (H.length + 5))], .list (l.take p), .list (l.drop (p + 1)), .list (l.eraseIdx p), .dictW [], .tup [.w 9, .ref (H.length + 3), .ref (H.length + 4)], .list (zs.take p), .list (zs.drop (p + 1)), .list (zs.eraseIdx p), .tup [.w 7, .ref (H.length + 8), .ref H.length]], ?_, Ak.app _ _ _, ?_⟩
    .simp! [cutFrom, h0, h1', hb', hb1, hnl', hnl1, hp0, AR, B9, hp3, hz4, hz5, hz6, hl4, hl5, hl6]
    .show Ar S _ (.list (ts.eraseIdx p) (some (l.eraseIdx p))) _
     rw [Ar]
     exact ⟨H.length + 9, H.length + 8, .ref H.length, _, rfl, ⟨by simp, nS 9⟩, ⟨by simp, nS 8⟩, (hts.erase p).up (Ak.app _ _ _), H.length, H.length + 5, H.length + 3, H.length + 4, rfl, ⟨by simp, nS 0⟩, ⟨by simp, nS 5⟩, ⟨by simp, nS 3⟩, ⟨by simp, nS 4⟩⟩
abbrev Dv : MS Fn := .ifs (.cmp .ne (.var 4) (.cst (.w 7))) [.ifs (.or2 (.cmp .eq (.var 2) (.cst (.w 6))) (.cmp .eq (.idx (.var 2) (.cst (.int 1))) (.lst []))) [.ret (.lst [.cst (.w 11), .cst (.w 33)])] [],
   .ifs (.cmp .gt (.len (.idx (.var 2) (.cst (.int 1)))) (.cst (.int 1))) [.ret (.lst [.cst (.w 11), .cst (.w 34)])] [],
   .ifs (.cmp .eq (.idx (.var 2) (.cst (.int 0))) (.cst (.w 7))) [.asgT [4, 5, 6] (.call .AW [.var 0])] [.ifs (.and2 (.cmp .eq (.idx (.var 2) (.cst (.int 0))) (.cst (.w 9))) (.cmp .eq (.var 4) (.cst (.w 8)))) [.asgT [4, 5] (.tup [.cst (.w 9), .comp (.strOf (.var 13)) (.var 5)])] []]] []
theorem MI : Pi = .asg 11 (.ite (.cmp .lt (.var 9) (.cst (.int 0))) (.lst [.var 1]) (.lst [])) :: .asg 9 (.ite (.cmp .lt (.var 9) (.cst (.int 0))) (.var 7) (.var 9)) :: Dv :: JB := rfl
theorem W.seq {C : Ef Fn} {s : MS Fn} {r : List (MS Fn)} {env Aj : Mine.Env} {Q : V -> MH -> Prop} (h : Ai C s env H = .ok (Aj, none) H') (x : Ak S H H') (w : W S (bnd (Ae C r Aj) CQ) H' Q) : W S (bnd (Ae C (s :: r) env) CQ) H Q := by
 obtain ⟨v, G, e, x2, p⟩ := w
 exact ⟨v, G, by rw [AV h]; exact e, x.trans x2, p⟩
theorem OV {k : Nat} {xs : List V} : xs.map (one k k) = xs := by
 induction xs with
 | nil => rfl
 | cons x xs ih => rw [List.map_cons, ih]; simp [one]
theorem Lp {ky u nv put : V} {e3 : Option V} {k a p al b m : Nat} {xs : List V} {ns : Option (List V)} {mo : Option V} {q : Tr}
  (hk : k = 8 \/ k = 9) (hS : CH S H) (hv : Ar S H (.atom k xs ns) (.ref a)) (hb : At S H b (.list xs)) (hu : Dk S H ns u) (hn : JF S H ns nv) (hal : At S H al (.list mo.toList)) (hmo : xs.length <= p -> xs.length + mo.toList.length <= p + 1) (hnl : JG xs.length ns) (hp : p <= 100) (hz : xs.length <= 8)
  (hi : k = 8 -> ∀ x ∈ xs, ∃ i : Int, x = .int i /\ 0 <= i /\ i <= 100000) (hq : Ar S H q put) (Ez : Be true m q) :
  W S (bnd (Ae (AI Ab (d + 1)) (Dv :: JB) [some (.ref a), some ky, some put, e3, some (.w k), some (.ref b), some u, some (.int xs.length), some nv, some (.int p), none, some (.ref al), none]) CQ) H fun r H' => BJ S H' (DP (.atom k xs ns) p mo q) r := by
 have k7 : ¬ k = 7 := by omega
 have k7' : (k == 7) = false := by simpa using k7
 by_cases hqn : q = .null
 .subst hqn
  rw [Ar] at hq
  subst hq
  refine ⟨.ref H.length, H ++ [.list [.w 11, .w 33]], ?_, Ak.app _ _ _, H.length, rfl, hS.new⟩
  simp! [Dv, k7, k7']
 .obtain ⟨kq, aq, bq, vs, uq, hkq, rfl, h1, h2, h3, h4, h5, h6, h7⟩ := CB hq Ez hqn
  have a1 := h1.1
  have a1' := Dx h1
  have b1 := Dx h2
  have hvl : vs.length <= 100000 := by omega
  have xe : Ak S H (H ++ [An.list []]) := Ak.app _ _ _
  have hSe := hS.up xe
  have nS : ∀ j, ¬ S (H.length + j) := fun j q => absurd (hS _ q) (by omega)
  rcases vs with _ | ⟨y, _ | ⟨y2, r⟩⟩
  .have he : DP (.atom k xs ns) p mo q = .error 33 := by
    cases q with
    | null => exact absurd rfl hqn
    | atom _ ys _ => cases ys with
     | nil => rfl
     | cons _ _ => simp [Tr.len] at h4
    | list us _ => cases us with
     | nil => rfl
     | cons _ _ => simp [Tr.len] at h4
   rw [he]
   refine ⟨.ref (H.length + 1), H ++ [.list [], .list [.w 11, .w 33]], ?_, Ak.app _ _ _, H.length + 1, rfl, by simp, nS 1⟩
   simp! [Dv, k7, k7', a1, a1', b1]
  .-- one item
   cases Ez with
   | null => exact absurd rfl hqn
   | @atom _ kq2 ys nsq hkq2 hxq hnq hiq =>
    have h7n : ¬ kq = 7 := fun h => by obtain ⟨_, _, e⟩ := h7.mp h; cases e
    have h7n' : (kq == 7) = false := by simpa using h7n
    rw [Ar] at hq
    obtain ⟨a', b', t', e, q1, q2, q3⟩ := hq
    cases e
    have e3 := q1.1.symm.trans a1
    simp at e3
    obtain ⟨rfl, rfl, rfl⟩ := e3
    have e4 := q2.1.symm.trans h2.1
    simp at e4
    subst e4
    have hpa : DP (.atom k xs ns) p mo (.atom kq2 [y] nsq) = .ok (.atom (if k = 8 /\ kq2 = 8 then 8 else 9) ((xs.map (one k (if k = 8 /\ kq2 = 8 then 8 else 9)) ++ List.replicate (p + 1 - xs.length) V.none).set p (one kq2 (if k = 8 /\ kq2 = 8 then 8 else 9) y)) (BA xs.length ns mo p)) := rfl
    rw [hpa]
    by_cases hc : k = 8 /\ kq2 = 9
    .obtain ⟨rfl, rfl⟩ := hc
     have eE : By (fun x => bnd (Aa (AI Ab (d + 1)) (.strOf (.var 13)) ([some (.ref a), some ky, some (.ref aq), e3, some (.w 8), some (.ref b), some u, some (.int xs.length), some nv, some (.int p), none, some (.ref al), none] ++ [some x])) fun y => ret (some y)) (stays (.ref b) (.list xs)) xs (H ++ [An.list []]) = .ok (xs.map Gs) (H ++ [An.list []]) :=
      J5 (CT (Dx hb _)) fun x hx => by
       obtain ⟨i, rfl, h0, h1⟩ := hi rfl x hx
       simp! [h0, h1, Gs]
     simp! [] at eE
     have hb1 := Dx hb
     have hxl : xs.length <= 100000 := by omega
     have x2 : Ak S H (H ++ [An.list [], .list (xs.map Gs), .tup [.w 9, .ref (H.length + 1)]]) := Ak.app _ _ _
     have st : Ai (AI Ab (d + 1)) Dv [some (.ref a), some ky, some (.ref aq), e3, some (.w 8), some (.ref b), some u, some (.int xs.length), some nv, some (.int p), none, some (.ref al), none] H =
       .ok ([some (.ref a), some ky, some (.ref aq), e3, some (.w 9), some (.ref (H.length + 1)), some u, some (.int xs.length), some nv, some (.int p), none, some (.ref al), none], none) (H ++ [An.list [], .list (xs.map Gs), .tup [.w 9, .ref (H.length + 1)]]) := by
      simp! [Dv, BD, a1, a1', b1, C8, hb1, hxl, eE]
     have := Ng (Ab := Ab) (d := d + 1) (v0 := .ref a) (ky := ky) (e3 := e3) (e10 := none) (k := 9) (kq := 9) (xs := xs.map Gs) (mo := mo) (.inr rfl) (hS.up x2) (b := H.length + 1) ⟨by simp, nS 1⟩ (hu.up x2) (hn.up x2) (hal.upL x2) (by simpa using hmo) (by simpa using hnl) hp (by simp; omega) (h1.upT x2) (h2.upL x2) (by intro h; cases h) (fun _ => rfl) (.inr rfl)
     simp only [List.length_map] at this
     exact W.seq st x2 this
    .have st : Ai (AI Ab (d + 1)) Dv [some (.ref a), some ky, some (.ref aq), e3, some (.w k), some (.ref b), some u, some (.int xs.length), some nv, some (.int p), none, some (.ref al), none] H =
       .ok ([some (.ref a), some ky, some (.ref aq), e3, some (.w k), some (.ref b), some u, some (.int xs.length), some nv, some (.int p), none, some (.ref al), none], none) (H ++ [An.list []]) := by
      rcases hk with rfl | rfl
      .rcases hkq2 with rfl | rfl
       .simp! [Dv, BD, a1, a1', b1]
       .exact absurd ⟨rfl, rfl⟩ hc
      .rcases hkq2 with rfl | rfl
       .simp! [Dv, BD, a1, a1', b1]
       .simp! [Dv, BD, a1, a1', b1]
     have hk' : (if k = 8 /\ kq2 = 8 then 8 else 9) = k := by
      rcases hk with rfl | rfl
      .rcases hkq2 with rfl | rfl
       .rfl
       .exact absurd ⟨rfl, rfl⟩ hc
      .rfl
     rw [hk', OV]
     exact W.seq st xe (Ng (Ab := Ab) (d := d + 1) (mo := mo) hk hSe (hb.upL xe) (hu.up xe) (hn.up xe) (hal.upL xe) hmo hnl hp (by omega) (h1.upT xe) (h2.upL xe) (fun h8 _ => (hiq.2 rfl).2 h8 y (by simp)) (fun h => by omega) hkq2)
   | @list _ us nsq hus hnq hs5 hts =>
    have h7 := h7.mpr ⟨_, _, rfl⟩
    subst h7
    obtain ⟨w, rfl⟩ : ∃ w, us = [w] := by
     rcases us with _ | ⟨w, _ | ⟨_, _⟩⟩
     .simp [Tr.len] at h4
     .exact ⟨w, rfl⟩
     .simp [Tr.len] at h4
    obtain ⟨r, H2, e2, x2, p2⟩ := IR (Ab := Ab) (d := d) hSe (hv.up xe) hz
    rw [Ar] at p2
    obtain ⟨a3, b3, t3, vs3, rfl, q1, q2, q3, q4⟩ := p2
    have q1' := q1.1
    have st : Ai (AI Ab (d + 1)) Dv [some (.ref a), some ky, some (.ref aq), e3, some (.w k), some (.ref b), some u, some (.int xs.length), some nv, some (.int p), none, some (.ref al), none] H =
      .ok ([some (.ref a), some ky, some (.ref aq), e3, some (.w 7), some (.ref b3), some t3, some (.int xs.length), some nv, some (.int p), none, some (.ref al), none], none) H2 := by
     simp! [Dv, BD, k7, k7', a1, a1', b1, e2, q1']
    have xx := xe.trans x2
    have := M7 (Ab := Ab) (d := d + 1) (v0 := .ref a) (ky := ky) (e3 := e3) (e10 := none) (ts := xs.map fun x => Tr.atom k [x] none) (p := p) (mo := mo) (hS.up xx) q2 q3 q4 (hn.up xx) (hal.upL xx) (by simpa using hmo) (by simpa using hnl) hp (by simp; omega) (hq.up xx)
    simp only [List.length_map] at this
    exact W.seq st xx this
  .have he : DP (.atom k xs ns) p mo q = .error 34 := by
    cases q with
    | null => exact absurd rfl hqn
    | atom _ ys _ => rcases ys with _ | ⟨_, _ | ⟨_, _⟩⟩ <;> first | rfl | simp [Tr.len] at h4
    | list us _ => rcases us with _ | ⟨_, _ | ⟨_, _⟩⟩ <;> first | rfl | simp [Tr.len] at h4
   rw [he]
   have h9 : r.length + 1 + 1 <= 100000 := by simpa using hvl
   have h8 : 1 < (r.length : Int) + 1 + 1 := by omega
   refine ⟨.ref (H.length + 1), H ++ [.list [], .list [.w 11, .w 34]], ?_, Ak.app _ _ _, H.length + 1, rfl, by simp, nS 1⟩
   simp! [Dv, k7, k7', a1, a1', b1, h9, h8]
abbrev EM : MS Fn := .ifs (.cmp .eq (.var 0) (.cst (.w 6))) [.ifs (.cmp .eq (.var 2) (.cst (.w 6))) [.ret (.cst (.w 6))] [],
   .asg 3 (.and2 (.cmp .ne (.idx (.var 2) (.cst (.int 0))) (.cst (.w 7))) (.cmp .eq (.len (.idx (.var 2) (.cst (.int 1)))) (.cst (.int 1)))), .asg 0 (.tup [.ite (.var 3) (.idx (.var 2) (.cst (.int 0))) (.cst (.w 7)), .lst [],
   .dct0])] []
theorem Qj : (prog .AO).body = EM :: FV := rfl
theorem On {t q : Tr} {put ky u nv : V} {e3 : Option V} {k a p al b n m : Nat} {xs : List V} {mo : Option V}
  (hS : CH S H) (hv : Ar S H t (.ref a)) (ht : Be true n t) (C1 : t ≠ .null) (h1 : At S H a (.tup [.w k, .ref b, u])) (hb : At S H b (.list xs)) (hn : JF S H t.names nv) (hal : At S H al (.list mo.toList)) (hmo : t.len <= p -> t.len + mo.toList.length <= p + 1) (hp : p <= 100)
  (hq : Ar S H q put) (Ez : Be st m q) (hsq : st = true \/ ∃ ts ns, t = .list ts ns) (BN : xs.length = t.len) :
  W S (bnd (Ae (AI Ab (d + 1)) (Dv :: JB) [some (.ref a), some ky, some put, e3, some (.w k), some (.ref b), some u, some (.int xs.length), some nv, some (.int p), none, some (.ref al), none]) CQ) H fun r H' => BJ S H' (DP t p mo q) r := by
 cases ht with
 | null => exact absurd rfl C1
 | @atom _ k2 xs2 ns2 hk2 hx2 hn2 hi2 =>
  have hst : st = true := hsq.elim id fun ⟨_, _, h⟩ => by cases h
  subst hst
  have hv' := hv
  rw [Ar] at hv
  obtain ⟨a', b', t', e, q1, q2, q3⟩ := hv
  cases e
  have e3 := q1.1.symm.trans h1.1
  simp at e3
  obtain ⟨rfl, rfl, rfl⟩ := e3
  have e4 := q2.1.symm.trans hb.1
  simp at e4
  subst e4
  exact Lp hk2 hS hv' hb q3 hn hal hmo hn2 hp hx2 (hi2.2 rfl).2 hq Ez
 | @list _ ts ns hx hn' hs4 hts =>
  rw [Ar] at hv
  obtain ⟨a', b', t', vs, e, q1, q2, q3, q4⟩ := hv
  cases e
  have e3 := q1.1.symm.trans h1.1
  simp at e3
  obtain ⟨rfl, rfl, rfl⟩ := e3
  have e4 := q2.1.symm.trans hb.1
  simp at e4
  subst e4
  have hlen' : vs.length = ts.length := BN
  rw [hlen']
  exact W.seq (H' := H) (Aj := [some (.ref a), some ky, some put, e3, some (.w 7), some (.ref b'), some t', some (.int ts.length), some nv, some (.int p), none, some (.ref al), none]) (by simp! [Dv]) (Ak.refl _ _) (M7 hS hb q3 q4 hn hal hmo hn' hp (by omega) hq)
theorem Nl {t q : Tr} {v put : V} {n m : Nat} {e3 : Option V} {key : Gc} (hS : CH S H) (hv : Ar S H t v) (ht : Be true n t) (C1 : t ≠ .null) (Bf : CL key) (hq : Ar S H q put) (Ez : Be st m q) (hsq : st = true \/ ∃ ts ns, t = .list ts ns) :
  W S (bnd (Ae (AI Ab (d + 2)) FV [some v, some (BY key), some put, e3, none, none, none, none, none, none, none, none, none]) CQ) H fun r H' => BJ S H' (Ba t key q) r := by
 obtain ⟨k, a, b, xs, u, hk, rfl, h1, h2, h3, h4, h5, h6, h7⟩ := CB hv ht C1
 rcases QB (Ab := Ab) (d := d) (put := put) (e3 := e3) hS hv ht C1 Bf h1 h2 (by omega) with ⟨e, G, l, hp, e1, x1, q1⟩ | ⟨s, nv, G, hp, e1, x1, n1⟩
 .have : Ba t key q = .error e := by
   rcases hp with hp | ⟨hp, rfl⟩
   .simp [Ba, hp]
   .simp [Ba, hp]
  rw [this]
  exact ⟨.ref l, G, e1, x1, l, rfl, q1⟩
 .have hSG := hS.up x1
  suffices h : W S (bnd (Ae (AI Ab (d + 2)) Lj [some (.ref a), some (BY key), some put, e3, some (.w k), some (.ref b), some u, some (.int xs.length), some nv, some (.int s), none, none, none]) CQ) G fun r H' => BJ S H' (Ba t key q) r by
   obtain ⟨r, G2, e2, x2, p⟩ := h
   exact ⟨r, G2, e1.trans e2, x1.trans x2, p⟩
  by_cases hA : q = .null /\ k = 7
  .obtain ⟨rfl, rfl⟩ := hA
   obtain ⟨ts, ns, rfl⟩ := h7.mp rfl
   have hputc : Ba (.list ts ns) key .null = .ok (if s < 0 \/ (ts.length : Int) <= s then .list ts ns else .list (ts.eraseIdx s.toNat) (ns.map (·.eraseIdx s.toNat))) := by
    unfold Ba
    rw [hp]
    dsimp only
    split <;> rfl
   rw [hputc]
   rw [Ar] at hq
   subst hq
   have hv' := hv
   rw [Ar] at hv
   obtain ⟨a', b', t', vs, e, q1, q2, q3, q4⟩ := hv
   cases e
   have e3 := q1.1.symm.trans h1.1
   simp at e3
   obtain ⟨rfl, rfl⟩ := e3
   have e4 := q2.1.symm.trans h2.1
   simp at e4
   subst e4
   exact Rd hSG (hv'.up x1) (h2.upL x1) (q3.up x1) n1 h6 (by have : ts.length <= 8 := h5; omega)
  .have hputc : Ba t key q = if s < 0 then DP t t.len (Gf key) q else DP t s.toNat none q := by
    unfold Ba
    rw [hp]
    cases t with
    | null => rfl
    | atom k' xs' ns' => rfl
    | list ts ns => cases q with
     | null => exact absurd ⟨rfl, h7.mpr ⟨_, _, rfl⟩⟩ hA
     | _ => rfl
   rw [hputc, J6, MI]
   have s7 : Ai (AI Ab (d + 2)) MX [some (.ref a), some (BY key), some put, e3, some (.w k), some (.ref b), some u, some (.int xs.length), some nv, some (.int s), none, none, none] G = .ok ([some (.ref a), some (BY key), some put, e3, some (.w k), some (.ref b), some u, some (.int xs.length), some nv, some (.int s), none, none, none], none) G := by
    by_cases hqn : q = .null
    .subst hqn
     rw [Ar] at hq
     subst hq
     have k7 : ¬ k = 7 := fun h => hA ⟨rfl, h⟩
     have k7' : (k == 7) = false := by simpa using k7
     simp! [MX, k7, k7']
    .obtain ⟨kq, aq, bq, vs, uq, hkq, rfl, g1, _⟩ := CB (hq.up x1) Ez hqn
     have g1' := g1.1
     simp! [MX, g1']
   refine W.seq s7 (Ak.refl _ _) ?_
   by_cases h0 : s < 0
   .rw [if_pos h0]
    cases key with
    | na => cases hp
    | num i =>
     cases i with
     | zero => cases hp
     | succ i => cases hp; omega
    | nm k' =>
     have xe : Ak S G (G ++ [An.list [.w k']]) := Ak.app _ _ _
     refine W.seq (Aj := [some (.ref a), some (BY (.nm k')), some put, e3, some (.w k), some (.ref b), some u, some (.int xs.length), some nv, some (.int s), none, some (.ref G.length), none]) (H' := G ++ [An.list [.w k']]) (by simp! [h0, BY]) xe ?_
     refine W.seq (Aj := [some (.ref a), some (BY (.nm k')), some put, e3, some (.w k), some (.ref b), some u, some (.int xs.length), some nv, some (.int t.len), none, some (.ref G.length), none]) (H' := G ++ [An.list [.w k']]) (by simp! [h0, h4]) (Ak.refl _ _) ?_
     have xx := x1.trans xe
     exact On (d := d + 1) (mo := some (.w k')) (hS.up xx) (hv.up xx) ht C1 (h1.upT xx) (h2.upL xx) (n1.up xe) hSG.new (by intro _; simp) (by omega) (hq.up xx) Ez hsq h4
   .rw [if_neg h0]
    obtain ⟨p, rfl⟩ : ∃ p : Nat, s = (p : Int) := ⟨s.toNat, by omega⟩
    have hp9 : p <= 100 := by
     cases key with
     | na => cases hp
     | num i =>
      have : i <= 6 := Bf
      cases i with
      | zero => cases hp
      | succ i => cases hp; omega
     | nm k' =>
      have h2 : A0 t.names k' true = (p : Int) := by
       have : (Except.ok (some (A0 t.names k' true)) : Except Nat (Option Int)) = .ok (some (p : Int)) := hp
       exact Option.some.inj (Except.ok.inj this)
      have h3 := Kz (ns := t.names) (k := k') (exact := true) h6
      omega
    have xe : Ak S G (G ++ [An.list []]) := Ak.app _ _ _
    refine W.seq (Aj := [some (.ref a), some (BY key), some put, e3, some (.w k), some (.ref b), some u, some (.int xs.length), some nv, some (.int p), none, some (.ref G.length), none]) (H' := G ++ [An.list []]) (by simp! [h0]) xe ?_
    refine W.seq (Aj := [some (.ref a), some (BY key), some put, e3, some (.w k), some (.ref b), some u, some (.int xs.length), some nv, some (.int p), none, some (.ref G.length), none]) (H' := G ++ [An.list []]) (by simp! [h0]) (Ak.refl _ _) ?_
    have xx := x1.trans xe
    exact On (d := d + 1) (mo := none) (hS.up xx) (hv.up xx) ht C1 (h1.upT xx) (h2.upL xx) (n1.up xe) hSG.new (by intro h; simp; omega) hp9 (hq.up xx) Ez hsq h4
theorem Rc {v k put : V} : Bg Ab (d + 1) .AO [v, k, put] H = bnd (Ae (AI Ab d) (EM :: FV) [some v, some k, some put, none, none, none, none, none, none, none, none, none, none]) CQ H := by
 rw [Db Ab rfl rfl, Qj]
 rfl
theorem RH {t q : Tr} {v put : V} {n m : Nat} {key : Gc} (hS : CH S H) (hv : Ar S H t v) (ht : Be true n t) (Bf : CL key) (hq : Ar S H q put) (Ez : Be st m q) (hsq : st = true \/ ∃ ts ns, t = .list ts ns) :
  W S (Bg Ab (d + 3) .AO [v, BY key, put]) H fun r H' => BJ S H' (Do t key q) r := by
 suffices h : W S (bnd (Ae (AI Ab (d + 2)) (EM :: FV) [some v, some (BY key), some put, none, none, none, none, none, none, none, none, none, none]) CQ) H fun r H' => BJ S H' (Do t key q) r by
  obtain ⟨r, G, e, x, p⟩ := h
  exact ⟨r, G, by rw [Rc]; exact e, x, p⟩
 by_cases C1 : t = .null
 .subst C1
  have hst : st = true := hsq.elim id fun ⟨_, _, h⟩ => by cases h
  rw [Ar] at hv
  subst hv
  by_cases hqn : q = .null
  .subst hqn
   rw [Ar] at hq
   subst hq
   refine ⟨.w 6, H, ?_, Ak.refl _ _, (DV : Ar S H .null (.w 6))⟩
   simp! [EM]
  .obtain ⟨kq, aq, bq, vs, uq, hkq, rfl, h1, h2, h3, h4, h5, h6, h7⟩ := CB hq Ez hqn
   have a1 := h1.1
   have b1 := h2.1
   have hvl : vs.length <= 100000 := by omega
   have nS : ∀ j, ¬ S (H.length + j) := fun j q => absurd (hS _ q) (by omega)
   have go : ∀ k' e3 t', Ai (AI Ab (d + 2)) EM [some (.w 6), some (BY key), some (.ref aq), none, none, none, none, none, none, none, none, none, none] H = .ok ([some (.ref (H.length + 2)), some (BY key), some (.ref aq), some e3, none, none, none, none, none, none, none, none, none], none) (H ++ [.list [], .dictW [], .tup [.w k', .ref H.length, .ref (H.length + 1)]]) ->
     (t' = .atom k' [] none /\ (k' = 8 \/ k' = 9)) \/ (t' = .list [] none /\ k' = 7) -> Do .null key q = Ba t' key q ->
     W S (bnd (Ae (AI Ab (d + 2)) (EM :: FV) [some (.w 6), some (BY key), some (.ref aq), none, none, none, none, none, none, none, none, none, none]) CQ) H fun r H' => BJ S H' (Do .null key q) r := by
    intro k' e3 t' he ht' hpt
    have x0 : Ak S H (H ++ [An.list [], .dictW [], .tup [.w k', .ref H.length, .ref (H.length + 1)]]) := Ak.app _ _ _
    have hr : Ar S (H ++ [An.list [], .dictW [], .tup [.w k', .ref H.length, .ref (H.length + 1)]]) t' (.ref (H.length + 2)) /\ Be true 1 t' /\ t' ≠ .null := by
     rcases ht' with ⟨rfl, hk'⟩ | ⟨rfl, rfl⟩
     .refine ⟨?_, .atom hk' (by simp) (by intro l h; cases h) ⟨rfl, fun _ => ⟨by simp, by intro _ x h; cases h⟩⟩, by intro h; cases h⟩
      rw [Ar]
      exact ⟨H.length + 2, H.length, .ref (H.length + 1), rfl, ⟨by simp, nS 2⟩, ⟨by simp, nS 0⟩, H.length + 1, rfl, ⟨by simp, nS 1⟩⟩
     .refine ⟨?_, .list (by simp) (by intro l h; cases h) (by simp) (by intro x h; cases h), by intro h; cases h⟩
      rw [Ar]
      exact ⟨H.length + 2, H.length, .ref (H.length + 1), [], rfl, ⟨by simp, nS 2⟩, ⟨by simp, nS 0⟩, by rw [AS], H.length + 1, rfl, ⟨by simp, nS 1⟩⟩
    rw [hpt]
    exact W.seq he x0 (Nl (hS.up x0) hr.1 hr.2.1 hr.2.2 Bf (hq.up x0) Ez (.inl hst))
   by_cases hc : ¬ kq = 7 /\ vs.length = 1
   .obtain ⟨h7n, hv1⟩ := hc
    have h7n' : (kq == 7) = false := by simpa using h7n
    refine go kq (.bool true) (.atom kq [] none) (by simp! [EM, a1, b1, hvl, hv1, h7n, h7n']) (.inl ⟨rfl, hkq.resolve_left h7n⟩) ?_
    cases Ez with
    | null => exact absurd rfl hqn
    | @atom _ k3 xs3 ns3 hk3 hx3 hn3 hi3 =>
     rw [Ar] at hq
     obtain ⟨a', b', t', e, q1, q2, q3⟩ := hq
     cases e
     have e3 := q1.1.symm.trans a1
     simp at e3
     obtain ⟨rfl, _⟩ := e3
     have h3 : xs3.length = 1 := h4.symm.trans hv1
     rcases xs3 with _ | ⟨y, _ | ⟨_, _⟩⟩
     .cases h3
     .rfl
     .cases h3
    | list hx3 hn3 hs3 ht3 => exact absurd (h7.mpr ⟨_, _, rfl⟩) h7n
   .refine go 7 (.bool false) (.list [] none) ?_ (.inr ⟨rfl, rfl⟩) ?_
    .by_cases h7n : kq = 7
     .subst h7n
      simp! [EM, a1, b1, hvl]
     .have h7n' : (kq == 7) = false := by simpa using h7n
      have h8 : ¬ vs.length = 1 := fun h => hc ⟨h7n, h⟩
      have h9 : ((vs.length : Int) == 1) = false := by rw [beq_eq_false_iff_ne]; omega
      simp! [EM, a1, b1, hvl, h7n, h7n', h8, h9]
    .cases Ez with
     | null => exact absurd rfl hqn
     | @atom _ k3 xs3 ns3 hk3 hx3 hn3 hi3 =>
      rcases xs3 with _ | ⟨y, _ | ⟨y2, r2⟩⟩
      .rfl
      .refine absurd ⟨fun h => ?_, h4⟩ hc
       obtain ⟨_, _, e⟩ := h7.mp h
       cases e
      .rfl
     | list hx3 hn3 hs3 ht3 => rfl
 .have hp : Do t key q = Ba t key q := by
   cases t with
   | null => exact absurd rfl C1
   | _ => cases q <;> rfl
  rw [hp]
  obtain ⟨k, a, b, xs, u, hk, rfl, h1, _⟩ := CB hv ht C1
  have a1 := h1.1
  exact W.seq (H' := H) (Aj := [some (.ref a), some (BY key), some put, none, none, none, none, none, none, none, none, none, none]) (by simp! [EM, a1]) (Ak.refl _ _) (Nl hS hv ht C1 Bf hq Ez hsq)
theorem Be.weak : ∀ {t : Tr} {n N : Nat}, Be st n t -> n <= N -> Be false N t := by
 intro t n N h
 induction h generalizing N with
 | null => intro _; exact .null
 | atom hk hx hn hi => intro _; exact .atom hk hx hn ⟨hi.1, by intro h; cases h⟩
 | list hx hn hs ht ih =>
  intro h
  obtain ⟨M, rfl⟩ : ∃ M, N = M + 1 := ⟨N - 1, by omega⟩
  exact .list hx hn (by intro h; cases h) fun t hm => ih t hm (by omega)
theorem Be.up {t : Tr} {n N : Nat} (h : Be st n t) : n <= N -> Be st N t := by
 induction h generalizing N with
 | null => intro _; exact .null
 | atom hk hx hn hi => intro _; exact .atom hk hx hn hi
 | list hx hn hs ht ih =>
  intro h
  obtain ⟨M, rfl⟩ : ∃ M, N = M + 1 := ⟨N - 1, by omega⟩
  exact .list hx hn hs fun t hm => ih t hm (by omega)
theorem G8 {t t1 : Tr} {n : Nat} {key : Gc} {exact' : Bool} (ht : Be st n t) (h : Bn t key exact' = .ok t1) : Be false n t1 := by
 cases ht with
 | null => cases h; exact .null
 | @atom _ k xs ns hk hx hn hi =>
  have one : ∀ x, plain x = true -> Be false n (.atom k [x] none) := fun x hp => .atom hk (by simp) (by intro l h; cases h) ⟨by simp [hp], by intro h; cases h⟩
  unfold Bn at h
  dsimp only at h
  split at h
  .cases h
  .cases h; exact one _ rfl
  .split at h
   .cases h
   .rename_i s _ h0
    cases h
    have : s.toNat < xs.length := by omega
    rw [List.getD_eq_getElem?_getD, List.getElem?_eq_getElem this]
    exact one _ (List.all_eq_true.mp hi.1 _ (List.getElem_mem this))
 | @list _ ts ns hx hn hs hts =>
  unfold Bn at h
  dsimp only at h
  split at h
  .cases h
  .cases h; exact .null
  .split at h
   .cases h; exact .null
   .split at h
    .cases h
    .rename_i s _ h0 h1
     cases h
     have : s.toNat < ts.length := by omega
     rw [List.getD_eq_getElem?_getD, List.getElem?_eq_getElem this]
     exact (hts _ (List.getElem_mem this)).weak (by omega)
theorem FE {n p : Nat} {ns : Option (List V)} {mo : Option V} (hn : JG n ns) (hmo : n <= p -> n + mo.toList.length <= p + 1) (hm : ∀ w, mo = some w -> Ey w = true) : JG (n + (p + 1 - n)) (BA n ns mo p) := by
 intro l h
 unfold BA at h
 split at h
 .rename_i hle
  have BN := hmo hle
  have key : ∀ b : List V, b.all Ey = true -> b.length = n -> ((b ++ mo.toList) ++ List.replicate (p + 1 - (b ++ mo.toList).length) (V.w 16)).all Ey = true /\ ((b ++ mo.toList) ++ List.replicate (p + 1 - (b ++ mo.toList).length) (V.w 16)).length = n + (p + 1 - n) := fun b h1 h2 => by
   constructor
   .rw [List.all_append, List.all_append, h1]
    have : mo.toList.all Ey = true := by
     cases mo with
     | none => rfl
     | some w => simp [hm w rfl]
    rw [this]
    simp [Ey]
   .simp only [List.length_append, List.length_replicate]; omega
  cases ns with
  | some b => cases h; exact key b (hn b rfl).1 (hn b rfl).2
  | none =>
   cases mo with
   | none => cases h
   | some w => cases h; exact key (List.replicate n (.w 16)) (by simp [Ey]) (by simp)
 .obtain ⟨h1, h2⟩ := hn l h
  exact ⟨h1, by omega⟩
theorem Kj {k k' : Nat} {x : V} (h : plain x = true) : plain (one k k' x) = true := by
 unfold one
 split
 .exact h
 .cases x <;> first | rfl | cases h
theorem LC {t q t2 : Tr} {n m p N : Nat} {mo : Option V} (ht : Be true n t) (hq : Be st m q) (hp : p <= 6) (hm : ∀ w, mo = some w -> Ey w = true) (hmo : t.len <= p -> t.len + mo.toList.length <= p + 1) (h : DP t p mo q = .ok t2) (hN : n <= N) (hM : m + 1 <= N) : Be false N t2 := by
 obtain ⟨M, rfl⟩ : ∃ M, N = M + 1 := ⟨N - 1, by omega⟩
 have mem : ∀ (l : List Tr) (k : Nat), (∀ t ∈ l, Be false M t) -> ∀ t ∈ (l ++ List.replicate k Tr.null).set p q, Be false M t := fun l k hl t ht => by
  rcases List.mem_or_eq_of_mem_set ht with h | rfl
  .rcases List.mem_append.mp h with h | h
   .exact hl t h
   .rw [(List.mem_replicate.mp h).2]; exact .null
  .exact hq.weak (by omega)
 cases ht with
 | null => cases h; exact .null
 | @list d ts ns hx hn hs hts =>
  cases h
  have hs4 := hs rfl
  refine .list (by simp; omega) ?_ (by intro h; cases h) (mem _ _ fun t h => (hts t h).weak (by omega))
  rw [List.length_set, List.length_append, List.length_replicate]
  exact FE hn hmo hm
 | @atom d k xs ns hk hx hn hi =>
  have hx4 := (hi.2 rfl).1
  cases q with
  | null => cases h
  | atom kq ys nsq =>
   have hpy : ∀ y ∈ ys, plain y = true := by
    cases hq with
    | atom _ _ _ hiq => exact List.all_eq_true.mp hiq.1
   rcases ys with _ | ⟨y, _ | ⟨y2, r⟩⟩
   .cases h
   .cases h
    refine .atom (by split <;> omega) (by simp; omega) ?_ ⟨List.all_eq_true.mpr fun x hx => ?_, by intro h; cases h⟩
    rw [List.length_set, List.length_append, List.length_replicate, List.length_map]
    exact FE hn hmo hm
    rcases List.mem_or_eq_of_mem_set hx with h | rfl
    .rcases List.mem_append.mp h with h | h
     .obtain ⟨z, hz, rfl⟩ := List.mem_map.mp h
      exact Kj (List.all_eq_true.mp hi.1 z hz)
     .rw [(List.mem_replicate.mp h).2]; rfl
    .exact Kj (hpy y (by simp))
   .cases h
  | list us nsq =>
   rcases us with _ | ⟨u, _ | ⟨u2, r⟩⟩
   .cases h
   .cases h
    refine .list (by simp; omega) ?_ (by intro h; cases h) (mem _ _ fun t h => ?_)
    .rw [List.length_set, List.length_append, List.length_replicate, List.length_map]
     exact FE hn hmo hm
    .obtain ⟨x, hxm, rfl⟩ := List.mem_map.mp h
     exact .atom hk (by simp) (by intro l h; cases h) ⟨by simp [List.all_eq_true.mp hi.1 x hxm], by intro h; cases h⟩
   .cases h
theorem KG {t : Tr} {n : Nat} (h : Be true n t) : t.len <= 4 /\ JG t.len t.names := by
 cases h with
 | null => exact ⟨by simp [Tr.len], by intro l h; cases h⟩
 | atom hk hx hn hi => exact ⟨(hi.2 rfl).1, hn⟩
 | list hx hn hs ht => exact ⟨hs rfl, hn⟩
theorem GQ {t q t2 : Tr} {n m N : Nat} {key : Gc} (ht : Be true n t) (hq : Be st m q) (Bf : CL key) (h : Ba t key q = .ok t2) (hN : n <= N) (hM : m + 1 <= N) : Be false N t2 := by
 obtain ⟨h4, hn⟩ := KG ht
 unfold Ba at h
 split at h
 .cases h
 .cases h
 .rename_i s hp
  have gen : (if s < 0 then DP t t.len (Gf key) q else DP t s.toNat none q) = .ok t2 -> Be false N t2 := fun h => by
   split at h
   .refine LC ht hq (by omega) (fun w hw => ?_) (fun _ => ?_) h hN hM
    .cases key with
     | nm k => cases hw; have : 12 <= k /\ k < 18 := Bf; simpa [Ey] using this
     | _ => cases hw
    .cases key <;> simp [Gf]
   .refine LC ht hq ?_ (by intro w h; cases h) (by intro h; simp; omega) h hN hM
    cases key with
    | na => cases hp
    | num i =>
     have : i <= 6 := Bf
     cases i with
     | zero => cases hp
     | succ i => cases hp; omega
    | nm k =>
     have h2 : A0 t.names k true = s := Option.some.inj (Except.ok.inj hp)
     have h3 := Kz (ns := t.names) (k := k) (exact := true) hn
     omega
  split at h
  .rename_i ts ns
   cases ht with
   | list hx hn hs hts =>
    split at h
    .cases h; exact (Be.list (st := true) hx hn hs hts).weak hN
    .cases h
     rename_i CV
     obtain ⟨M, rfl⟩ : ∃ M, N = M + 1 := ⟨N - 1, by omega⟩
     have hsl : s.toNat < ts.length := by omega
     refine .list (by have := List.length_eraseIdx_le ts s.toNat; omega) ?_ (by intro h; cases h) fun t h => (hts t (List.mem_of_mem_eraseIdx h)).weak (by omega)
     intro l hl
     cases ns with
     | none => cases hl
     | some b =>
      cases hl
      obtain ⟨h1, h2⟩ := hn b rfl
      refine ⟨?_, by rw [List.length_eraseIdx, List.length_eraseIdx, h2]⟩
      rw [List.all_eq_true] at h1 ⊢
      exact fun x hx => h1 x (List.mem_of_mem_eraseIdx hx)
  .exact gen h
theorem GR {t q t2 : Tr} {n m N : Nat} {key : Gc} (ht : Be true n t) (hq : Be st m q) (Bf : CL key) (h : Do t key q = .ok t2) (hN : n <= N) (hM : m + 1 <= N) : Be false N t2 := by
 have nl : Be true N (.list [] none) := by
  obtain ⟨M, rfl⟩ : ∃ M, N = M + 1 := ⟨N - 1, by omega⟩
  exact .list (by simp) (by intro l h; cases h) (by simp) (by intro x h; cases h)
 unfold Do at h
 split at h
 .cases h; exact .null
 .cases hq with
  | atom hk hx hn hi => exact GQ (.atom (d := N) hk (by simp) (by intro l h; cases h) ⟨rfl, fun _ => ⟨by simp, by intro _ x h; cases h⟩⟩) (Be.atom (d := m) hk hx hn hi) Bf h (Nat.le_refl _) hM
 .exact GQ nl hq Bf h (Nat.le_refl _) hM
 .exact GQ ht hq Bf h hN hM
def NL (t1 : Tr) (j : Nat) : Except Nat Tr := match t1 with
 | .null => .error 28
 | t1 => Bn t1 (.num j) true
def Ib (t t1 : Tr) (i j : Nat) (q : Tr) : Except Nat Tr := match t1 with
 | .null => .error 36
 | t1 => match Do t1 (.num j) q with
  | .error e => .error e
  | .ok t2 => Do t (.num i) t2
theorem Bl {ix : V} {i j : Int} (hS : CH S H) (hx : Bi S H (.atom 8 [.int i, .int j] none) ix) :
  W S (Bg Ab (d + 2) .Bl [ix]) H fun r H' => ∃ l p1 p2, r = .ref l /\ At S H' l (.list [p1, p2]) /\ Bi S H' (.atom 8 [.int i] none) p1 /\ Bi S H' (.atom 8 [.int j] none) p2 := by
 obtain ⟨b0, ⟨a0, t0, sh0, rfl, q0, r0⟩, hb0⟩ := AC.mp hx
 have a1 := q0.1
 have b1 := hb0.1
 have hA := Dx q0
 have hB := Dx hb0
 have nS : ∀ j, ¬ S (H.length + j) := fun j q => absurd (hS _ q) (by omega)
 simp only [Ah] at a1 hA
 refine ⟨.ref (H.length + 4), H ++ [.list [.int i], Ah 8 H.length .none (.bool false), .list [.int j], Ah 8 (H.length + 2) .none (.bool false), .list [.ref (H.length + 1), .ref (H.length + 3)]], ?_, Ak.app _ _ _, H.length + 4, .ref (H.length + 1), .ref (H.length + 3), rfl, ⟨by simp, nS 4⟩, ?_, ?_⟩
 .simp_all! [F5, C8, By, a1, b1, hA, hB, CD]
 .rw [AC]
  exact ⟨H.length, ⟨H.length + 1, .none, .bool false, rfl, ⟨by simp, nS 1⟩, rfl⟩, by simp, nS 0⟩
 .rw [AC]
  exact ⟨H.length + 2, ⟨H.length + 3, .none, .bool false, rfl, ⟨by simp, nS 3⟩, rfl⟩, by simp, nS 2⟩
theorem Me {v ix : V} {ts : List Tr} {ns : Option (List V)} {t1 : Tr} {l n i j : Nat} (hS : CH S H) (hv : Bi S H (.list ts ns) v) (ht : Be st n (.list ts ns)) (hx : Bi S H (.atom 8 [.int ((i : Int) + 1), .int j] none) ix) (hi : i + 1 <= 6) (hj : j <= 6) (ht1 : ts[i]? = some t1) (hl : H[l]? = some (.list [ix])) :
  CZ S (Bg Ab (d + 7) .Ct [v, .ref l, .bool true]) H (NL t1 j) := by
 have e1 := Gg (Ab := Ab) (d := d + 4) hx (.inl rfl) (by simp)
 simp at e1
 obtain ⟨r2, H2, e2, x2, lp, p1, p2, rfl, hlp, AR, B9⟩ := Bl (Ab := Ab) (d := d + 4) hS hx
 have hS2 := hS.up x2
 have hE1 : Bn (.list ts ns) (.num (i + 1)) true = .ok t1 := by
  have CV : i < ts.length := (AH ht1)
  have h0 : ¬ ((i : Int) < 0) := by omega
  simp only [Bn, Cb, if_neg h0]
  rw [if_neg (by omega), Int.toNat_natCast, List.getD_eq_getElem?_getD, ht1]
  rfl
 have s1 := AM (Ab := Ab) (d := d) (exact := true) (key := .num (i + 1)) hS2 (hv.up x2) ht AR hi
 rw [hE1] at s1
 obtain ⟨v1, H3, e3, x3, hv1⟩ := s1
 have ht1' : Be st n t1 := by
  cases ht with
  | list hx hn hs hts => exact (hts t1 (List.mem_of_getElem? ht1)).up (by omega)
 obtain ⟨k1, ek1, hk6, _⟩ := Jj hv1 ht1'
 obtain ⟨b0, ⟨ax, tx, shx, rfl, qx, rx⟩, hbx⟩ := AC.mp hx
 have x1' := qx.1
 obtain ⟨bv, vs, ⟨av, tv, shv, rfl, qv, rv⟩, hbv, hrv⟩ := A2.mp hv
 have v1' := qv.1
 obtain ⟨shv2, qv2⟩ := qv.upV x2
 have v2' := qv2.1
 have l1 := Ad (Ab := Ab) (d := d + 5) (H := H) (k := 7)
 simp at l1
 have lp2 := hlp.1
 have lp3 := (hlp.upL x3).1
 have hr2 : B3 0 2 = [.int 0, .int 1] := rfl
 simp! [] at ek1
 by_cases h6 : t1 = .null
 .have k6 := hk6.mpr h6
  subst k6 h6
  refine CZ.err (e := 28) rfl ⟨H3, ?_, x2.trans x3⟩
  simp_all! [DX, CG, hl, x1', v1', e1, e2, l1, lp2, lp3, hr2, v2', e3, ek1]
 .have k6 : ¬ k1 = 6 := fun h => h6 (hk6.mp h)
  have k6' : (k1 == 6) = false := by simpa using k6
  have s2 := AM (Ab := Ab) (d := d) (exact := true) (key := .num j) (hS2.up x3) hv1 ht1' (B9.up x3) hj
  have hE2 : NL t1 j = Bn t1 (.num j) true := by
   cases t1 with
   | null => exact absurd rfl h6
   | _ => rfl
  rw [hE2]
  refine CZ.up s2 (x2.trans x3) (fun v G e4 => ?_) fun n G e4 => ?_
  .simp_all! [DX, CG, hl, x1', v1', e1, e2, l1, lp2, lp3, hr2, v2', e3, ek1, k6, k6', e4]
  .simp_all! [DX, CG, hl, x1', v1', e1, e2, l1, lp2, lp3, hr2, v2', e3, ek1, k6, k6', e4]
theorem IJ {v p1 p2 val notes : V} {ts : List Tr} {ns : Option (List V)} {t1 q : Tr} {l n m i j : Nat} (hS : CH S H) (hv : Bi S H (.list ts ns) v) (ht : Be true n (.list ts ns)) (AR : Bi S H (.atom 8 [.int ((i : Int) + 1)] none) p1) (B9 : Bi S H (.atom 8 [.int j] none) p2) (hi : i + 1 <= 6) (hj : j <= 6) (ht1 : ts[i]? = some t1) (hl : At S H l (.list [p1, p2])) (hq : Bi S H q val) (Ez : Be true m q) :
  CZ S (Bg Ab (d + 12) .Bs [v, .ref l, val, notes]) H (Ib (.list ts ns) t1 (i + 1) j q) := by
 have hE1 : Bn (.list ts ns) (.num (i + 1)) true = .ok t1 := by
  have CV : i < ts.length := (AH ht1)
  have h0 : ¬ ((i : Int) < 0) := by omega
  simp only [Bn, Cb, if_neg h0]
  rw [if_neg (by omega), Int.toNat_natCast, List.getD_eq_getElem?_getD, ht1]
  rfl
 have s1 := AM (Ab := Ab) (d := d + 5) (exact := true) (key := .num (i + 1)) hS hv ht AR hi
 rw [hE1] at s1
 obtain ⟨v1, H3, e3, x3, hv1⟩ := s1
 have ht1' : Be true n t1 := by
  cases ht with
  | list hx hn hs hts => exact (hts t1 (List.mem_of_getElem? ht1)).up (by omega)
 obtain ⟨k1, ek1, hk6, _⟩ := Jj hv1 ht1'
 obtain ⟨bv, vs, ⟨av, tv, shv, rfl, qv, rv⟩, hbv, hrv⟩ := A2.mp hv
 have v1' := qv.1
 have e0 := AD (Ab := Ab) (d := d + 10) qv
 have l1' := hl.1
 have l3' := (hl.upL x3).1
 simp! [] at ek1
 by_cases h6 : t1 = .null
 .have k6 := hk6.mpr h6
  subst k6 h6
  refine CZ.err (e := 36) rfl ⟨H3, ?_, x3⟩
  simp_all! [BK, cutFrom, v1', e0, l1', e3, ek1]
 .have k6 : ¬ k1 = 6 := fun h => h6 (hk6.mp h)
  have k6' : (k1 == 6) = false := by simpa using k6
  have hS3 := hS.up x3
  have xa : Ak S H3 (H3 ++ [An.list [p2]]) := Ak.app _ _ _
  have xb := x3.trans xa
  have s2 := FR (Ab := Ab) (d := d) (notes := notes) (l := H3.length) (key := .num j) (hS3.up xa) (hv1.up xa) ht1' (B9.up xb) hj (hq.up xb) Ez (.inl rfl) (by simp)
  have hE2 : Ib (.list ts ns) t1 (i + 1) j q = match Do t1 (.num j) q with
    | .error e => .error e
    | .ok t2 => Do (.list ts ns) (.num (i + 1)) t2 := by
   cases t1 with
   | null => exact absurd rfl h6
   | _ => rfl
  rw [hE2]
  cases hp : Do t1 (.num j) q with
  | error e =>
   rw [hp] at s2
   obtain ⟨G, e4, x4⟩ := s2
   refine ⟨G, ?_, xb.trans x4⟩
   simp_all! [BK, cutFrom, v1', e0, l1', l3', e3, ek1, k6, k6', e4]
  | ok t2 =>
   rw [hp] at s2
   obtain ⟨v2, G, e4, x4, hv2⟩ := s2
   have xc := xb.trans x4
   have hok2 := GR (N := max n (m + 1)) ht1' Ez (key := .num j) hj hp (by omega) (by omega)
   have s3 := AB (Ab := Ab) (d := d + 1) (notes := notes) (key := .num (i + 1)) (hS.up xc) (hv.up xc) ht (AR.up xc) hi hv2 hok2 (.inr ⟨_, _, rfl⟩)
   refine CZ.up s3 xc (fun v G e5 => ?_) fun n G e5 => ?_
   .simp_all! [BK, cutFrom, v1', e0, l1', l3', e3, ek1, k6, k6', e4, e5]
   .simp_all! [BK, cutFrom, v1', e0, l1', l3', e3, ek1, k6, k6', e4, e5]
theorem Hj {v ix val notes : V} {ts : List Tr} {ns : Option (List V)} {t1 q : Tr} {l n m i j : Nat} (hS : CH S H) (hv : Bi S H (.list ts ns) v) (ht : Be true n (.list ts ns)) (hx : Bi S H (.atom 8 [.int ((i : Int) + 1), .int j] none) ix) (hi : i + 1 <= 6) (hj : j <= 6) (ht1 : ts[i]? = some t1) (hl : H[l]? = some (.list [ix])) (hq : Bi S H q val) (Ez : Be true m q) :
  CZ S (Bg Ab (d + 13) .A1 [v, .ref l, val, notes]) H (Ib (.list ts ns) t1 (i + 1) j q) := by
 have e1 := Gg (Ab := Ab) (d := d + 10) hx (.inl rfl) (by simp)
 simp at e1
 obtain ⟨r2, H2, e2, x2, lp, p1, p2, rfl, hlp, AR, B9⟩ := Bl (Ab := Ab) (d := d + 10) hS hx
 have s := IJ (Ab := Ab) (d := d) (notes := notes) (hS.up x2) (hv.up x2) ht AR B9 hi hj ht1 hlp (hq.up x2) Ez
 obtain ⟨b0, ⟨ax, tx, shx, rfl, qx, rx⟩, hbx⟩ := AC.mp hx
 have x1' := qx.1
 obtain ⟨bv, vs, ⟨av, tv, shv, rfl, qv, rv⟩, hbv, hrv⟩ := A2.mp hv
 have v1' := qv.1
 have l1 := Ad (Ab := Ab) (d := d + 11) (H := H) (k := 7)
 simp at l1
 refine CZ.up s x2 (fun v G e5 => ?_) fun n G e5 => ?_
 .simp_all! [Cz, hl, x1', v1', e1, e2, l1, e5]
 .simp_all! [Cz, hl, x1', v1', e1, e2, l1, e5]
def Ep : Tr -> Tr
 | .null => .list [] none
 | .atom k xs ns => .list (xs.map fun x => .atom k [x] none) ns
 | .list ts ns => .list ts ns
def EK : Tr -> List V
 | .atom _ (_ :: _) _ => [.w 37]
 | _ => []
theorem Nh {t : Tr} {n : Nat} (ht : Be true n t) : Be true (n + 1) (Ep t) /\ Ep t ≠ .null := by
 cases ht with
 | null => exact ⟨.list (by simp) (by intro l h; cases h) (by simp) (by intro x h; cases h), by intro h; cases h⟩
 | @atom _ k xs ns hk hx hn hi =>
  refine ⟨.list (by simpa using hx) (by simpa using hn) (fun _ => by simpa using (hi.2 rfl).1) fun t h => ?_, by intro h; cases h⟩
  obtain ⟨x, hm, rfl⟩ := List.mem_map.mp h
  exact .atom hk (by simp) (by intro l h; cases h) ⟨by simp [List.all_eq_true.mp hi.1 x hm], fun _ => ⟨by simp, fun h8 y hy => by rw [List.mem_singleton.mp hy]; exact (hi.2 rfl).2 h8 x hm⟩⟩
 | list hx hn hs hts => exact ⟨(Be.list hx hn hs hts).up (by omega), by intro h; cases h⟩
theorem Ji {na : Nat} {c : An} (h : H[na]? = some c) : H.set na c = H := by
 apply List.ext_getElem?
 intro i
 by_cases hi : na = i
 .subst hi; rw [Ew (AH h), h]
 .rw [Cq hi]
theorem NF {t q : Tr} {v val : V} {k na n m : Nat} (hS : CH S H) (hna : H[na]? = some (.list [])) (hv : Bi (fun x => S x \/ x = na) H t v) (ht : Be true n t) (hk : 12 <= k /\ k < 18) (hq : Bi (fun x => S x \/ x = na) H q val) (Ez : Be true m q) :
  CZ S (fun _ => Bg Ab (d + 11) .AL [v, .w k, val, .ref na] H) (H.set na (.list (EK t))) (Ba (Ep t) (.nm k) q) := by
 obtain ⟨hb1, hb2⟩ := Nh ht
 have hput : Do (Ep t) (.nm k) q = Ba (Ep t) (.nm k) q := by
  cases t <;> cases q <;> rfl
 rw [<- hput]
 have xs0 : ∀ c, Ak (fun x => S x \/ x = na) H (H.set na c) := fun c => Ak.set (.inr rfl)
 have hvS : ∀ c, Bi S (H.set na c) t v := fun c => (hv.up (xs0 c)).chg fun x _ h => .inl h
 have hqS : ∀ c, Bi S (H.set na c) q val := fun c => (hq.up (xs0 c)).chg fun x _ h => .inl h
 have fin : ∀ (G : MH) (r : V), CH S G -> Bi S G (Ep t) r -> Bi S G q val -> ∀ m' : M V, (∀ v G', Bg Ab (d + 10) .AB [r, .ref (G.length + 2), val, .ref na] (G ++ [.list [.w k], .list [.w k], Ah 9 (G.length + 1) .none (.bool false)]) = .ok v G' -> m' H = .ok v G') -> (∀ e G', Bg Ab (d + 10) .AB [r, .ref (G.length + 2), val, .ref na] (G ++ [.list [.w k], .list [.w k], Ah 9 (G.length + 1) .none (.bool false)]) = .exc e G' -> m' H = .exc e G') -> CZ S (fun _ => m' H) G (Do (Ep t) (.nm k) q) := by
  intro G r hSG hr hqG m' h1 h2
  have x0 : Ak S G (G ++ [An.list [.w k], .list [.w k], Ah 9 (G.length + 1) .none (.bool false)]) := Ak.app _ _ _
  have nS : ∀ j, ¬ S (G.length + j) := fun j q => absurd (hSG _ q) (by omega)
  have hx : Bi S (G ++ [An.list [.w k], .list [.w k], Ah 9 (G.length + 1) .none (.bool false)]) (D8 (.nm k)) (.ref (G.length + 2)) := by
   rw [D8, AC]
   exact ⟨G.length + 1, ⟨G.length + 2, .none, .bool false, rfl, ⟨by simp, nS 2⟩, rfl⟩, by simp, nS 1⟩
  exact CZ.up (AB (Ab := Ab) (d := d) (notes := .ref na) (key := .nm k) (hSG.up x0) (hr.up x0) hb1 hx hk (hqG.up x0) Ez (.inl rfl)) x0 (fun v G' e => h1 v G' e) fun e G' q => h2 e G' q
 have e0 : ∀ G : MH, Bg Ab (d + 10) .Av [.ref G.length] (G ++ [An.list [.w k]]) = .ok (.ref (G.length + 2)) (G ++ [An.list [.w k], .list [.w k], Ah 9 (G.length + 1) .none (.bool false)]) := fun G => by
  have := Av (Ab := Ab) (d := d + 8) (H := G ++ [An.list [.w k]]) (b := G.length) (xs := [.w k]) (by simp) (by simp)
  simpa using this
 simp only [Ah] at e0
 cases ht with
 | null =>
  have hs := Ji hna
  have hv2 := hvS (.list [])
  have hq2 := hqS (.list [])
  show CZ S _ (H.set na (.list [])) _
  rw [hs] at hv2 hq2 ⊢
  rw [Bi] at hv2
  obtain ⟨a, rfl, qa⟩ := hv2
  have a1 := qa.1
  have xb : Ak S H (H ++ [An.list [], Ah 7 H.length .none (.bool false)]) := Ak.app _ _ _
  have nS : ∀ j, ¬ S (H.length + j) := fun j q => absurd (hS _ q) (by omega)
  have hrep : Bi S (H ++ [An.list [], Ah 7 H.length .none (.bool false)]) (.list [] none) (.ref (H.length + 1)) := by
   rw [A2]
   exact ⟨H.length, [], ⟨H.length + 1, .none, .bool false, rfl, ⟨by simp, nS 1⟩, rfl⟩, ⟨by simp, nS 0⟩, by rw [A4]⟩
  have l1 := Ad (Ab := Ab) (d := d + 9) (H := H ++ [An.list [], Ah 7 H.length .none (.bool false)]) (k := 7)
  simp at l1
  have e1 := AD (Ab := Ab) (d := d + 9) (H := H ++ [An.list [], Ah 7 H.length .none (.bool false)]) (a := H.length + 1) (k := 7) (b := H.length) (t := .none) (sh := .bool false) (S := S) ⟨by simp, nS 1⟩
  have e0' := e0 (H ++ [An.list [], Ah 7 H.length .none (.bool false)])
  simp at e0'
  simp only [Ah] at e1 l1
  have h := fin _ _ (hS.up xb) hrep (hq2.up xb) (Bg Ab (d + 11) .AL [.ref a, .w k, val, .ref na]) (fun v G' e => by
   simp at e
   simp_all! [Bm, a1, CD, e1, l1, e0', e]) (fun n G' e => by
   simp at e
   simp_all! [Bm, a1, CD, e1, l1, e0', e])
  exact CZ.up h xb (fun _ _ e => e) fun _ _ e => e
 | @list _ ts ns hx hn hs4 hts =>
  have hs := Ji hna
  have hv2 := hvS (.list [])
  have hq2 := hqS (.list [])
  show CZ S _ (H.set na (.list [])) _
  rw [hs] at hv2 hq2 ⊢
  have hv3 := hv2
  obtain ⟨b, vs, ⟨a, t0, sh, rfl, qa, ra⟩, hb, hr⟩ := A2.mp hv2
  have a1 := qa.1
  have l1 := Ad (Ab := Ab) (d := d + 9) (H := H) (k := 7)
  simp at l1
  have e1 := AD (Ab := Ab) (d := d + 9) qa
  have e0' := e0 H
  exact fin _ _ hS hv3 hq2 (Bg Ab (d + 11) .AL [.ref a, .w k, val, .ref na]) (fun v G' e => by
   simp only [Ah] at e
   simp_all! [Bm, a1, e1, l1, e0', e]) (fun n G' e => by
   simp only [Ah] at e
   simp_all! [Bm, a1, e1, l1, e0', e])
 | @atom _ k0 xs ns hk0 hx hn hi =>
  have hv0 := hv
  have hv2 := hvS (.list (EK (.atom k0 xs ns)))
  have hq2 := hqS (.list (EK (.atom k0 xs ns)))
  obtain ⟨b0, ⟨a0, t0, sh0, rfl, q0, r0⟩, hb0⟩ := AC.mp hv
  have a1 := q0.1
  have b1 := hb0.1
  have k6 : (k0 == 6) = false := by rcases hk0 with rfl | rfl <;> rfl
  have k21 : (k0 == 21) = false := by rcases hk0 with rfl | rfl <;> rfl
  have lk : [7, 19, 20].contains k0 = false := by rcases hk0 with rfl | rfl <;> rfl
  have l1 := Ad (Ab := Ab) (d := d + 9) (H := H) (k := k0)
  rw [lk] at l1
  have e1 := AD (Ab := Ab) (d := d + 9) q0
  have C7 : xs.length <= 100000 := by omega
  have hSd : ∀ c, CH S (H.set na c) := fun c a q => by rw [List.length_set]; exact hS a q
  obtain ⟨b2, hv4, hb4⟩ := AC.mp hv2
  obtain ⟨r7, H7, e7, x7, ys, a7, b7, t7, ow, cv⟩ := Cv (Ab := Ab) (d := d + 3) (n := .ref na) (k' := 7) (hSd _) hv4 hb4 (.inr hk0) (.inr (.inl ⟨hk0, rfl⟩)) (by omega) (fun l h => by have := (hn l h).2; omega)
  obtain ⟨sh7, rfl, na7, nb7, ca7, cb7, oa7⟩ := ow
  have hrep : Bi S H7 (.list (xs.map fun x => .atom k0 [x] none) ns) (.ref a7) := by
   rw [A2]
   refine ⟨b7, ys, ⟨a7, t7, sh7, rfl, ca7, ?_⟩, cb7, A4.chg (fun x _ q => .inl q) (HM (by omega) cv)⟩
   cases ns with
   | none => exact oa7
   | some l =>
    obtain ⟨c, n', m', sh', e, _, _, h1, h2, h3⟩ := oa7
    exact ⟨c, n', m', sh', e, h1, h2, h3⟩
  have e0' := e0 H7
  cases xs with
  | nil =>
   have hs := Ji hna
   have hd : EK (.atom k0 [] ns) = [] := rfl
   rw [hd] at e7
   rw [hs] at e7
   have h := fin _ _ ((hSd _).up x7) hrep (hq2.up x7) (Bg Ab (d + 11) .AL [.ref a0, .w k, val, .ref na]) (fun v G' e => by
    simp only [Ah] at e
    simp_all! [Bm, a1, b1, k6, k21, l1, e1, e7, e0', e]) (fun n G' e => by
    simp only [Ah] at e
    simp_all! [Bm, a1, b1, k6, k21, l1, e1, e7, e0', e])
   exact CZ.up h x7 (fun _ _ e => e) fun _ _ e => e
  | cons x xs =>
   have hd : EK (.atom k0 (x :: xs) ns) = [.w 37] := rfl
   have h9 : xs.length + 1 <= 100000 := by simpa using C7
   rw [hd] at e7
   have h := fin _ _ ((hSd _).up x7) hrep (hq2.up x7) (Bg Ab (d + 11) .AL [.ref a0, .w k, val, .ref na]) (fun v G' e => by
    simp only [Ah] at e
    simp_all! [Bm, a1, b1, hna, h9, k6, k21, l1, e1, e7, e0', e]) (fun n G' e => by
    simp only [Ah] at e
    simp_all! [Bm, a1, b1, hna, h9, k6, k21, l1, e1, e7, e0', e])
   exact CZ.up h x7 (fun _ _ e => e) fun _ _ e => e
theorem Ge {x : V} {f : Nat} (h : plain x = true) : G4 (f + 1) H x x = true := by
 cases x <;> first | (cases h; done) | simp [G4]
theorem GH : ∀ {xs : List V} {f : Nat}, xs.length + 2 <= f -> xs.all plain = true -> Ek f H xs xs = true
 | [], f + 1, _, _ => by simp [Ek]
 | x :: xs, f + 2, hf, h => by
  simp only [List.all_cons, Sa] at h
  rw [Ek, Ge h.1, GH (by simp at hf; omega) h.2]
  rfl
theorem Pg {l : List V} (h : l.all Ey = true) : l.all plain = true := by
 rw [List.all_eq_true] at h ⊢
 intro x hx
 have := h x hx
 cases x <;> first | rfl | cases this
theorem J9 {ns : Option (List V)} {u u' : V} {n f : Nat} (h : Dk S H ns u) (h' : Dk S' H ns u') (hn : JG n ns) (hl : n <= 8) : G4 (f + 15) H u u' = true := by
 cases ns with
 | none =>
  obtain ⟨c, rfl, q⟩ := h
  obtain ⟨c', rfl, q'⟩ := h'
  have q1 := q.1
  have q2 := q'.1
  simp [G4, q1, q2]
 | some l =>
  obtain ⟨c, m, b, e, rfl, a1, a2, a3, a4⟩ := h
  obtain ⟨c', m', b', e', rfl, b1, b2, b3, b4⟩ := h'
  obtain ⟨hl1, hl2⟩ := hn l rfl
  have a1 := a1.1
  have a2 := a2.1
  have a3 := a3.1
  have a4 := a4.1
  have b1 := b1.1
  have b2 := b2.1
  have b3 := b3.1
  have b4 := b4.1
  have := GH (H := H) (xs := l) (f := f + 10) (by omega) (Pg hl1)
  simp [G4, Ek, a1, a2, a3, a4, b1, b2, b3, b4, this]
theorem Nq {a a' b b' k f : Nat} {u u' : V} {vs vs' : List V} (h1 : H[a]? = some (.tup [.w k, .ref b, u])) (h2 : H[a']? = some (.tup [.w k, .ref b', u'])) (h3 : H[b]? = some (.list vs)) (h4 : H[b']? = some (.list vs')) (h5 : Ek (f + 1) H vs vs' = true) (h6 : G4 (f + 1) H u u' = true) : G4 (f + 5) H (.ref a) (.ref a') = true := by
 have e1 : G4 (f + 3) H (.w k) (.w k) = true := Ge rfl
 have e2 : G4 (f + 2) H (.ref b) (.ref b') = true := by rw [G4]; simp only [h3, h4, h5]
 have e3 : Ek (f + 4) H [.w k, .ref b, u] [.w k, .ref b', u'] = true := by
  rw [Ek, Ek, Ek, Ek, e1, e2, h6]; rfl
 rw [G4]
 simp only [h1, h2, e3]
theorem LO {P : Tr -> Prop} {N : Nat} (hd : ∀ t, P t -> ∀ (f : Nat) (a b : V), N <= f -> Ar S H t a -> Ar S' H t b -> G4 f H a b = true) : ∀ {ts : List Tr} {vs ws : List V} {f : Nat}, N + ts.length + 1 <= f -> (∀ t ∈ ts, P t) -> AS S H ts vs -> AS S' H ts ws -> Ek f H vs ws = true
 | [], vs, ws, f + 1, _, _, h1, h2 => by
  rw [AS] at h1 h2
  subst h1 h2
  simp [Ek]
 | t :: ts, vs, ws, f + 1, hf, hp, h1, h2 => by
  rw [AS] at h1 h2
  obtain ⟨v, r, rfl, p1, p2⟩ := h1
  obtain ⟨w, r', rfl, q1, q2⟩ := h2
  simp only [List.length_cons] at hf
  rw [Ek, hd t (hp t (.head _)) f v w (by omega) p1 q1, LO hd (by omega) (fun t h => hp t (.tail _ h)) p2 q2]
  rfl
theorem Pl : ∀ (n : Nat) (t : Tr), Be st n t -> ∀ (f : Nat) (a b : V), 20 + 13 * n <= f -> Ar S H t a -> Ar S' H t b -> G4 f H a b = true := by
 have atom : ∀ (k : Nat) (xs : List V) (ns : Option (List V)) (f : Nat) (a b : V), JG xs.length ns -> xs.all plain = true -> xs.length <= 8 -> 20 <= f -> Ar S H (.atom k xs ns) a -> Ar S' H (.atom k xs ns) b -> G4 f H a b = true := fun k xs ns f a b hn hi hx hf ha hb => by
  obtain ⟨g, rfl⟩ : ∃ g, f = g + 20 := ⟨f - 20, by omega⟩
  rw [Ar] at ha hb
  obtain ⟨a, b0, u, rfl, a1, a2, a3⟩ := ha
  obtain ⟨a', b0', u', rfl, b1, b2, b3⟩ := hb
  exact Nq (f := g + 15) a1.1 b1.1 a2.1 b2.1 (GH (by omega) hi) (J9 (f := g + 1) a3 b3 hn hx)
 intro n
 induction n with
 | zero =>
  intro t ht f a b hf ha hb
  cases ht with
  | null =>
   rw [Ar] at ha hb
   subst ha hb
   obtain ⟨g, rfl⟩ : ∃ g, f = g + 1 := ⟨f - 1, by omega⟩
   exact Ge rfl
  | atom hk hx hn hi => exact atom _ _ _ f a b hn hi.1 hx (by omega) ha hb
 | succ n ih =>
  intro t ht f a b hf ha hb
  cases ht with
  | null =>
   rw [Ar] at ha hb
   subst ha hb
   obtain ⟨g, rfl⟩ : ∃ g, f = g + 1 := ⟨f - 1, by omega⟩
   exact Ge rfl
  | atom hk hx hn hi => exact atom _ _ _ f a b hn hi.1 hx (by omega) ha hb
  | list hx hn hs hts =>
   obtain ⟨g, rfl⟩ : ∃ g, f = g + 20 := ⟨f - 20, by omega⟩
   rw [Ar] at ha hb
   obtain ⟨a, b0, u, vs, rfl, a1, a2, a3, a4⟩ := ha
   obtain ⟨a', b0', u', ws, rfl, b1, b2, b3, b4⟩ := hb
   exact Nq (f := g + 15) a1.1 b1.1 a2.1 b2.1 (LO (P := Be st n) ih (by omega) hts a3 b3) (J9 (f := g + 1) a4 b4 hn hx)
theorem KF {n : Nat} {t : Tr} {a b : V} (hn : n <= 3) (ht : Be st n t) (ha : Ar S H t a) (hb : Ar S' H t b) : Fg H a b = some true := by
 have hd := Pl n t ht Fd a b (by unfold Fd; omega) ha hb
 cases ht with
 | null =>
  rw [Ar] at ha hb
  subst ha hb
  rfl
 | atom hk hx hn hi =>
  rw [Ar] at ha hb
  obtain ⟨a, b0, u, rfl, a1, a2, a3⟩ := ha
  obtain ⟨a', b0', u', rfl, b1, b2, b3⟩ := hb
  simp [Fg, a1.1, b1.1, hd]
 | list hx hn hs hts =>
  rw [Ar] at ha hb
  obtain ⟨a, b0, u, vs, rfl, a1, a2, a3, a4⟩ := ha
  obtain ⟨a', b0', u', ws, rfl, b1, b2, b3, b4⟩ := hb
  simp [Fg, a1.1, b1.1, hd]
theorem LP {n : Nat} {r : Except Nat Tr} {a b : V} (hn : n <= 3) (ht : ∀ t, r = .ok t -> Be st n t) (ha : BJ S H r a) (hb : BJ S' H r b) : Fg H a b = some true := by
 cases r with
 | ok t => exact KF hn (ht t rfl) ha hb
 | error e =>
  obtain ⟨l, rfl, q⟩ := ha
  obtain ⟨l', rfl, q'⟩ := hb
  have hd : G4 (60 + 4) H (.ref l) (.ref l') = true := by simp [G4, Ek, q.1, q'.1]
  have hd' : G4 Fd H (.ref l) (.ref l') = true := hd
  simp [Fg, q.1, q'.1, hd']
variable {ra : Nat}
def BZ (ra : Nat) (H : MH) : Prop := ∃ xs : List V, H[ra]? = some (.list xs) /\ xs.length <= 160 /\ xs.all FJ = true
def WR {α : Type} (S : Nat -> Prop) (ra : Nat) (m : M α) (H : MH) (Q : α -> MH -> Prop) : Prop := ∃ r H', m H = .ok r H' /\ Ak S H H' /\ BZ ra H' /\ Q r H'
theorem BZ.app (h : BZ ra H) (L : MH) : BZ ra (H ++ L) := by
 obtain ⟨xs, h1, h2⟩ := h
 exact ⟨xs, by rw [Ck (AH h1)]; exact h1, h2⟩
theorem BZ.lt (h : BZ ra H) : ra < H.length := by
 obtain ⟨xs, h1, h2⟩ := h
 exact (AH h1)
theorem BZ.up (h : BZ ra H) (x : Ak S H H') (hs : ¬ S ra) : BZ ra H' := by
 obtain ⟨xs, h1, h2⟩ := h
 exact ⟨xs, (At.upL ⟨h1, hs⟩ x).1, h2⟩
theorem BZ.set (h : BZ ra H) {a : Nat} {c : An} (Ex : a ≠ ra) : BZ ra (H.set a c) := by
 obtain ⟨xs, h1, h2⟩ := h
 exact ⟨xs, by rw [Cq Ex]; exact h1, h2⟩
theorem RF (hr : BZ ra H) (hS : S ra) : WR S ra (Bg Ab (d + 1) .Ag [.ref ra]) H fun v _ => ∃ i : Int, v = .int i := by
 have CV := hr.lt
 obtain ⟨xs, h1, h2, h3⟩ := hr
 have h1' : ∀ L : MH, (H ++ L)[ra]? = some (.list xs) := fun L => by rw [Ck CV]; exact h1
 by_cases hx : xs = []
 .subst hx
  refine ⟨.int 0, H ++ [.list []], ?_, Ak.app _ _ _, BZ.app ⟨[], h1, h2, h3⟩ _, 0, rfl⟩
  simp_all! [FC, h1']
 .obtain ⟨ys, y, rfl⟩ : ∃ ys y, xs = ys ++ [y] := ⟨xs.dropLast, xs.getLast hx, (List.dropLast_concat_getLast hx).symm⟩
  simp only [List.all_append, List.all_cons, List.all_nil, Bool.and_true, Sa] at h3
  have hl : ys.length + 1 <= 160 := by simpa using h2
  have hl2 : ys.length + 1 <= 100000 := by omega
  obtain ⟨i, rfl⟩ : ∃ i, y = .int i := by
   have := h3.2
   cases y with
   | int i => exact ⟨i, rfl⟩
   | _ => cases this
  have hlt' : ra < (H ++ [An.list []]).length := by simp; omega
  refine ⟨.int i, (H ++ [An.list []]).set ra (.list ys), ?_, (Ak.app _ _ _).trans (Ak.set hS), ⟨ys, Ew hlt', by omega, h3.1⟩, i, rfl⟩
  have hev : Fg (H ++ [An.list []]) (.ref ra) (.ref H.length) = some false := by
   unfold Fg
   simp only [h1', List.getElem?_concat_length]
   cases ys <;> rfl
  have h3a := h3.1
  have hA : ys.all FJ = true /\ FJ (.int i) = true := h3
  have hpop : MB (.ref ra) (H ++ [An.list []]) = .ok (.int i) ((H ++ [An.list []]).set ra (.list ys)) := by
   simp only [MB, bnd, AJ, h1']
   rw [if_pos ⟨by simp [Bz]; omega, by rw [List.all_append, h3a]; rfl⟩]
   simp [Dm, ret, bnd]
  simp_all! [FC, -Fg, hev, hpop]
theorem CU {C : Ef Fn} {env : Mine.Env} {n : Int} {N : ME Fn} {j : Nat} (hC : C.call = Bg Ab (d + 1)) (hr : BZ ra H) (hS : S ra) (h0 : (env[j]?).join = some (.ref ra)) (hn : 0 < n) (hN : ∀ G, Aa C N env G = .ok (.int n) G) :
  WR S ra (Aa C (.bin .mod (.call .Ag [.var j]) N) env) H fun v _ => ∃ i : Nat, v = .int i /\ (i : Int) < n := by
 obtain ⟨v, H', e, x, r, i, rfl⟩ := RF (Ab := Ab) (d := d) hr hS
 have h1 := Int.emod_nonneg i (Int.ne_of_gt hn)
 have h2 := Int.emod_lt_of_pos i hn
 refine ⟨.int (i % n), H', ?_, x, r, (i % n).toNat, by rw [Int.toNat_of_nonneg h1], by omega⟩
 have e1 : Aa C (.call .Ag [.var j]) env H = .ok (.int i) H' := by simp [Aa, Ap, bnd, ret, Au, hC, h0, e]
 rw [Aa]
 simp only [bnd, e1, hN]
 simp [HK, ret, hn]
theorem Lf {P : V -> MH -> Prop} {f : V -> M (Option V)} (upP : ∀ v H H', P v H -> Ak S H H' -> P v H') : ∀ {xs : List V} {H : MH}, BZ ra H -> (∀ x H1, x ∈ xs -> Ak S H H1 -> BZ ra H1 -> WR S ra (f x) H1 fun y H2 => ∃ y', y = some y' /\ P y' H2) ->
  WR S ra (By f (ret ()) xs) H fun ys H' => ys.length = xs.length /\ ∀ y ∈ ys, P y H'
 | [], H, hr, _ => ⟨[], H, rfl, Ak.refl _ _, hr, rfl, by intro y h; cases h⟩
 | x :: xs, H, hr, hf => by
  obtain ⟨y, H1, e1, x1, r1, y', rfl, p1⟩ := hf x H (.head _) (Ak.refl _ _) hr
  obtain ⟨ys, H2, e2, x2, r2, l2, p2⟩ := Lf upP (xs := xs) r1 fun z H3 hz x3 r3 => hf z H3 (.tail _ hz) (x1.trans x3) r3
  refine ⟨y' :: ys, H2, ?_, x1.trans x2, r2, by simp [l2], fun z hz => ?_⟩
  .unfold By bnd
   rw [e1]
   simp only [ret]
   rw [e2]
   rfl
  .rcases List.mem_cons.mp hz with rfl | hz
   .exact upP _ _ _ p1 x2
   .exact p2 z hz
theorem FO {P : V -> MH -> Prop} {C : Ef Fn} {env : Mine.Env} {el n : ME Fn} {k : Nat} {G : MH} (upP : ∀ v H H', P v H -> Ak S H H' -> P v H') (hk : k <= 100) (hn : Aa C n env G = .ok (.int k) H) (hr : BZ ra H) (hf : ∀ x H1, Ak S H H1 -> BZ ra H1 -> WR S ra (Aa C el (env ++ [some x])) H1 P) :
  ∃ ys H', Aa C (.compR el n) env G = .ok (.ref H'.length) (H' ++ [.list ys]) /\ Ak S H H' /\ BZ ra H' /\ ys.length = k /\ ∀ y ∈ ys, P y H' := by
 obtain ⟨ys, H1, e1, x1, r1, l1, p1⟩ := Lf (S := S) (ra := ra) (P := P) (f := fun x => bnd (Aa C el (env ++ [some x])) fun y => ret (some y)) upP (xs := B3 0 k) hr (fun x H1 _ x1 r1 => by
  obtain ⟨y, H2, e2, x2, r2, p2⟩ := hf x H1 x1 r1
  exact ⟨some y, H2, by simp [bnd, ret, e2], x2, r2, y, rfl, p2⟩)
 have hl : ys.length = k := by rw [l1]; simp [B3]
 refine ⟨ys, H1, ?_, x1, r1, hl, p1⟩
 have h1 : (k : Int) <= 100000 := by omega
 have h2 : ys.length <= 100000 := by omega
 simp [Aa, bnd, hn, still, e1, Bz, h1, h2, alloc]
theorem draw {C : Ef Fn} {env : Mine.Env} {xs : List V} {n : Int} {es : List (ME Fn)} {j : Nat} (hC : C.call = Bg Ab (d + 1)) (Fi : CH S H) (hr : BZ ra H) (hS : S ra) (h0 : (env[j]?).join = some (.ref ra)) (hes : ∀ G, Ap C es env G = .ok xs G) (hn : n = xs.length) (hx : 0 < xs.length) (hx2 : xs.length <= 9) :
  WR S ra (Aa C (.idx (.lst es) (.bin .mod (.call .Ag [.var j]) (.cst (.int n)))) env) H fun v _ => v ∈ xs := by
 subst hn
 have hl : xs.length <= 100000 := by omega
 obtain ⟨v, H1, e, x, r, i, rfl, hi⟩ := CU (S := S) (Ab := Ab) (d := d) (C := C) (env := env) (n := xs.length) (N := .cst (.int xs.length)) hC (hr.app [.list xs]) hS h0 (by omega) fun _ => rfl
 have hi' : i < xs.length := by omega
 have hlist : H1[H.length]? = some (.list xs) := (At.upL (Fi.new (L := [])) x).1
 have h1 : (i : Int) <= 100000 := by omega
 have e1 : Aa C (.lst es) env H = .ok (.ref H.length) (H ++ [.list xs]) := by simp [Aa, bnd, hes, hl, Bz, alloc]
 refine ⟨xs[i], H1, ?_, (Ak.app _ _ _).trans x, r, List.getElem_mem hi'⟩
 rw [Aa]
 simp only [bnd, e1, e]
 simp [EW, bnd, AJ, hlist, h1, Bz, Au, ret, List.getElem?_eq_getElem hi']
theorem Qn {n : Nat} (Fi : CH S H) (hr : BZ ra H) (hS : S ra) (hn : n <= 100) : WR S ra (Bg Ab (d + 2) .BR [.ref ra, .int n]) H fun v H' => ∃ l ns, v = .ref l /\ At S H' l (.list ns) /\ ns.length = n /\ ns.all Ey = true := by
 obtain ⟨ys, G, e, x, r, hl, hp⟩ := FO (S := S) (P := fun v _ => Ey v = true) (C := AI Ab (d + 1)) (env := [some (.ref ra), some (.int n)]) (el := .idx (.lst [.cst (.w 12), .cst (.w 13), .cst (.w 14), .cst (.w 16), .cst .none, .cst (.w 15)]) (.bin .mod (.call .Ag [.var 0]) (.cst (.int 6)))) (n := .var 1) (G := H) (fun _ _ _ h _ => h) hn (by simp [Aa, Au, ret]) hr (fun v H1 x1 r1 => by
  obtain ⟨w, H2, e2, x2, r2, p2⟩ := draw (j := 0) (S := S) (Ab := Ab) (d := d) (C := AI Ab (d + 1)) (env := [some (.ref ra), some (.int n)] ++ [some v]) (xs := [.w 12, .w 13, .w 14, .w 16, .none, .w 15]) (n := 6) (es := [.cst (.w 12), .cst (.w 13), .cst (.w 14), .cst (.w 16), .cst .none, .cst (.w 15)]) rfl (Fi.up x1) r1 hS rfl (fun G => by simp [Ap, Aa, bnd, ret]) rfl (by simp) (by simp)
  refine ⟨w, H2, e2, x2, r2, ?_⟩
  simp at p2
  rcases p2 with rfl | rfl | rfl | rfl | rfl | rfl <;> rfl)
 refine ⟨.ref G.length, G ++ [.list ys], ?_, x.trans (Ak.app _ _ _), r.app _, G.length, ys, rfl, (Fi.up x).new, hl, List.all_eq_true.mpr hp⟩
 rw [Db Ab rfl rfl]
 simp [Hd, prog, Ae, Ai, bnd, e, ret]
theorem HH {C : Ef Fn} {T : ME Fn} {t e : List (MS Fn)} {env : Mine.Env} {j m : Int} (h : Aa C T env H = .ok (.int j) H') : Ai C (.ifs (.cmp .eq T (.cst (.int m))) t e) env H = (if j = m then Ae C t env else Ae C e env) H' := by
 rw [Ai, Aa]
 simp only [bnd, h]
 by_cases q : j = m <;> simp [Aa, ret, bnd, DM, Fg, Au, Aw, q]
theorem NO {env : Mine.Env} {E : ME Fn} {a b k n i : Nat} {sh : V} (hr : BZ ra H) (har : a ≠ ra) (hn : n <= 100) (ha : H[a]? = some (Ah k b .none sh)) (h0 : (env[0]?).join = some (.ref ra)) (hi : (env[i]?).join = some (.ref a)) (hE : ∀ G, Ak (· = ra) H G -> Aa (AI Ab (d + 2)) E env G = .ok (.int n) G) :
  ∃ G t ns sh', Ai (AI Ab (d + 2)) (.ifs (.cmp .eq (.bin .mod (.call .Ag [.var 0]) (.cst (.int 2))) (.cst (.int 1))) [.setA (.var i) 2 (.dct1 5 (.mk .vector [.cst (.w 9), .call .BR [.var 0, E]]))] []) env H = .ok (env, none) G /\ Ak (fun x => x = ra \/ x = a) H G /\ BZ ra G /\ G[a]? = some (Ah k b t sh') /\ Ih (fun x => x = ra \/ x = a) G ns t /\ JG n ns := by
 have CV := hr.lt
 have hla : a < H.length := (AH ha)
 obtain ⟨v, H1, e1, x1, r1, j, rfl, hj⟩ := CU (j := 0) (S := (· = ra)) (Ab := Ab) (d := d + 1) (C := AI Ab (d + 2)) (env := env) (n := 2) (N := .cst (.int 2)) rfl hr rfl h0 (by decide) fun _ => rfl
 obtain ⟨sh1, ha1⟩ := At.upV ⟨ha, har⟩ x1
 by_cases h1 : j = 1
 .subst h1
  have x2 : Ak (· = ra) H1 (H1 ++ [An.dictW []]) := Ak.app _ _ _
  have r2 := r1.app [.dictW []]
  have Fi : CH (· = ra) H := fun x h => by rw [h]; exact CV
  have hSo2 := (Fi.up x1).up x2
  obtain ⟨w, H3, e3, x3, r3, l, ns, rfl, hl, hln, hnm⟩ := Qn (S := (· = ra)) (Ab := Ab) (d := d) hSo2 r2 rfl hn
  have hc := At.upD ((Fi.up x1).new (L := []) (c := .dictW [])) x3
  obtain ⟨sh3, ha3⟩ := ha1.upV (x2.trans x3)
  have hle1 := x1.1
  have hle3 := (x2.trans x3).1
  have hca : H1.length ≠ a := by omega
  have hl3 : l < H3.length := (AH hl.1)
  have hc3 : H1.length < H3.length := (AH hc.1)
  have hcr : H1.length ≠ ra := hc.2
  have hlr : l ≠ ra := hl.2
  have hla' : l ≠ a := fun h => by have := hl.1; rw [h, ha3.1] at this; cases this
  have hlc : l ≠ H1.length := fun h => by have := hl.1; rw [h, hc.1] at this; cases this
  have hE2 := hE (H1 ++ [.dictW []]) (x1.trans x2)
  have cA : ∀ L : MH, (H3 ++ L)[a]? = some (Ah k b .none sh3) := Dx ha3
  have cC : ∀ L : MH, (H3 ++ L)[H1.length]? = some (.dictW []) := Dx hc
  have cA2 : ((H3 ++ [Ah 9 l .none (.bool false)]).set H1.length (.dictW [(5, .ref H3.length)]))[a]? = some (Ah k b .none sh3) := by rw [Cq hca]; exact cA _
  have xx : Ak (fun x => x = ra \/ x = a) H (((H3 ++ [Ah 9 l .none (.bool false)]).set H1.length (.dictW [(5, .ref H3.length)])).set a (Ah k b (.ref H1.length) sh3)) :=
   (((x1.trans (x2.trans x3)).more fun x h => .inl h).trans (Ak.app _ _ _)).setN hle1 |>.trans (Ak.set (.inr rfl))
  refine ⟨_, .ref H1.length, some ns, sh3, ?_, xx, ((r3.app _).set hcr).set har, Ew (by simp; omega), ⟨H1.length, H3.length, l, .bool false, rfl, ⟨?_, ?_⟩, ⟨?_, ?_⟩, ⟨?_, ?_⟩⟩, fun l' h => by cases h; exact ⟨hnm, hln⟩⟩
  .simp only [Ah] at cA2
   rw [HH e1, if_pos (by omega)]
   simp [Ae, Ai, Aa, Ap, bnd, ret, Au, alloc, h0, hi, hE2, e3, still, initOf, CD, stays, AJ, cC, Dm, FL, cA2, DS]
  .rw [Cq (Ne.symm hca), Ew (by simp; omega)]
  .rintro (h | h)
   .exact hcr h
   .exact hca h
  .rw [Cq (by omega), Cq (by omega)]; simp
  .rintro (h | h) <;> omega
  .rw [Cq (Ne.symm hla'), Cq (Ne.symm hlc), Ck hl3]; exact hl.1
  .rintro (h | h)
   .exact hlr h
   .exact hla' h
 .refine ⟨H1, .none, none, sh1, ?_, x1.more fun x h => .inl h, r1, ha1.1, rfl, by intro l h; cases h⟩
  rw [HH e1, if_neg (by omega)]
  rfl
abbrev Gj : MS Fn := .ifs (.cmp .eq (.bin .mod (.call .Ag [.var 0]) (.cst (.int 2))) (.cst (.int 1))) [.setA (.var 4) 2 (.dct1 5 (.mk .vector [.cst (.w 9), .call .BR [.var 0, .len (.attr (.var 4) 1)]]))] []
abbrev Ga : List (MS Fn) := [.asg 3 (.compR (.call .A7 [.var 0, .bin .sub (.var 1) (.cst (.int 1))]) (.bin .mod (.call .Ag [.var 0]) (.cst (.int 4)))), .asg 4 (.mk .vector [.cst (.w 7), .var 3])]
abbrev FZ : List (MS Fn) := [.asg 5 (.bin .add (.cst (.int 1)) (.bin .mod (.call .Ag [.var 0]) (.cst (.int 3)))), .asg 4 (.mk .vector [.idx (.lst [.cst (.w 8), .cst (.w 9)]) (.var 2), .compR (.idx (.lst [.bin .mod (.call .Ag [.var 0]) (.cst (.int 50)), .cst (.w 18)]) (.var 2)) (.var 5)])]
abbrev Rr : ME Fn := .bin .mod (.call .Ag [.var 0]) (.ite (.cmp .gt (.var 1) (.cst (.int 0))) (.cst (.int 5)) (.cst (.int 3)))
theorem Qa : (prog .A7).body = [.asg 2 Rr, .ifs (.cmp .eq (.var 2) (.cst (.int 2))) [.ret (.mk .null [])] [], .ifs (.cmp .gt (.var 2) (.cst (.int 2))) Ga FZ, Gj, .ret (.var 4)] := rfl
theorem B7 {C : Ef Fn} {env : Mine.Env} {i : Nat} {e : ME Fn} {v : V} (h : Aa C e env H = .ok v H') : Ai C (.asg i e) env H = .ok (env.set i (some v), none) H' := by
 rw [Ai]; simp only [bnd, h, ret]
abbrev Sx (i : Nat) (E : ME Fn) : MS Fn := .ifs (.cmp .eq (.bin .mod (.call .Ag [.var 0]) (.cst (.int 2))) (.cst (.int 1))) [.setA (.var i) 2 (.dct1 5 (.mk .vector [.cst (.w 9), .call .BR [.var 0, E]]))] []
theorem Ln {H0 : MH} {k i : Nat} {env : Mine.Env} {E : ME Fn} {xs : List V} {b a : Nat} (h0e : (env[0]?).join = some (.ref ra)) (hi : (env[i]?).join = some (.ref a)) (hE : ∀ (G : MH) (sh : V), G[a]? = some (Ah k b .none sh) -> G[b]? = some (.list xs) -> Aa (AI Ab (d + 2)) E env G = .ok (.int xs.length) G)
  (hr : BZ ra H) (h0 : Ak (· = ra) H0 H) (ha : At (· = ra) H a (Ah k b .none (.bool false))) (hb : At (· = ra) H b (.list xs)) (hna : H0.length <= a) (hl : xs.length <= 100) :
  ∃ G ns, bnd (Ae (AI Ab (d + 2)) [Sx i E, .ret (.var i)] env) CQ H = .ok (.ref a) G /\ Ak (· = ra) H0 G /\ Ak (fun x => x = ra \/ x = a) H G /\ BZ ra G /\ Dy (· = ra) G (.ref a) k b ns /\ At (· = ra) G b (.list xs) /\ JG xs.length ns := by
 have hab : b ≠ a := fun h => by have := ha.1; rw [<- h, hb.1] at this; cases this
 obtain ⟨G, t, ns, sh', e, x, r, ga, gr, hn⟩ := NO (Ab := Ab) (d := d) (env := env) (E := E) (i := i) hr ha.2 hl ha.1 h0e hi (fun G xg => by
  obtain ⟨sh2, g2⟩ := ha.upV xg
  exact hE G sh2 g2.1 (hb.upL xg).1)
 have CV := h0.1
 refine ⟨G, ns, ?_, (h0.more fun x h => .inl h).trans x |>.less fun y hy q => q.elim id fun q => by omega, x, r, ⟨a, t, sh', rfl, ⟨ga, ha.2⟩, gr.chg fun x _ h => .inl h⟩, ⟨(At.upL ⟨hb.1, fun q => q.elim hb.2 hab⟩ x).1, hb.2⟩, hn⟩
 rw [AV e]
 simp [Ae, Ai, Aa, bnd, hi, Au, ret]
theorem M5 {n : Nat} : ∀ {ys : List V}, (∀ y ∈ ys, ∃ t, Be st n t /\ Bi S H t y) -> ∃ ts, A4 S H ts ys /\ ∀ t ∈ ts, Be st n t
 | [], _ => ⟨[], by rw [A4], by intro t h; cases h⟩
 | y :: ys, h => by
  obtain ⟨t, h1, h2⟩ := h y (.head _)
  obtain ⟨ts, h3, h4⟩ := M5 fun z hz => h z (.tail _ hz)
  refine ⟨t :: ts, by rw [A4]; exact ⟨y, ys, rfl, h2, h3⟩, fun u hu => ?_⟩
  rcases List.mem_cons.mp hu with rfl | hu
  .exact h1
  .exact h4 u hu
theorem NQ {H0 : MH} {i n : Nat} {v1 : V} (hi : i = 0 \/ i = 1) (hr : BZ ra H) (h0 : Ak (· = ra) H0 H) :
  WR (· = ra) ra (fun _ => bnd (Ae (AI Ab (d + 3)) [.ifs (.cmp .gt (.var 2) (.cst (.int 2))) Ga FZ, Gj, .ret (.var 4)] [some (.ref ra), some v1, some (.int i), none, none, none]) CQ H) H0 fun v H' => ∃ t, Be true n t /\ Bi (· = ra) H' t v := by
 have CV := hr.lt
 have Fi : CH (· = ra) H := fun x h => by rw [h]; exact CV
 obtain ⟨v, H1, e1, x1, r1, m, rfl, hm⟩ := CU (j := 0) (S := (· = ra)) (Ab := Ab) (d := d + 2) (C := AI Ab (d + 3)) (env := [some (.ref ra), some v1, some (.int i), none, none, none]) (n := 3) (N := .cst (.int 3)) rfl hr rfl rfl (by decide) fun _ => rfl
 have hk : ∃ k, [V.w 8, V.w 9][i]? = some (.w k) /\ (k = 8 \/ k = 9) /\ (i = 0 ↔ k = 8) := by
  rcases hi with rfl | rfl
  .exact ⟨8, rfl, .inl rfl, by simp⟩
  .exact ⟨9, rfl, .inr rfl, by simp⟩
 obtain ⟨k, hki, hk8, hik⟩ := hk
 have hi1 : (i : Int) <= 100000 := by omega
 have hi2 : ¬ (2 : Int) < i := by omega
 have hm1 : (1 : Int) + m = ((m + 1 : Nat) : Int) := by omega
 obtain ⟨ys, G, e2, x2, r2, hl, hp⟩ := FO (S := (· = ra)) (P := fun y _ => (k = 8 /\ ∃ j : Nat, y = .int j /\ j < 50) \/ (k = 9 /\ y = .w 18)) (C := AI Ab (d + 3)) (env := [some (.ref ra), some v1, some (.int i), none, none, some (.int ((m + 1 : Nat) : Int))]) (el := .idx (.lst [.bin .mod (.call .Ag [.var 0]) (.cst (.int 50)), .cst (.w 18)]) (.var 2)) (n := .var 5) (k := m + 1) (G := H1 ++ [.list [.w 8, .w 9]]) (H := H1 ++ [.list [.w 8, .w 9]]) (fun _ _ _ h _ => h) (by omega) (by simp [Aa, Au, ret]) (r1.app _) (fun x H2 x2 r2 => by
  obtain ⟨v, H3, e3, x3, r3, j, rfl, hj⟩ := CU (j := 0) (S := (· = ra)) (Ab := Ab) (d := d + 2) (C := AI Ab (d + 3)) (env := [some (.ref ra), some v1, some (.int i), none, none, some (.int ((m + 1 : Nat) : Int))] ++ [some x]) (n := 50) (N := .cst (.int 50)) rfl r2 rfl rfl (by decide) fun _ => rfl
  have e4 : Aa (AI Ab (d + 3)) (.lst [.bin .mod (.call .Ag [.var 0]) (.cst (.int 50)), .cst (.w 18)]) ([some (.ref ra), some v1, some (.int i), none, none, some (.int ((m + 1 : Nat) : Int))] ++ [some x]) H2 = .ok (.ref H3.length) (H3 ++ [.list [.int j, .w 18]]) := by
   rw [Aa, Ap]
   simp only [bnd, e3]
   simp [Ap, Aa, bnd, ret, Bz, alloc]
  rcases hi with rfl | rfl
  .refine ⟨.int j, H3 ++ [.list [.int j, .w 18]], ?_, x3.trans (Ak.app _ _ _), r3.app _, .inl ⟨hik.mp rfl, j, rfl, by omega⟩⟩
   rw [Aa]
   simp only [bnd, e4]
   simp [Aa, Au, ret, EW, bnd, AJ, Bz]
  .refine ⟨.w 18, H3 ++ [.list [.int j, .w 18]], ?_, x3.trans (Ak.app _ _ _), r3.app _, .inr ⟨by omega, rfl⟩⟩
   rw [Aa]
   simp only [bnd, e4]
   simp [Aa, Au, ret, EW, bnd, AJ, Bz])
 have xG : Ak (· = ra) H1 G := (Ak.app _ _ _).trans x2
 have hSG : CH (· = ra) G := (Fi.up x1).up xG
 have nS : ∀ j, ¬ (G.length + j = ra) := fun j q => absurd (hSG _ q) (by omega)
 have hle := ((h0.trans x1).trans xG).1
 have e5 : Ai (AI Ab (d + 3)) (.ifs (.cmp .gt (.var 2) (.cst (.int 2))) Ga FZ) [some (.ref ra), some v1, some (.int i), none, none, none] H = .ok ([some (.ref ra), some v1, some (.int i), none, some (.ref (G.length + 1)), some (.int ((m + 1 : Nat) : Int))], none) (G ++ [.list ys, Ah k G.length .none (.bool false)]) := by
  have e6 : Ai (AI Ab (d + 3)) (.asg 5 (.bin .add (.cst (.int 1)) (.bin .mod (.call .Ag [.var 0]) (.cst (.int 3))))) [some (.ref ra), some v1, some (.int i), none, none, none] H = .ok ([some (.ref ra), some v1, some (.int i), none, none, some (.int ((m + 1 : Nat) : Int))], none) H1 := by
   refine B7 (v := .int ((m + 1 : Nat) : Int)) ?_
   have e0 : ∀ x y : Int, HK .add (.int x) (.int y) = ret (.int (x + y)) := fun _ _ => rfl
   rw [Aa, Aa]
   simp only [bnd, ret, e1, e0, hm1]
  have e7 : Aa (AI Ab (d + 3)) (.idx (.lst [.cst (.w 8), .cst (.w 9)]) (.var 2)) [some (.ref ra), some v1, some (.int i), none, none, some (.int ((m + 1 : Nat) : Int))] H1 = .ok (.w k) (H1 ++ [.list [.w 8, .w 9]]) := by
   simp! [-getElem?_pos, List.getElem?_cons_zero, List.getElem?_cons_succ, List.getElem?_concat_length, hi1, hki]
  rw [Ai]
  have e8 : Aa (AI Ab (d + 3)) (.cmp .gt (.var 2) (.cst (.int 2))) [some (.ref ra), some v1, some (.int i), none, none, none] H = .ok (.bool false) H := by simp! [hi2]
  simp only [bnd, e8, Aw, ret]
  rw [if_neg (by decide), seq e6, Ae, Ai, Aa, Ap]
  simp only [bnd, e7]
  rw [Ap]
  simp only [bnd, e2]
  simp [Ap, Ae, bnd, ret, alloc, initOf, still, CD]
 have x3 : Ak (· = ra) G (G ++ [An.list ys, Ah k G.length .none (.bool false)]) := Ak.app _ _ _
 obtain ⟨K, ns, e9, x9, _, r9, hv9, hb9, hn9⟩ := Ln (Ab := Ab) (d := d + 1) (H0 := H0) (env := [some (.ref ra), some v1, some (.int i), none, some (.ref (G.length + 1)), some (.int ((m + 1 : Nat) : Int))]) (i := 4) (E := .len (.attr (.var 4) 1)) (k := k) (a := G.length + 1) (b := G.length) (xs := ys) rfl rfl (fun K sh g2 g3 => by
  have C7 : ys.length <= 100000 := by omega
  simp! [g2, g3, C7]) (r2.app _) (((h0.trans x1).trans xG).trans x3) ⟨by simp, nS 1⟩ ⟨by simp, nS 0⟩ (by omega) (by omega)
 refine ⟨.ref (G.length + 1), K, ?_, x9, r9, .atom k ys ns, .atom hk8 (by omega) hn9 ⟨List.all_eq_true.mpr fun y hy => ?_, fun _ => ⟨by omega, fun h8 y hy => ?_⟩⟩, AC.mpr ⟨G.length, hv9, hb9⟩⟩
 .rw [AV e5]; exact e9
 .rcases hp y hy with ⟨_, j, rfl, _⟩ | ⟨_, rfl⟩ <;> rfl
 .rcases hp y hy with ⟨_, j, rfl, hj⟩ | ⟨h9, _⟩
  .exact ⟨j, rfl, by omega, by omega⟩
  .omega
theorem LI {H0 G : MH} {n i : Nat} {env : Mine.Env} {E : ME Fn} {ys : List V} (h0e : (env[0]?).join = some (.ref ra)) (hi : (env[i]?).join = some (.ref (G.length + 1))) (hE : ∀ (K : MH) (sh : V), K[G.length + 1]? = some (Ah 7 G.length .none sh) -> K[G.length]? = some (.list ys) -> Aa (AI Ab (d + 2)) E env K = .ok (.int ys.length) K)
  (hr : BZ ra G) (h0 : Ak (· = ra) H0 G) (hys : ∀ y ∈ ys, ∃ t, Be true n t /\ Bi (· = ra) G t y) (hl : ys.length <= 4) :
  WR (· = ra) ra (fun _ => bnd (Ae (AI Ab (d + 2)) [Sx i E, .ret (.var i)] env) CQ (G ++ [.list ys, Ah 7 G.length .none (.bool false)])) H0 fun v H' => ∃ t, Be true (n + 1) t /\ Bi (· = ra) H' t v := by
 have CV := hr.lt
 have nS : ∀ j, ¬ (G.length + j = ra) := fun j q => by omega
 have hle := h0.1
 have x3 : Ak (· = ra) G (G ++ [An.list ys, Ah 7 G.length .none (.bool false)]) := Ak.app _ _ _
 obtain ⟨ts, hts, EN⟩ := M5 hys
 have BN := hts.len
 obtain ⟨K, ns, e9, x9, y9, r9, hv9, hb9, hn9⟩ := Ln (Ab := Ab) (d := d) (H0 := H0) (k := 7) (a := G.length + 1) (b := G.length) (xs := ys) h0e hi hE (hr.app _) (h0.trans x3) ⟨by simp, nS 1⟩ ⟨by simp, nS 0⟩ (by omega) (by omega)
 have hts2 : A4 (fun x => x = ra \/ x = G.length + 1) (G ++ [An.list ys, Ah 7 G.length .none (.bool false)]) ts ys := A4.up (A4.chg (fun x hx h => h.elim id fun h => by omega) hts) (Ak.app _ _ _)
 exact ⟨.ref (G.length + 1), K, e9, x9, r9, .list ts ns, .list (by omega) (BN ▸ hn9) (fun _ => by omega) EN, A2.mpr ⟨G.length, ys, hv9, hb9, (hts2.up y9).chg fun x _ h => .inl h⟩⟩
theorem LT {deep : Nat} (hr : BZ ra H)
  (hlist : ∀ (H1 : MH) (i : Nat), (i = 3 \/ i = 4) -> 0 < deep -> BZ ra H1 -> Ak (· = ra) H H1 -> WR (· = ra) ra (fun _ => bnd (Ae (AI Ab (d + 3)) [.ifs (.cmp .gt (.var 2) (.cst (.int 2))) Ga FZ, Gj, .ret (.var 4)] [some (.ref ra), some (.int deep), some (.int i), none, none, none]) CQ H1) H fun v H' => ∃ t, Be true deep t /\ Bi (· = ra) H' t v) :
  WR (· = ra) ra (Bg Ab (d + 4) .A7 [.ref ra, .int deep]) H fun v H' => ∃ t, Be true deep t /\ Bi (· = ra) H' t v := by
 have CV := hr.lt
 have Fi : CH (· = ra) H := fun x h => by rw [h]; exact CV
 have hN : ∃ n : Int, (n = 3 \/ n = 5 /\ 0 < deep) /\ ∀ G : MH, Aa (AI Ab (d + 3)) (.ite (.cmp .gt (.var 1) (.cst (.int 0))) (.cst (.int 5)) (.cst (.int 3))) [some (.ref ra), some (.int deep), none, none, none, none] G = .ok (.int n) G := by
  by_cases h : 0 < deep
  .exact ⟨5, .inr ⟨rfl, h⟩, fun G => by simp! [h]⟩
  .exact ⟨3, .inl rfl, fun G => by simp! [h]⟩
 obtain ⟨n, hn, hN⟩ := hN
 obtain ⟨v, H1, e1, x1, r1, i, rfl, hi⟩ := CU (j := 0) (S := (· = ra)) (Ab := Ab) (d := d + 2) (C := AI Ab (d + 3)) (env := [some (.ref ra), some (.int deep), none, none, none, none]) (n := n) rfl hr rfl rfl (by omega) hN
 have hSo1 := Fi.up x1
 have s0 := B7 (i := 2) e1
 suffices h : WR (· = ra) ra (fun _ => bnd (Ae (AI Ab (d + 3)) [.ifs (.cmp .eq (.var 2) (.cst (.int 2))) [.ret (.mk .null [])] [], .ifs (.cmp .gt (.var 2) (.cst (.int 2))) Ga FZ, Gj, .ret (.var 4)] [some (.ref ra), some (.int deep), some (.int i), none, none, none]) CQ H1) H fun v H' => ∃ t, Be true deep t /\ Bi (· = ra) H' t v by
  obtain ⟨w, G, e, h⟩ := h
  refine ⟨w, G, ?_, h⟩
  rw [Db Ab rfl rfl, Qa]
  exact (AV s0).trans e
 by_cases h2 : i = 2
 .subst h2
  refine ⟨.ref H1.length, H1 ++ [.inst .null [(0, .w 6), (2, .none)]], ?_, x1.trans (Ak.app _ _ _), r1.app _, .null, .null, Df hSo1⟩
  simp! [GB]
 .have s1 : Ai (AI Ab (d + 3)) (.ifs (.cmp .eq (.var 2) (.cst (.int 2))) [.ret (.mk .null [])] []) [some (.ref ra), some (.int deep), some (.int i), none, none, none] H1 = .ok ([some (.ref ra), some (.int deep), some (.int i), none, none, none], none) H1 := by
   rw [HH (j := i) rfl, if_neg (by omega)]
   rfl
  have hgo : ∀ {m : M V} {Q : V -> MH -> Prop}, WR (· = ra) ra (fun _ => bnd (Ae (AI Ab (d + 3)) [.ifs (.cmp .gt (.var 2) (.cst (.int 2))) Ga FZ, Gj, .ret (.var 4)] [some (.ref ra), some (.int deep), some (.int i), none, none, none]) CQ H1) H Q -> WR (· = ra) ra (fun _ => bnd (Ae (AI Ab (d + 3)) [.ifs (.cmp .eq (.var 2) (.cst (.int 2))) [.ret (.mk .null [])] [], .ifs (.cmp .gt (.var 2) (.cst (.int 2))) Ga FZ, Gj, .ret (.var 4)] [some (.ref ra), some (.int deep), some (.int i), none, none, none]) CQ H1) H Q := fun {m Q} ⟨w, G, e, h⟩ => ⟨w, G, (AV s1).trans e, h⟩
  by_cases h3 : i < 2
  .exact hgo (m := bad) (NQ (by omega) r1 x1)
  .exact hgo (m := bad) (hlist H1 i (by omega) (by omega) r1 x1)
theorem ON : ∀ (deep : Nat) {H : MH}, BZ ra H -> WR (· = ra) ra (Bg Ab (d + deep + 4) .A7 [.ref ra, .int deep]) H fun v H' => ∃ t, Be true deep t /\ Bi (· = ra) H' t v := by
 intro deep
 induction deep with
 | zero =>
  intro H hr
  exact LT (d := d) hr fun H1 i _ h => absurd h (by decide)
 | succ n ih =>
  intro H hr
  refine LT (d := d + (n + 1)) hr fun H1 i hi _ r1 x1 => ?_
  obtain ⟨v, H2, e2, x2, r2, k, rfl, hk⟩ := CU (j := 0) (S := (· = ra)) (Ab := Ab) (d := d + (n + 1) + 2) (C := AI Ab (d + (n + 1) + 3)) (env := [some (.ref ra), some (.int ((n + 1 : Nat) : Int)), some (.int i), none, none, none]) (n := 4) (N := .cst (.int 4)) rfl r1 rfl rfl (by decide) fun _ => rfl
  obtain ⟨ys, G, e3, x3, r3, hl, hp⟩ := FO (S := (· = ra)) (P := fun y H => ∃ t, Be true n t /\ Bi (· = ra) H t y) (C := AI Ab (d + (n + 1) + 3)) (env := [some (.ref ra), some (.int ((n + 1 : Nat) : Int)), some (.int i), none, none, none]) (el := .call .A7 [.var 0, .bin .sub (.var 1) (.cst (.int 1))]) (fun _ _ _ ⟨t, h1, h2⟩ x => ⟨t, h1, h2.up x⟩) (k := k) (by omega) e2 r2 (fun x H3 x3 r3 => by
   obtain ⟨w, H4, e4, h4⟩ := ih r3
   have e0 : d + (n + 1) + 3 = d + n + 4 := by omega
   have e5 : ((n + 1 : Nat) : Int) - 1 = (n : Int) := by omega
   refine ⟨w, H4, ?_, h4⟩
   rw [e0]
   simp! [-Int.natCast_add, -Int.natCast_succ, e5, e4])
  have x4 := (x1.trans x2).trans x3
  have hi2 : (2 : Int) < i := by omega
  have e5 : Ai (AI Ab (d + (n + 1) + 3)) (.ifs (.cmp .gt (.var 2) (.cst (.int 2))) Ga FZ) [some (.ref ra), some (.int ((n + 1 : Nat) : Int)), some (.int i), none, none, none] H1 = .ok ([some (.ref ra), some (.int ((n + 1 : Nat) : Int)), some (.int i), some (.ref G.length), some (.ref (G.length + 1)), none], none) (G ++ [.list ys, Ah 7 G.length .none (.bool false)]) := by
   rw [Ai]
   have e8 : Aa (AI Ab (d + (n + 1) + 3)) (.cmp .gt (.var 2) (.cst (.int 2))) [some (.ref ra), some (.int ((n + 1 : Nat) : Int)), some (.int i), none, none, none] H1 = .ok (.bool true) H1 := by simp! [hi2]
   simp only [bnd, e8, Aw, ret]
   rw [if_pos trivial, seq (B7 e3)]
   simp! [CD]
  obtain ⟨w, K, e6, x6, r6, p6⟩ := LI (Ab := Ab) (d := d + (n + 1) + 1) (H0 := H) (n := n) (i := 4) (env := [some (.ref ra), some (.int ((n + 1 : Nat) : Int)), some (.int i), some (.ref G.length), some (.ref (G.length + 1)), none]) (E := .len (.attr (.var 4) 1)) rfl rfl (fun K sh g2 g3 => by
   have C7 : ys.length <= 100000 := by omega
   simp! [g2, g3, C7]) r3 x4 hp (by omega)
  exact ⟨w, K, (AV e5).trans e6, x6, r6, p6⟩
theorem Nu {C : Ef Fn} {s : MS Fn} {r : List (MS Fn)} {env Aj : Mine.Env} {v : V} (h : Ai C s env H = .ok (Aj, some v) H') : Ae C (s :: r) env H = .ok (Aj, some v) H' := by
 rw [Ae]
 simp only [bnd, h, ret]
theorem MW {C : Ef Fn} {s : MS Fn} {r : List (MS Fn)} {env Aj : Mine.Env} {v : V} (h : Ai C s env H = .ok (Aj, some v) H') : bnd (Ae C (s :: r) env) CQ H = .ok v H' := by
 unfold bnd
 rw [Nu h]
 rfl
theorem OL {C : Ef Fn} {env : Mine.Env} {e : ME Fn} {v : V} (h : Aa C e env H = .ok v H') : Ai C (.ret e) env H = .ok (env, some v) H' := by
 rw [Ai]; simp only [bnd, h, ret]
theorem MF {k : V} {X : ME Fn} {env : Mine.Env} {b : Nat} (h : Aa (AI Ab (d + 1)) X env H = .ok (.ref b) H') : Aa (AI Ab (d + 1)) (.mk .vector [.cst k, X]) env H = .ok (.ref H'.length) (H' ++ [.inst .vector [(0, k), (1, .ref b), (2, .none), (3, .bool false), (4, .bool false)]]) := by
 rw [Aa, Ap, Aa, Ap]
 simp only [bnd, ret, h]
 simp [Ap, bnd, ret, alloc, initOf, still, CD]
theorem Nw : (prog .BV).body = [.asg 1 (.bin .mod (.call .Ag [.var 0]) (.cst (.int 6))), .ifs (.cmp .eq (.var 1) (.cst (.int 4))) [.ret (.mk .vector [.cst (.w 8), .compR (.bin .mod (.call .Ag [.var 0]) (.cst (.int 9))) (.bin .mod (.call .Ag [.var 0]) (.cst (.int 4)))])] [],
   .ifs (.cmp .eq (.var 1) (.cst (.int 5))) [.ret (.mk .null [])] [], .asg 2 (.bin .mod (.call .Ag [.var 0]) (.cst (.int 4))), .asg 3 (.mk .vector [.cst (.w 7), .compR (.call .A7 [.var 0, .cst (.int 1)]) (.var 2)]), Sx 3 (.var 2), .ret (.var 3)] := rfl
theorem Rf (hr : BZ ra H) : WR (· = ra) ra (Bg Ab (d + 6) .BV [.ref ra]) H fun v H' => ∃ t, Be true 2 t /\ Bi (· = ra) H' t v := by
 have CV := hr.lt
 have Fi : CH (· = ra) H := fun x h => by rw [h]; exact CV
 obtain ⟨v, H1, e1, x1, r1, i, rfl, hi⟩ := CU (j := 0) (S := (· = ra)) (Ab := Ab) (d := d + 4) (C := AI Ab (d + 5)) (env := [some (.ref ra), none, none, none]) (n := 6) (N := .cst (.int 6)) rfl hr rfl rfl (by decide) fun _ => rfl
 have hSo1 := Fi.up x1
 have s0 := B7 (i := 1) e1
 have hrun : Bg Ab (d + 6) .BV [.ref ra] H = bnd (Ae (AI Ab (d + 5)) ((prog .BV).body.drop 1) [some (.ref ra), some (.int i), none, none]) CQ H1 := by
  rw [Db Ab rfl rfl, Nw]
  exact AV s0
 simp only [Nw, List.drop_succ_cons, List.drop_zero] at hrun
 by_cases h4 : i = 4
 .subst h4
  obtain ⟨v, H2, e2, x2, r2, k, rfl, hk⟩ := CU (j := 0) (S := (· = ra)) (Ab := Ab) (d := d + 4) (C := AI Ab (d + 5)) (env := [some (.ref ra), some (.int 4), none, none]) (n := 4) (N := .cst (.int 4)) rfl r1 rfl rfl (by decide) fun _ => rfl
  obtain ⟨ys, G, e3, x3, r3, hl, hp⟩ := FO (S := (· = ra)) (P := fun y _ => ∃ j : Nat, y = .int j /\ (j : Int) < 9) (C := AI Ab (d + 5)) (env := [some (.ref ra), some (.int 4), none, none]) (el := .bin .mod (.call .Ag [.var 0]) (.cst (.int 9))) (fun _ _ _ h _ => h) (k := k) (by omega) e2 r2 (fun x H3 x3 r3 => CU (j := 0) (S := (· = ra)) (Ab := Ab) (d := d + 4) (C := AI Ab (d + 5)) (N := .cst (.int 9)) rfl r3 rfl rfl (by decide) fun _ => rfl)
  have x4 := (x1.trans x2).trans x3
  have hSo4 := Fi.up x4
  refine ⟨.ref (G.length + 1), G ++ [.list ys, Ah 8 G.length .none (.bool false)], ?_, x4.trans (Ak.app _ _ _), r3.app _, .atom 8 ys none, .atom (.inl rfl) (by omega) (by intro l h; cases h) ⟨List.all_eq_true.mpr fun y hy => ?_, fun _ => ⟨by omega, fun _ y hy => ?_⟩⟩, Dc hSo4⟩
  .have hc : G ++ [An.list ys, Ah 8 G.length .none (.bool false)] = (G ++ [.list ys]) ++ [Ah 8 G.length .none (.bool false)] := by simp
   have BN : (G ++ [An.list ys]).length = G.length + 1 := by simp
   have e5 := MF (k := .w 8) e3
   rw [BN] at e5
   rw [hrun, hc]
   refine MW (Aj := [some (.ref ra), some (.int 4), none, none]) ?_
   rw [HH (j := 4) (H' := H1) rfl, if_pos rfl]
   exact Nu (OL e5)
  .obtain ⟨j, rfl, _⟩ := hp y hy; rfl
  .obtain ⟨j, rfl, _⟩ := hp y hy; exact ⟨j, rfl, by omega, by omega⟩
 .have s1 : Ai (AI Ab (d + 5)) (.ifs (.cmp .eq (.var 1) (.cst (.int 4))) [.ret (.mk .vector [.cst (.w 8), .compR (.bin .mod (.call .Ag [.var 0]) (.cst (.int 9))) (.bin .mod (.call .Ag [.var 0]) (.cst (.int 4)))])] []) [some (.ref ra), some (.int i), none, none] H1 = .ok ([some (.ref ra), some (.int i), none, none], none) H1 := by
   rw [HH (j := i) (H' := H1) rfl, if_neg (by omega)]
   rfl
  rw [AV s1] at hrun
  by_cases h5 : i = 5
  .subst h5
   refine ⟨.ref H1.length, H1 ++ [.inst .null [(0, .w 6), (2, .none)]], ?_, x1.trans (Ak.app _ _ _), r1.app _, .null, .null, Df hSo1⟩
   rw [hrun]
   simp! [GB]
  .have s2 : Ai (AI Ab (d + 5)) (.ifs (.cmp .eq (.var 1) (.cst (.int 5))) [.ret (.mk .null [])] []) [some (.ref ra), some (.int i), none, none] H1 = .ok ([some (.ref ra), some (.int i), none, none], none) H1 := by
    rw [HH (j := i) (H' := H1) rfl, if_neg (by omega)]
    rfl
   obtain ⟨v, H2, e2, x2, r2, k, rfl, hk⟩ := CU (j := 0) (S := (· = ra)) (Ab := Ab) (d := d + 4) (C := AI Ab (d + 5)) (env := [some (.ref ra), some (.int i), none, none]) (n := 4) (N := .cst (.int 4)) rfl r1 rfl rfl (by decide) fun _ => rfl
   obtain ⟨ys, G, e3, x3, r3, hl, hp⟩ := FO (S := (· = ra)) (P := fun y H => ∃ t, Be true 1 t /\ Bi (· = ra) H t y) (C := AI Ab (d + 5)) (env := [some (.ref ra), some (.int i), some (.int k), none]) (el := .call .A7 [.var 0, .cst (.int 1)]) (n := .var 2) (G := H2) (H := H2) (fun _ _ _ ⟨t, h1, h2⟩ x => ⟨t, h1, h2.up x⟩) (k := k) (by omega) (by simp [Aa, Au, ret]) r2 (fun x H3 x3 r3 => by
    obtain ⟨w, H4, e4, h4⟩ := ON (Ab := Ab) (d := d) 1 r3
    have e4' : Bg Ab (d + 5) .A7 [.ref ra, .int 1] H3 = .ok w H4 := e4
    refine ⟨w, H4, ?_, h4⟩
    simp! [e4'])
   have e5 := MF (k := .w 7) e3
   have hc : (G ++ [.list ys]) ++ [Ah 7 G.length .none (.bool false)] = G ++ [An.list ys, Ah 7 G.length .none (.bool false)] := by simp
   have BN : (G ++ [An.list ys]).length = G.length + 1 := by simp
   rw [BN, hc] at e5
   obtain ⟨w, K, e6, x6, r6, p6⟩ := LI (Ab := Ab) (d := d + 3) (H0 := H) (n := 1) (i := 3) (env := [some (.ref ra), some (.int i), some (.int k), some (.ref (G.length + 1))]) (E := .var 2) rfl rfl (fun K sh g2 g3 => by rw [hl]; simp [Aa, Au, ret]) r3 ((x1.trans x2).trans x3) hp (by omega)
   refine ⟨w, K, ?_, x6, r6, p6⟩
   rw [hrun, AV s2, AV (B7 (i := 2) e2)]
   exact (AV (B7 (i := 3) e5)).trans e6
abbrev O5 : List (MS Fn) := [.ifs (.cmp .gt (.var 3) (.cst (.int 0))) [.ex (.append (.var 1) (.bin .mod (.var 3) (.cst (.int 1024)))), .asg 3 (.bin .fdiv (.var 3) (.cst (.int 1024)))] []]
abbrev Lm : List (MS Fn) := [.asg 3 (.ite (.cmp .ge (.var 2) (.cst (.int 0))) (.var 2) (.bin .sub (.cst (.int 7)) (.var 2))), .ex (.append (.var 1) (.bin .mod (.var 3) (.cst (.int 1024)))), .asg 3 (.bin .fdiv (.var 3) (.cst (.int 1024))), .forN 4 (.cst (.int 30)) O5]
section
variable {c : An}
theorem Po {v2 : V} : ∀ (ls xs : List V) (f : Int) (e4 : Option V), xs.all FJ = true -> xs.length + ls.length <= 100000 ->
  ∃ xs' f' e4', CG (fun x env => Ae (AI Ab d) O5 (env.set 4 (some x))) (ret ()) ls [some .ext, some (.ref 1), some v2, some (.int f), e4] [.tab, .list xs, c] = .ok ([some .ext, some (.ref 1), some v2, some (.int f'), e4'], none) [.tab, .list xs', c] /\ xs'.length <= xs.length + ls.length /\ xs'.all FJ = true
 | [], xs, f, e4, h, _ => ⟨xs, f, e4, rfl, by simp, h⟩
 | l :: ls, xs, f, e4, h, hl => by
  simp only [List.length_cons] at hl
  by_cases hf : 0 < f
  .obtain ⟨xs', f', e4', e, h1, h2⟩ := Po (v2 := v2) ls (xs ++ [.int (f % 1024)]) (f / 1024) (some l) (by simp [List.all_append, h, FJ]) (by simp; omega)
   refine ⟨xs', f', e4', ?_, by simp at h1 ⊢; omega, h2⟩
   have hl2 : xs.length <= 100000 := by omega
   rw [CG]
   have s : Ae (AI Ab d) O5 ([some .ext, some (.ref 1), some v2, some (.int f), e4].set 4 (some l)) [.tab, .list xs, c] = .ok ([some .ext, some (.ref 1), some v2, some (.int (f / 1024)), some l], none) [.tab, .list (xs ++ [.int (f % 1024)]), c] := by
    simp! [hf, hl2]
   simp only [bnd, s, ret]
   exact e
  .obtain ⟨xs', f', e4', e, h1, h2⟩ := Po (v2 := v2) ls xs f (some l) h (by omega)
   refine ⟨xs', f', e4', ?_, by simp; omega, h2⟩
   rw [CG]
   have s : Ae (AI Ab d) O5 ([some .ext, some (.ref 1), some v2, some (.int f), e4].set 4 (some l)) [.tab, .list xs, c] = .ok ([some .ext, some (.ref 1), some v2, some (.int f), some l], none) [.tab, .list xs, c] := by
    simp! [hf]
   simp only [bnd, s, ret]
   exact e
theorem O9 : ∀ (ls : List Int) (xs : List V) (e2 e3 e4 : Option V), xs.all FJ = true -> xs.length + 31 * ls.length <= 99000 ->
  ∃ xs' e2' e3' e4', CG (fun x env => Ae (AI Ab d) Lm (env.set 2 (some x))) (stays (.ref 2) c) (ls.map .int) [some .ext, some (.ref 1), e2, e3, e4] [.tab, .list xs, c] = .ok ([some .ext, some (.ref 1), e2', e3', e4'], none) [.tab, .list xs', c] /\ xs'.length <= xs.length + 31 * ls.length /\ xs'.all FJ = true
 | [], xs, e2, e3, e4, h, _ => ⟨xs, e2, e3, e4, rfl, by simp, h⟩
 | l :: ls, xs, e2, e3, e4, h, hl => by
  simp only [List.length_cons] at hl
  obtain ⟨f, hf⟩ : ∃ f : Int, (if 0 <= l then l else 7 - l) = f := ⟨_, rfl⟩
  have hr30 : (B3 0 30).length = 30 := by simp [B3]
  obtain ⟨x1, f1, g4, e, h1, h2⟩ := Po (Ab := Ab) (d := d) (c := c) (v2 := .int l) (B3 0 30) (xs ++ [.int (f % 1024)]) (f / 1024) e4 (by simp [List.all_append, h, FJ]) (by rw [hr30]; simp; omega)
  rw [hr30] at h1
  simp only [List.length_append, List.length_cons, List.length_nil] at h1
  obtain ⟨xs', e2', e3', e4', ee, h3, h4⟩ := O9 ls x1 (some (.int l)) (some (.int f1)) g4 h2 (by omega)
  refine ⟨xs', e2', e3', e4', ?_, by simp; omega, h4⟩
  have hl2 : xs.length <= 100000 := by omega
  rw [List.map_cons, CG]
  have s1 : Ai (AI Ab d) (.asg 3 (.ite (.cmp .ge (.var 2) (.cst (.int 0))) (.var 2) (.bin .sub (.cst (.int 7)) (.var 2)))) ([some .ext, some (.ref 1), e2, e3, e4].set 2 (some (.int l))) [.tab, .list xs, c] = .ok ([some .ext, some (.ref 1), some (.int l), some (.int f), e4], none) [.tab, .list xs, c] := by
   subst hf
   by_cases h0 : 0 <= l
   .simp! [h0]
   .simp! [h0]
  have s2 : Ai (AI Ab d) (.ex (.append (.var 1) (.bin .mod (.var 3) (.cst (.int 1024))))) [some .ext, some (.ref 1), some (.int l), some (.int f), e4] [.tab, .list xs, c] = .ok ([some .ext, some (.ref 1), some (.int l), some (.int f), e4], none) [.tab, .list (xs ++ [.int (f % 1024)]), c] := by
   simp! [hl2]
  have s3 : Ai (AI Ab d) (.asg 3 (.bin .fdiv (.var 3) (.cst (.int 1024)))) [some .ext, some (.ref 1), some (.int l), some (.int f), e4] [.tab, .list (xs ++ [.int (f % 1024)]), c] = .ok ([some .ext, some (.ref 1), some (.int l), some (.int (f / 1024)), e4], none) [.tab, .list (xs ++ [.int (f % 1024)]), c] := by
   simp! []
  have s4 : Ai (AI Ab d) (.forN 4 (.cst (.int 30)) O5) [some .ext, some (.ref 1), some (.int l), some (.int (f / 1024)), e4] [.tab, .list (xs ++ [.int (f % 1024)]), c] = .ok ([some .ext, some (.ref 1), some (.int l), some (.int f1), g4], none) [.tab, .list x1, c] := by
   rw [Ai, Aa]
   simp only [bnd, ret]
   rw [if_pos (by decide)]
   exact e
  have s : Ae (AI Ab d) Lm ([some .ext, some (.ref 1), e2, e3, e4].set 2 (some (.int l))) [.tab, .list xs, c] = .ok ([some .ext, some (.ref 1), some (.int l), some (.int f1), g4], none) [.tab, .list x1, c] := by
   rw [Lm, seq s1, seq s2, seq s3, seq s4]; rfl
  simp only [bnd, s, CT (H := [.tab, .list x1, c]) (b := 2) (c := c) rfl]
  exact ee
theorem RV : ∃ G, Bg Ab (d + 1) .CY [.ext] [.tab] = .ok (.ref 3) G /\ BZ 3 G /\ G[0]? = some .tab := by
 obtain ⟨xs, e2, e3, e4, e, h1, h2⟩ := O9 (Ab := Ab) (d := d) (c := .list ((Ab.take 40).map .int)) (Ab.take 40) [] none none none rfl (by simp; omega)
 have hl : xs.length <= 1240 := by simp at h1; omega
 have hl2 : xs.length <= 100000 := by omega
 have hl3 : (Ab.take 40).length <= 100000 := by simp; omega
 have hl4 : (xs.take 160).length <= 100000 := by simp; omega
 refine ⟨[.tab, .list xs, .list ((Ab.take 40).map .int), .list (xs.take 160).reverse], ?_, ⟨(xs.take 160).reverse, rfl, by rw [List.length_reverse, List.length_take]; omega, ?_⟩, rfl⟩
 .have s1 : Ai (AI Ab d) (.asg 1 (.lst [])) [some .ext, none, none, none, none] [.tab] = .ok ([some .ext, some (.ref 1), none, none, none], none) [.tab, .list []] := by simp! []
  have s2 : Ai (AI Ab d) (.forE 2 (.cutTo (.var 0) (.cst (.int 40))) Lm) [some .ext, some (.ref 1), none, none, none] [.tab, .list []] = .ok ([some .ext, some (.ref 1), e2, e3, e4], none) [.tab, .list xs, .list ((Ab.take 40).map .int)] := by
   rw [Ai]
   have q : Aa (AI Ab d) (.cutTo (.var 0) (.cst (.int 40))) [some .ext, some (.ref 1), none, none, none] [.tab, .list []] = .ok (.ref 2) [.tab, .list [], .list ((Ab.take 40).map .int)] := by simp [Aa, bnd, ret, Au, cutTo, alloc]
   have q2 : C8 (.ref 2) [.tab, .list [], .list ((Ab.take 40).map .int)] = .ok ((Ab.take 40).map .int) [.tab, .list [], .list ((Ab.take 40).map .int)] := by
    have hl5 : ((Ab.take 40).map V.int).length <= Bz := by rw [List.length_map]; exact hl3
    simp only [C8, bnd, AJ, List.getElem?_cons_succ, List.getElem?_cons_zero, if_pos hl5, ret]
   have q3 : AJ (.ref 2) [.tab, .list [], .list ((Ab.take 40).map .int)] = .ok (.list ((Ab.take 40).map .int)) [.tab, .list [], .list ((Ab.take 40).map .int)] := rfl
   simp only [bnd, q, q2, q3]
   exact D6 e
  have s3 : Ai (AI Ab d) (.asg 1 (.cutTo (.var 1) (.cst (.int 160)))) [some .ext, some (.ref 1), e2, e3, e4] [.tab, .list xs, .list ((Ab.take 40).map .int)] = .ok ([some .ext, some (.ref 3), e2, e3, e4], none) [.tab, .list xs, .list ((Ab.take 40).map .int), .list (xs.take 160)] := by
   simp [Ai, Aa, bnd, ret, Au, cutTo, AJ, Bz, alloc, hl2]
  have s4 : Ai (AI Ab d) (.ex (.reverse (.var 1))) [some .ext, some (.ref 3), e2, e3, e4] [.tab, .list xs, .list ((Ab.take 40).map .int), .list (xs.take 160)] = .ok ([some .ext, some (.ref 3), e2, e3, e4], none) [.tab, .list xs, .list ((Ab.take 40).map .int), .list (xs.take 160).reverse] := by
   simp only [List.length_take] at hl4
   simp [Ai, Aa, bnd, ret, Au, EU, AJ, Dm, Bz, hl4]
  rw [Db Ab rfl rfl]
  show bnd (Ae (AI Ab d) [.asg 1 (.lst []), .forE 2 (.cutTo (.var 0) (.cst (.int 40))) Lm, .asg 1 (.cutTo (.var 1) (.cst (.int 160))), .ex (.reverse (.var 1)), .ret (.var 1)] [some .ext, none, none, none, none]) CQ [.tab] = _
  rw [AV s1, AV s2, AV s3, AV s4]
  simp [Ae, Ai, Aa, bnd, ret, Au]
 .rw [List.all_reverse, List.all_eq_true]
  exact fun x hx => List.all_eq_true.mp h2 x (List.mem_of_mem_take hx)
end
variable {t q t1 : Tr} {v val Aq put bv inner due ix : V} {env r : Mine.Env} {n k i j na du e36 : Nat} {key : Gc} {x7 x8 x9 x10 x11 x12 x13 x14 : Option V} {ts : List Tr} {ns : Option (List V)}
abbrev E0 : Nat -> Prop := fun _ => False
structure Fy (S0 : Nat -> Prop) (ra : Nat) (t q : Tr) (v val Aq put : V) (H : MH) : Prop where
 tab : H[0]? = some .tab
 row : BZ ra H
 sra : S0 ra
 s0 : ¬ S0 0
 sok : CH S0 H
 hv : Bi S0 H t v
 hq : Bi S0 H q val
 ht : Ar S0 H t Aq
 hp : Ar S0 H q put
theorem E0.up {S : Nat -> Prop} (x : Ak E0 H H') : Ak S H H' := x.more fun _ h => h.elim
theorem Fy.draw (I : Fy S0 ra t q v val Aq put H) (x : Ak S0 H H') (r : BZ ra H') : Fy S0 ra t q v val Aq put H' := by
 have h0 : At S0 H 0 .tab := ⟨I.tab, I.s0⟩
 exact ⟨(h0.up x (by intro k fs q; cases q)).1, r, I.sra, I.s0, I.sok.up x, I.hv.up x, I.hq.up x, I.ht.up x, I.hp.up x⟩
theorem Fy.up (I : Fy S0 ra t q v val Aq put H) (x : Ak E0 H H') : Fy S0 ra t q v val Aq put H' := I.draw (E0.up x) (I.row.up x id)
abbrev Ri (S0 S : Nat -> Prop) : Prop := ∀ x, S x -> S0 x
theorem B2 (h : Ri S0 S) (r : CH S0 H) : CH S H := fun x q => r x (h x q)
theorem Bi.two (h : Ri S0 S) {t : Tr} {v : V} (r : Bi S0 H t v) : Bi S H t v := r.chg fun x _ q => h x q
theorem Ar.two (h : Ri S0 S) {t : Tr} {v : V} (r : Ar S0 H t v) : Ar S H t v := r.chg fun x _ q => h x q
theorem Iy {α : Type} {m : M α} {Q : (Nat -> Prop) -> α -> MH -> Prop} (f : ∀ S, Ri S0 S -> W S m H (Q S)) : ∃ r H', m H = .ok r H' /\ Ak E0 H H' /\ Q S0 r H' := by
 obtain ⟨r, G, e, x, p⟩ := f S0 fun _ h => h
 obtain ⟨r', G', e', x', _⟩ := f E0 fun _ h => h.elim
 rw [e] at e'
 cases e'
 exact ⟨r, G, e, x', p⟩
theorem W.mono {α : Type} {m : M α} {Q P : α -> MH -> Prop} (h : W S m H Q) (i : ∀ r H', Ak S H H' -> Q r H' -> P r H') : W S m H P := by
 obtain ⟨r, G, e, x, p⟩ := h
 exact ⟨r, G, e, x, i r G x p⟩
theorem JE {C : Ef Fn} {f : Fn} {args : List (ME Fn)} {vs : List V} {H0 : MH} {Q : V -> MH -> Prop} (ha : Ap C args env H = .ok vs H0) (x : Ak S H H0) (h : W S (C.call f vs) H0 Q) : W S (Aa C (.call f args) env) H Q := by
 obtain ⟨r, G, e, x2, p⟩ := h
 refine ⟨r, G, ?_, x.trans x2, p⟩
 rw [Aa]
 simp only [bnd, ha]
 exact e
theorem FB {C : Ef Fn} {f : Fn} {args : List (ME Fn)} {vs : List V} {H0 : MH} {r : Except Nat Tr} (ha : Ap C args env H = .ok vs H0) (x : Ak S H H0) (h : CZ S (C.call f vs) H0 r) : CZ S (Aa C (.call f args) env) H r := by
 refine CZ.up h x (fun v G e => ?_) fun n G e => ?_
 .rw [Aa]; simp only [bnd, ha]; exact e
 .rw [Aa]; simp only [bnd, ha]; exact e
theorem IK {C : Ef Fn} {e : ME Fn} {r : Except Nat Tr} (ht : H[0]? = some .tab) (h : CZ S (Aa C e env) H r) : W S (Aa C (.kept e) env) H fun v H' => GX S H' r v := by
 obtain ⟨v, G, q, x, p⟩ := Lr h
 refine ⟨v, G, ?_, x, p⟩
 rw [Aa]
 exact (if_pos ht).trans q
theorem GZ {X : ME Fn} {r : Except Nat Tr} {n : Nat} (hn : n <= 3) (hS : CH S H) (hX : W S (Aa (AI Ab 15) X env) H fun v H' => GX S H' r v) (EN : ∀ t, r = .ok t -> Be st n t) : W S (Aa (AI Ab 15) (.call .AG [X]) env) H fun v H' => BJ S H' r v := by
 obtain ⟨v, G, e, x, p⟩ := hX
 have h := Nt (Ab := Ab) (d := 12 - n) (hS.up x) p EN
 have e0 : 12 - n + n + 3 = 15 := by omega
 rw [e0] at h
 exact JE (vs := [v]) (by simp only [Ap, bnd, e, ret]) x h
theorem LW {C : Ef Fn} {A B : ME Fn} (hA : W S (Aa C A env) H fun a H1 => W S (Aa C B env) H1 fun b H2 => Fg H2 a b = some true) : W S (Aa C (.cmp .ne A B) env) H fun r _ => r = .bool false := by
 obtain ⟨a, G, e, x, b, G2, e2, x2, p⟩ := hA
 refine ⟨.bool false, G2, ?_, x.trans x2, rfl⟩
 rw [Aa]
 simp only [bnd, e, e2, DM, Fu, Au, p, ret]
 rfl
theorem NZ {C : Ef Fn} {A : ME Fn} {s : List (MS Fn)} (h : W S (Aa C A env) H fun r _ => r = .bool false) : W S (Ai C (.ifs A s []) env) H fun p _ => p = (env, none) := by
 obtain ⟨a, G, e, x, rfl⟩ := h
 refine ⟨(env, none), G, ?_, x, rfl⟩
 rw [Ai]
 simp only [bnd, e, Aw, ret]
 rfl
theorem R8 {C : Ef Fn} {A B : ME Fn} {r : Except Nat Tr} {n : Nat} (hn : n <= 3) (EN : ∀ t, r = .ok t -> Be st n t) (hA : W S (Aa C A env) H fun a H1 => BJ S H1 r a) (hB : ∀ H1, Ak S H H1 -> W S (Aa C B env) H1 fun b H2 => BJ S H2 r b) : W S (Aa C (.cmp .ne A B) env) H fun r _ => r = .bool false :=
 LW (hA.mono fun _ H1 x p => (hB H1 x).mono fun _ _ x2 p2 => LP hn EN (BJ.up p x2) p2)
abbrev SB : ME Fn := .call .AG [.kept (.call .Ct [.var 2, .lst [.var 8], .var 9])]
abbrev Sm : ME Fn := .call .AG [.kept (.call .A1 [.var 2, .lst [.var 8], .var 3, .lst []])]
abbrev Sh : MS Fn := .ifs (.cmp .ne SB (.call .AA [.var 4, .var 7, .var 9])) [.bad] []
abbrev SO : MS Fn := .ifs (.cmp .ne Sm (.call .AO [.var 4, .var 7, .var 5])) [.bad] []
abbrev SK : MS Fn := .ifs (.or2 (.cmp .ne (.call .Am [.var 2]) (.var 4)) (.cmp .ne (.call .Am [.var 3]) (.var 5))) [.bad] []
abbrev QW : List (MS Fn) := [.asg 8 (.call .BQ [.var 7]), .forE 9 (.lst [.cst (.bool true), .cst (.bool false)]) [Sh], SO, SK]
abbrev DG (ra : Nat) (v val Aq put : V) (n : Nat) (x7 x8 x9 : Option V) (r : Mine.Env) : Mine.Env := some .ext :: some (.ref ra) :: some v :: some val :: some Aq :: some put :: some (.int n) :: x7 :: x8 :: x9 :: r
theorem Gi {A : ME Fn} {s : List (MS Fn)} (f : ∀ S, Ri S0 S -> W S (Aa (AI Ab 15) A env) H fun r _ => r = .bool false) : ∃ H', Ai (AI Ab 15) (.ifs A s []) env H = .ok (env, none) H' /\ Ak E0 H H' := by
 obtain ⟨p, G, e, x, rfl⟩ := Iy (S0 := S0) (m := Ai (AI Ab 15) (.ifs A s []) env) (H := H) (Q := fun _ p _ => p = (env, none)) fun S hS => NZ (f S hS)
 exact ⟨G, e, x⟩
theorem Sn {b : Bool} (Fi : CH S H) (tab : H[0]? = some .tab) (hv : Bi S H t v) (ht : Be true 2 t) (Bf : CL key) (hx : Bi S H (D8 key) ix) (h2 : (env[2]?).join = some v) (h8 : (env[8]?).join = some ix) (h9 : (env[9]?).join = some (.bool b)) : W S (Aa (AI Ab 15) SB env) H fun a H1 => BJ S H1 (Bn t key b) a := by
 have xa : Ak S H (H ++ [An.list [ix]]) := Ak.app _ _ _
 refine GZ (n := 2) (st := false) (by omega) Fi (IK tab (FB (C := AI Ab 15) (vs := [v, .ref H.length, .bool b]) (H0 := H ++ [.list [ix]]) ?_ xa (Mw (Ab := Ab) (d := 8) (Fi.up xa) (hv.up xa) ht (hx.up xa) Bf (by simp)))) fun t1 h => G8 ht h
 simp [Ap, Aa, bnd, ret, Au, Bz, alloc, h2, h8, h9]
theorem St (Fi : CH S H) (tab : H[0]? = some .tab) (hv : Bi S H t v) (ht : Be true 2 t) (hq : Bi S H q val) (Ez : Be true 1 q) (Bf : CL key) (hx : Bi S H (D8 key) ix) (h2 : (env[2]?).join = some v) (h3 : (env[3]?).join = some val) (h8 : (env[8]?).join = some ix) : W S (Aa (AI Ab 15) Sm env) H fun a H1 => BJ S H1 (Do t key q) a := by
 have xa : Ak S H (H ++ [An.list [ix], .list []]) := Ak.app _ _ _
 refine GZ (n := 2) (st := false) (by omega) Fi (IK tab (FB (C := AI Ab 15) (vs := [v, .ref H.length, val, .ref (H.length + 1)]) (H0 := H ++ [.list [ix], .list []]) ?_ xa (GU (Ab := Ab) (d := 3) (Fi.up xa) (hv.up xa) ht (hx.up xa) Bf (hq.up xa) Ez (.inl rfl) (by simp)))) fun t1 h => GR ht Ez Bf h (by omega) (by omega)
 simp [Ap, Aa, bnd, ret, Au, Bz, alloc, h2, h3, h8]
theorem M1 {m : Nat} {b : Bool} {i j : Nat} {B : ME Fn} (Fi : CH S H) (ht : Ar S H t Aq) (EN : Be st m t) (Bf : CL key) (hi : (env[i]?).join = some Aq) (hj : (env[j]?).join = some (BY key)) (hb : ∀ G, Aa (AI Ab 15) B env G = .ok (.bool b) G) : W S (Aa (AI Ab 15) (.call .AA [.var i, .var j, B]) env) H fun a H1 => BJ S H1 (Bn t key b) a := by
 refine JE (C := AI Ab 15) (vs := [Aq, BY key, .bool b]) (H0 := H) ?_ (Ak.refl _ _) (LV (Ab := Ab) (d := 12) Fi ht EN Bf)
 simp [Ap, Aa, bnd, ret, Au, hi, hj, hb]
theorem Ko {m m' : Nat} {i j k : Nat} (Fi : CH S H) (ht : Ar S H t Aq) (EN : Be true m t) (Bf : CL key) (hq : Ar S H q put) (Ez : Be st m' q) (hsq : st = true \/ ∃ ts ns, t = .list ts ns) (hi : (env[i]?).join = some Aq) (hj : (env[j]?).join = some (BY key)) (hk : (env[k]?).join = some put) : W S (Aa (AI Ab 15) (.call .AO [.var i, .var j, .var k]) env) H fun a H1 => BJ S H1 (Do t key q) a := by
 refine JE (C := AI Ab 15) (vs := [Aq, BY key, put]) (H0 := H) ?_ (Ak.refl _ _) (RH (Ab := Ab) (d := 12) Fi ht EN Bf hq Ez hsq)
 simp [Ap, Aa, bnd, ret, Au, hi, hj, hk]
theorem OR {b : Bool} (I : Fy S0 ra t q v val Aq put H) (ht : Be true 2 t) (Bf : CL key) (hx : Bi S0 H (D8 key) ix) :
  ∃ H', Ai (AI Ab 15) Sh (DG ra v val Aq put n (some (BY key)) (some ix) (some (.bool b)) r) H = .ok (DG ra v val Aq put n (some (BY key)) (some ix) (some (.bool b)) r, none) H' /\ Ak E0 H H' :=
 Gi fun S hS => R8 (n := 2) (st := false) (r := Bn t key b) (by omega) (fun t1 h => G8 ht h) (Sn (B2 hS I.sok) I.tab (I.hv.two hS) ht Bf (hx.two hS) rfl rfl rfl)
  fun H1 x1 => M1 ((B2 hS I.sok).up x1) ((I.ht.two hS).up x1) ht Bf rfl rfl fun _ => rfl
theorem RB (I : Fy S0 ra t q v val Aq put H) (ht : Be true 2 t) (hq : Be true 1 q) (Bf : CL key) (hx : Bi S0 H (D8 key) ix) :
  ∃ H', Ai (AI Ab 15) SO (DG ra v val Aq put n (some (BY key)) (some ix) x9 r) H = .ok (DG ra v val Aq put n (some (BY key)) (some ix) x9 r, none) H' /\ Ak E0 H H' :=
 Gi fun S hS => R8 (n := 2) (st := false) (r := Do t key q) (by omega) (fun t1 h => GR ht hq Bf h (by omega) (by omega)) (St (B2 hS I.sok) I.tab (I.hv.two hS) ht (I.hq.two hS) hq Bf (hx.two hS) rfl rfl rfl)
  fun H1 x1 => Ko ((B2 hS I.sok).up x1) ((I.ht.two hS).up x1) ht Bf ((I.hp.two hS).up x1) hq (.inl rfl) rfl rfl rfl
theorem Ki {t : Tr} {n i j : Nat} {w h : V} (hn : n <= 3) (Fi : CH S H) (ht : Be st n t) (hw : Bi S H t w) (hh : Ar S H t h) (hi : (env[i]?).join = some w) (hj : (env[j]?).join = some h) : W S (Aa (AI Ab 15) (.cmp .ne (.call .Am [.var i]) (.var j)) env) H fun r _ => r = .bool false := by
 refine LW ?_
 have hv := Ja (Ab := Ab) (d := 13 - n) n ht Fi hw
 have e0 : 13 - n + n + 2 = 15 := by omega
 rw [e0] at hv
 refine (JE (C := AI Ab 15) (vs := [w]) (H0 := H) (by simp [Ap, Aa, bnd, ret, Au, hi]) (Ak.refl _ _) hv).mono fun a H1 x p => ?_
 exact ⟨h, H1, by simp [Aa, Au, hj, ret], Ak.refl _ _, KF hn ht p (hh.up x)⟩
theorem RD (I : Fy S0 ra t q v val Aq put H) (ht : Be true 2 t) (hq : Be true 1 q) :
  ∃ H', Ai (AI Ab 15) SK (DG ra v val Aq put n x7 x8 x9 r) H = .ok (DG ra v val Aq put n x7 x8 x9 r, none) H' /\ Ak E0 H H' := by
 refine Gi (S0 := S0) fun S hS => ?_
 have Fi := B2 hS I.sok
 obtain ⟨a, H1, e1, x1, rfl⟩ := Ki (Ab := Ab) (env := DG ra v val Aq put n x7 x8 x9 r) (i := 2) (j := 4) (by omega) Fi ht (I.hv.two hS) (I.ht.two hS) rfl rfl
 obtain ⟨a, H2, e2, x2, rfl⟩ := Ki (Ab := Ab) (env := DG ra v val Aq put n x7 x8 x9 r) (i := 3) (j := 5) (by omega) (Fi.up x1) hq ((I.hq.two hS).up x1) ((I.hp.two hS).up x1) rfl rfl
 refine ⟨.bool false, H2, ?_, x1.trans x2, rfl⟩
 rw [Aa]
 simp only [bnd, e1, Aw, ret]
 exact e2
theorem Nc {C : Ef Fn} {i l : Nat} {X : ME Fn} {b : List (MS Fn)} {xs : List V} (h : Aa C X env H = .ok (.ref l) H') (hl : H'[l]? = some (.list xs)) (hx : xs.length <= 100) : Ai C (.forE i X b) env H = still (CG (fun x env => Ae C b (env.set i (some x))) (stays (.ref l) (.list xs)) xs env) H' := by
 have h1 : AJ (.ref l) H' = .ok (.list xs) H' := by simp [AJ, hl]
 have h3 : xs.length <= Bz := by unfold Bz; omega
 have h2 : C8 (.ref l) H' = .ok xs H' := by simp only [C8, bnd, h1, if_pos h3, ret]
 rw [Ai]
 simp only [bnd, h, h1, h2]
theorem EY {f : V -> Mine.Env -> M (Mine.Env × Option V)} {post : M Unit} {x : V} {xs : List V} {Aj : Mine.Env} {R : R (Mine.Env × Option V)} (h : f x env H = .ok (Aj, none) H') (hp : post H' = .ok () H') (hr : CG f post xs Aj H' = R) : CG f post (x :: xs) env H = R := by
 rw [CG]
 simp only [bnd, h, hp]
 exact hr
theorem KW (I : Fy S0 ra t q v val Aq put H) (ht : Be true 2 t) (hq : Be true 1 q) (Bf : CL key) :
  ∃ H' x8' x9', Ae (AI Ab 15) QW (DG ra v val Aq put n (some (BY key)) x8 x9 r) H = .ok (DG ra v val Aq put n (some (BY key)) x8' x9' r, none) H' /\ Ak E0 H H' := by
 obtain ⟨ix, H1, e1, x1, p1⟩ := Iy (S0 := S0) (m := Aa (AI Ab 15) (.call .BQ [.var 7]) (DG ra v val Aq put n (some (BY key)) x8 x9 r)) (H := H) (Q := fun S a H1 => Bi S H1 (D8 key) a) fun S hS =>
  JE (C := AI Ab 15) (vs := [BY key]) (H0 := H) (by simp [Ap, Aa, bnd, ret, Au]) (Ak.refl _ _) (PU (Ab := Ab) (d := 13) (B2 hS I.sok) Bf)
 have I1 := I.up x1
 have a2 : Ak E0 H1 (H1 ++ [An.list [.bool true, .bool false]]) := Ak.app _ _ _
 have a2' : Ak S0 H1 (H1 ++ [An.list [.bool true, .bool false]]) := Ak.app _ _ _
 have I2 := I1.up a2
 have hl : At E0 (H1 ++ [An.list [.bool true, .bool false]]) H1.length (.list [.bool true, .bool false]) := ⟨by simp, id⟩
 obtain ⟨H3, e3, x3⟩ := OR (Ab := Ab) (n := n) (r := r) (b := true) I2 ht Bf (p1.up a2')
 have x3' : Ak S0 (H1 ++ [An.list [.bool true, .bool false]]) H3 := x3.more fun _ h => h.elim
 obtain ⟨H4, e4, x4⟩ := OR (Ab := Ab) (n := n) (r := r) (b := false) (I2.up x3) ht Bf ((p1.up a2').up x3')
 have x4' : Ak S0 H3 H4 := x4.more fun _ h => h.elim
 have s2 : Ai (AI Ab 15) (.forE 9 (.lst [.cst (.bool true), .cst (.bool false)]) [Sh]) (DG ra v val Aq put n (some (BY key)) (some ix) x9 r) H1 = .ok (DG ra v val Aq put n (some (BY key)) (some ix) (some (.bool false)) r, none) H4 := by
  rw [Nc (H' := H1 ++ [An.list [.bool true, .bool false]]) (l := H1.length) (xs := [.bool true, .bool false]) (by simp [Aa, Ap, bnd, ret, Bz, alloc]) hl.1 (by simp)]
  refine D6 (EY (H' := H3) (Aj := DG ra v val Aq put n (some (BY key)) (some ix) (some (.bool true)) r) ?_ (CT (hl.upL x3).1) (EY (H' := H4) (Aj := DG ra v val Aq put n (some (BY key)) (some ix) (some (.bool false)) r) ?_ (CT ((hl.upL x3).upL x4).1) rfl))
  .exact seq e3
  .exact seq e4
 have I4 := (I2.up x3).up x4
 obtain ⟨H5, e5, x5⟩ := RB (Ab := Ab) (n := n) (r := r) (x9 := some (.bool false)) I4 ht hq Bf (((p1.up a2').up x3').up x4')
 obtain ⟨H6, e6, x6⟩ := RD (Ab := Ab) (n := n) (r := r) (x7 := some (BY key)) (x8 := some ix) (x9 := some (.bool false)) (I4.up x5) ht hq
 refine ⟨H6, some ix, some (.bool false), ?_, x1.trans (a2.trans (x3.trans (x4.trans (x5.trans x6))))⟩
 rw [QW, seq (B7 e1)]
 refine (seq s2).trans ?_
 rw [seq e5, seq e6]
 rfl
abbrev KY (k : Nat) : List (MS Fn) := (prog .Bq).body.drop k
theorem PB : (prog .Bq).body = [.asg 1 (.call .CY [.var 0]), .asg 2 (.call .BV [.var 1]), .asg 3 (.call .A7 [.var 1, .cst (.int 1)]), .asg 4 (.call .Am [.var 2]), .asg 5 (.call .Am [.var 3]), .asg 6 (.ite (.cmp .eq (.var 4) (.cst (.w 6))) (.cst (.int 0)) (.len (.idx (.var 4) (.cst (.int 1)))))] ++ KY 6 := rfl
abbrev Sc : Mine.Env := [none, none, none, none, none, none, none, none, none]
theorem Gd {C : Ef Fn} {f : Fn} {args : List (ME Fn)} {vs : List V} {r : V} (ha : ∀ G, Ap C args env G = .ok vs G) (h : C.call f vs H = .ok r H') : Aa C (.call f args) env H = .ok r H' := by
 rw [Aa]
 simp only [bnd, ha]
 exact h
theorem OG {k : Nat} (hv : Ar S H t Aq) (ht : Be st k t) (h4 : (env[4]?).join = some Aq) : Aa (AI Ab 15) (.ite (.cmp .eq (.var 4) (.cst (.w 6))) (.cst (.int 0)) (.len (.idx (.var 4) (.cst (.int 1))))) env H = .ok (.int t.len) H := by
 by_cases C1 : t = .null
 .subst C1
  rw [Ar] at hv
  subst hv
  simp! [h4, Tr.len]
 .obtain ⟨k, a, b, xs, u, hk, rfl, h1, h2, h3, h5, h6, _⟩ := CB hv ht C1
  have a1 := h1.1
  have b1 := h2.1
  have hl : xs.length <= 100000 := by omega
  rw [<- h5]
  simp! [h4, a1, b1, hl]
theorem NS : ∃ v val Aq put t q G, Be true 2 t /\ Be true 1 q /\ Fy (· = 3) 3 t q v val Aq put G /\ Bg Ab 16 .Bq [.ext] [.tab] = bnd (Ae (AI Ab 15) (KY 6) (DG 3 v val Aq put t.len none none none Sc)) CQ G := by
 obtain ⟨H1, e1, r1, t1⟩ := RV (Ab := Ab) (d := 14)
 obtain ⟨v, H2, e2, x2, r2, t, ht, hv⟩ := Rf (Ab := Ab) (d := 9) r1
 obtain ⟨val, H3, e3, x3, r3, q, hq, hval⟩ := ON (Ab := Ab) (d := 10) 1 r2
 have a0 : At (· = 3) H1 0 .tab := ⟨t1, by decide⟩
 have a3 := (a0.up x2 (by intro k fs q; cases q)).up x3 (by intro k fs q; cases q)
 have hS3 : CH (· = 3) H3 := fun x h => by rw [h]; exact r3.lt
 obtain ⟨Aq, H4, e4, x4, p4⟩ := Iy (S0 := (· = 3)) (m := Bg Ab 15 .Am [v]) (H := H3) (Q := fun S r G => Ar S G t r) fun S hS => Ja (Ab := Ab) (d := 11) 2 ht (B2 hS hS3) ((hv.up x3).two hS)
 have y4 : Ak (· = 3) H3 H4 := E0.up x4
 obtain ⟨put, H5, e5, x5, p5⟩ := Iy (S0 := (· = 3)) (m := Bg Ab 15 .Am [val]) (H := H4) (Q := fun S r G => Ar S G q r) fun S hS => Ja (Ab := Ab) (d := 12) 1 hq (B2 hS (hS3.up y4)) ((hval.up y4).two hS)
 have y5 : Ak (· = 3) H4 H5 := E0.up x5
 refine ⟨v, val, Aq, put, t, q, H5, ht, hq, ⟨((a3.up y4 (by intro k fs q; cases q)).up y5 (by intro k fs q; cases q)).1, (r3.up x4 id).up x5 id, rfl, by decide, (hS3.up y4).up y5, ((hv.up x3).up y4).up y5, (hval.up y4).up y5, p4.up y5, p5⟩, ?_⟩
 have g1 : (AI Ab 15).call .CY [.ext] [.tab] = .ok (.ref 3) H1 := e1
 have g2 : (AI Ab 15).call .BV [.ref 3] H1 = .ok v H2 := e2
 have g3 : (AI Ab 15).call .A7 [.ref 3, .int 1] H2 = .ok val H3 := e3
 have g4 : (AI Ab 15).call .Am [v] H3 = .ok Aq H4 := e4
 have g5 : (AI Ab 15).call .Am [val] H4 = .ok put H5 := e5
 have s1 := B7 (C := AI Ab 15) (i := 1) (env := some .ext :: List.replicate 18 none) (Gd (args := [.var 0]) (vs := [.ext]) (fun _ => rfl) g1)
 have s2 := B7 (C := AI Ab 15) (i := 2) (env := some .ext :: some (.ref 3) :: List.replicate 17 none) (Gd (args := [.var 1]) (vs := [.ref 3]) (fun _ => rfl) g2)
 have s3 := B7 (C := AI Ab 15) (i := 3) (env := some .ext :: some (.ref 3) :: some v :: List.replicate 16 none) (Gd (args := [.var 1, .cst (.int 1)]) (vs := [.ref 3, .int 1]) (fun _ => rfl) g3)
 have s4 := B7 (C := AI Ab 15) (i := 4) (env := some .ext :: some (.ref 3) :: some v :: some val :: List.replicate 15 none) (Gd (args := [.var 2]) (vs := [v]) (fun _ => rfl) g4)
 have s5 := B7 (C := AI Ab 15) (i := 5) (env := some .ext :: some (.ref 3) :: some v :: some val :: some Aq :: List.replicate 14 none) (Gd (args := [.var 3]) (vs := [val]) (fun _ => rfl) g5)
 have s6 := B7 (i := 6) (OG (Ab := Ab) (env := some .ext :: some (.ref 3) :: some v :: some val :: some Aq :: some put :: List.replicate 13 none) (p4.up y5) ht rfl)
 rw [Db Ab rfl rfl, PB]
 exact ((((((AV s1).trans (AV s2)).trans (AV s3)).trans (AV s4)).trans (AV s5)).trans (AV s6))
abbrev Mp : MS Fn := .forE 7 (.lst [.bin .mod (.call .Ag [.var 1]) (.bin .add (.var 6) (.cst (.int 3))), .idx (.lst [.cst (.w 12), .cst (.w 14), .cst (.w 13), .cst (.w 17), .cst (.w 16)]) (.bin .mod (.call .Ag [.var 1]) (.cst (.int 5))), .cst (.w 10)]) QW
theorem Tf : KY 6 = Mp :: .asg 10 (.idx (.lst [.cst (.w 12), .cst (.w 14), .cst (.w 13), .cst (.w 17)]) (.bin .mod (.call .Ag [.var 1]) (.cst (.int 4)))) :: KY 8 := rfl
theorem QD (I : Fy S0 ra t q v val Aq put H) (ht : Be true 2 t) (hq : Be true 1 q) : ∃ H' x7' x8' x9', Ai (AI Ab 15) Mp (DG ra v val Aq put t.len x7 x8 x9 r) H = .ok (DG ra v val Aq put t.len x7' x8' x9' r, none) H' /\ Fy S0 ra t q v val Aq put H' := by
 have h4 := (KG ht).1
 obtain ⟨w, H1, e1, x1, r1, i, rfl, hi⟩ := CU (S := S0) (Ab := Ab) (d := 14) (C := AI Ab 15) (env := DG ra v val Aq put t.len x7 x8 x9 r) (n := (t.len : Int) + 3) (N := .bin .add (.var 6) (.cst (.int 3))) (j := 1) rfl I.row I.sra rfl (by omega) (fun G => by simp [Aa, bnd, ret, Au, HK])
 have I1 := I.draw x1 r1
 obtain ⟨w, H2, e2, x2, r2, hw⟩ := draw (S := S0) (Ab := Ab) (d := 14) (C := AI Ab 15) (env := DG ra v val Aq put t.len x7 x8 x9 r) (xs := [.w 12, .w 14, .w 13, .w 17, .w 16]) (n := 5) (es := [.cst (.w 12), .cst (.w 14), .cst (.w 13), .cst (.w 17), .cst (.w 16)]) (j := 1) rfl I1.sok I1.row I.sra rfl (fun G => by simp [Ap, Aa, bnd, ret]) rfl (by simp) (by simp)
 have I2 := I1.draw x2 r2
 obtain ⟨k, rfl, hk⟩ : ∃ k, w = .w k /\ 12 <= k /\ k < 18 := by
  simp at hw
  rcases hw with rfl | rfl | rfl | rfl | rfl <;> exact ⟨_, rfl, by omega, by omega⟩
 have a3 : Ak E0 H2 (H2 ++ [An.list [.int i, .w k, .w 10]]) := Ak.app _ _ _
 have I3 := I2.up a3
 have hl : At E0 (H2 ++ [An.list [.int i, .w k, .w 10]]) H2.length (.list [.int i, .w k, .w 10]) := ⟨by simp, id⟩
 obtain ⟨H4, y8, y9, e4, x4⟩ := KW (Ab := Ab) (n := t.len) (key := .num i) (x8 := x8) (x9 := x9) (r := r) I3 ht hq (show i <= 6 by omega)
 obtain ⟨H5, z8, z9, e5, x5⟩ := KW (Ab := Ab) (n := t.len) (key := .nm k) (x8 := y8) (x9 := y9) (r := r) (I3.up x4) ht hq hk
 obtain ⟨H6, u8, u9, e6, x6⟩ := KW (Ab := Ab) (n := t.len) (key := .na) (x8 := z8) (x9 := z9) (r := r) ((I3.up x4).up x5) ht hq trivial
 refine ⟨H6, some (.w 10), u8, u9, ?_, ((I3.up x4).up x5).up x6⟩
 have eX : Aa (AI Ab 15) (.lst [.bin .mod (.call .Ag [.var 1]) (.bin .add (.var 6) (.cst (.int 3))), .idx (.lst [.cst (.w 12), .cst (.w 14), .cst (.w 13), .cst (.w 17), .cst (.w 16)]) (.bin .mod (.call .Ag [.var 1]) (.cst (.int 5))), .cst (.w 10)]) (DG ra v val Aq put t.len x7 x8 x9 r) H = .ok (.ref H2.length) (H2 ++ [An.list [.int i, .w k, .w 10]]) := by
  rw [Aa, Ap, Ap, Ap, Ap]
  simp only [bnd, e1, e2]
  simp [Aa, bnd, ret, Bz, alloc]
 rw [Mp, Nc eX hl.1 (by simp)]
 exact D6 (EY e4 (CT (hl.upL x4).1) (EY e5 (CT ((hl.upL x4).upL x5).1) (EY e6 (CT (((hl.upL x4).upL x5).upL x6).1) rfl)))
theorem QC (I : Fy S0 ra t q v val Aq put H) : ∃ H' k, Ai (AI Ab 15) (.asg 10 (.idx (.lst [.cst (.w 12), .cst (.w 14), .cst (.w 13), .cst (.w 17)]) (.bin .mod (.call .Ag [.var 1]) (.cst (.int 4))))) (DG ra v val Aq put n x7 x8 x9 Sc) H = .ok (DG ra v val Aq put n x7 x8 x9 [some (.w k), none, none, none, none, none, none, none, none], none) H' /\ Fy S0 ra t q v val Aq put H' /\ 12 <= k /\ k < 18 := by
 obtain ⟨w, H2, e2, x2, r2, hw⟩ := draw (S := S0) (Ab := Ab) (d := 14) (C := AI Ab 15) (env := DG ra v val Aq put n x7 x8 x9 Sc) (xs := [.w 12, .w 14, .w 13, .w 17]) (n := 4) (es := [.cst (.w 12), .cst (.w 14), .cst (.w 13), .cst (.w 17)]) (j := 1) rfl I.sok I.row I.sra rfl (fun G => by simp [Ap, Aa, bnd, ret]) rfl (by simp) (by simp)
 have I2 := I.draw x2 r2
 obtain ⟨k, rfl, hk⟩ : ∃ k, w = .w k /\ 12 <= k /\ k < 18 := by
  simp at hw
  rcases hw with rfl | rfl | rfl | rfl <;> exact ⟨_, rfl, by omega, by omega⟩
 exact ⟨H2, k, B7 e2, I2, hk⟩
def Tr.isAt : Tr -> Bool
 | .atom _ _ _ => true
 | _ => false
abbrev RO : ME Fn := .and2 (.cmp .ne (.var 4) (.cst (.w 6))) (.cmp .ne (.idx (.var 4) (.cst (.int 0))) (.cst (.w 7)))
abbrev R5 : MS Fn := .asg 11 (.kept (.call .CS [.var 2, .var 10]))
abbrev Mg : MS Fn := .ifs RO [.ifs (.cmp .ne (.var 11) (.cst (.w 30))) [.bad] []] [.ifs (.cmp .ne (.call .AG [.var 11]) (.call .AA [.var 4, .var 10, .cst (.bool false)])) [.bad] []]
theorem SV : KY 8 = R5 :: Mg :: KY 10 := rfl
theorem Er {C : Ef Fn} {A : ME Fn} {a e : List (MS Fn)} {b : Bool} (h : Aa C A env H = .ok (.bool b) H') : Ai C (.ifs A a e) env H = (if b then Ae C a env else Ae C e env) H' := by
 rw [Ai]
 simp only [bnd, h, Aw, ret]
theorem Kt {m : Nat} {C : Ef Fn} (ht : Ar S H t Aq) (EN : Be st m t) (h4 : (env[4]?).join = some Aq) : Aa C RO env H = .ok (.bool t.isAt) H /\ Aa C (.cmp .ne (.var 4) (.cst (.w 6))) env H = .ok (.bool (!t.isNull)) H /\ (t ≠ .null -> Aa C (.cmp .ne (.idx (.var 4) (.cst (.int 0))) (.cst (.w 7))) env H = .ok (.bool t.isAt) H /\ Aa C (.cmp .eq (.idx (.var 4) (.cst (.int 0))) (.cst (.w 7))) env H = .ok (.bool (!t.isAt)) H) := by
 by_cases C1 : t = .null
 .subst C1
  rw [Ar] at ht
  subst ht
  exact ⟨by simp! [RO, h4, Tr.isAt], by simp! [h4, Tr.isNull], fun h => absurd rfl h⟩
 .obtain ⟨k, a, b, xs, u, hk, rfl, h1, h2, h3, h5, h6, _, h7⟩ := CB ht EN C1
  have a1 := h1.1
  cases EN with
  | null => exact absurd rfl C1
  | atom hk2 hx hn hi =>
   have k7 : ¬ k = 7 := fun h => by obtain ⟨_, _, e⟩ := h7.mp h; cases e
   have k7' : (k == 7) = false := by simpa using k7
   exact ⟨by simp! [RO, h4, Tr.isAt, a1, k7, k7'], by simp! [h4, Tr.isNull, a1], fun _ => ⟨by simp! [h4, Tr.isAt, a1, k7, k7'], by simp! [h4, Tr.isAt, a1, k7, k7']⟩⟩
  | list hx hn hs hts =>
   have k7 := h7.mpr ⟨_, _, rfl⟩
   subst k7
   exact ⟨by simp! [RO, h4, Tr.isAt, a1], by simp! [h4, Tr.isNull, a1], fun _ => ⟨by simp! [h4, Tr.isAt, a1], by simp! [h4, Tr.isAt, a1]⟩⟩
theorem GX.two {r : Except Nat Tr} {a : V} (h : Ri S0 S) (p : GX S0 H r a) : GX S H r a := by
 cases r with
 | ok t => exact Bi.two h p
 | error e => exact p
theorem NH (I : Fy S0 ra t q v val Aq put H) (ht : Be true 2 t) (hk : 12 <= k /\ k < 18) : ∃ H' told, bnd (Ae (AI Ab 15) (KY 8) (DG ra v val Aq put n x7 x8 x9 [some (.w k), none, none, none, none, none, none, none, none])) CQ H = bnd (Ae (AI Ab 15) (KY 10) (DG ra v val Aq put n x7 x8 x9 [some (.w k), some told, none, none, none, none, none, none, none])) CQ H' /\ Fy S0 ra t q v val Aq put H' := by
 obtain ⟨told, H1, e1, x1, p1⟩ := Iy (S0 := S0) (m := Aa (AI Ab 15) (.kept (.call .CS [.var 2, .var 10])) (DG ra v val Aq put n x7 x8 x9 [some (.w k), none, none, none, none, none, none, none, none])) (H := H) (Q := fun S a G => GX S G (KQ t k) a) fun S hS =>
  IK I.tab (FB (C := AI Ab 15) (vs := [v, .w k]) (H0 := H) (by simp [Ap, Aa, bnd, ret, Au]) (Ak.refl _ _) (CS (Ab := Ab) (d := 9) (B2 hS I.sok) (I.hv.two hS) ht hk))
 have I1 := I.up x1
 have s9 := B7 (i := 11) e1
 obtain ⟨hc, _⟩ := Kt (C := AI Ab 15) (env := DG ra v val Aq put n x7 x8 x9 [some (.w k), some told, none, none, none, none, none, none, none]) I1.ht ht rfl
 have s10 : ∃ H2, Ai (AI Ab 15) Mg (DG ra v val Aq put n x7 x8 x9 [some (.w k), some told, none, none, none, none, none, none, none]) H1 = .ok (DG ra v val Aq put n x7 x8 x9 [some (.w k), some told, none, none, none, none, none, none, none], none) H2 /\ Ak E0 H1 H2 := by
  rw [Mg, Er hc]
  cases ht' : t.isAt with
  | true =>
   have : told = .w 30 := by
    cases t with
    | atom _ _ _ => exact p1
    | null => cases ht'
    | list _ _ => cases ht'
   subst this
   refine ⟨H1, ?_, Ak.refl _ _⟩
   simp! []
  | false =>
   have hde : KQ t k = Bn t (.nm k) false := by
    cases t with
    | atom _ _ _ => cases ht'
    | null => rfl
    | list _ _ => rfl
   rw [hde] at p1
   obtain ⟨H2, e2, x2⟩ := Gi (Ab := Ab) (S0 := S0) (H := H1) (s := [.bad]) (env := DG ra v val Aq put n x7 x8 x9 [some (.w k), some told, none, none, none, none, none, none, none]) (A := .cmp .ne (.call .AG [.var 11]) (.call .AA [.var 4, .var 10, .cst (.bool false)])) fun S hS =>
    R8 (n := 2) (st := false) (r := Bn t (.nm k) false) (by omega) (fun t1 h => G8 ht h) (GZ (n := 2) (st := false) (by omega) (B2 hS I1.sok) ⟨told, H1, by simp [Aa, Au, ret], Ak.refl _ _, GX.two hS p1⟩ fun t1 h => G8 ht h)
     fun G xG => M1 (key := .nm k) ((B2 hS I1.sok).up xG) ((I1.ht.two hS).up xG) ht hk rfl rfl fun _ => rfl
   exact ⟨H2, (seq e2).trans rfl, x2⟩
 obtain ⟨H2, e2, x2⟩ := s10
 refine ⟨H2, told, ?_, I1.up x2⟩
 rw [SV]
 exact (AV s9).trans (AV e2)
abbrev KR : MS Fn := .ifs (.cmp .eq (.var 4) (.cst (.w 6))) [.asg 13 (.tup [.cst (.w 7), .lst [], .dct0])] [.ifs (.cmp .ne (.idx (.var 4) (.cst (.int 0))) (.cst (.w 7))) [.asg 13 (.call .AW [.var 4])] []]
abbrev Sb : MS Fn := .asg 14 (.ite (.and2 (.cmp .ne (.var 4) (.cst (.w 6))) (.and2 (.cmp .ne (.idx (.var 4) (.cst (.int 0))) (.cst (.w 7))) (.cmp .gt (.var 6) (.cst (.int 0))))) (.lst [.cst (.w 37)]) (.lst []))
theorem Sp : KY 10 = .asg 12 (.lst []) :: .asg 13 (.var 4) :: KR :: Sb :: KY 14 := rfl
theorem Fy.more (I : Fy S0 ra t q v val Aq put H) (c : An) : Fy (fun x => S0 x \/ x = H.length) ra t q v val Aq put (H ++ [c]) := by
 have hw : ∀ x, x < H.length -> (S0 x \/ x = H.length) -> S0 x := fun x h q => q.elim id fun q => by omega
 have x : Ak (fun x => S0 x \/ x = H.length) H (H ++ [c]) := Ak.app _ _ _
 have h0 : 0 < H.length := (AH I.tab)
 exact ⟨by rw [Ck h0]; exact I.tab, I.row.app _, .inl I.sra, fun q => q.elim I.s0 fun q => by omega, fun x q => by
  rw [List.length_append, List.length_singleton]
  rcases q with q | rfl
  .have := I.sok x q; omega
  .omega, (I.hv.chg hw).up x, (I.hq.chg hw).up x, (I.ht.chg hw).up x, (I.hp.chg hw).up x⟩
theorem PC (I : Fy S0 ra t q v val Aq put H) (ht : Be true 2 t) : ∃ bv H', Ai (AI Ab 15) KR (DG ra v val Aq put n x7 x8 x9 [x10, x11, some (.ref k), some Aq, none, none, none, none, none]) H = .ok (DG ra v val Aq put n x7 x8 x9 [x10, x11, some (.ref k), some bv, none, none, none, none, none], none) H' /\ Ak E0 H H' /\ Ar S0 H' (Ep t) bv := by
 by_cases C1 : t = .null
 .subst C1
  have hh := I.ht
  rw [Ar] at hh
  subst hh
  have nS : ∀ j, ¬ S0 (H.length + j) := fun j q => absurd (I.sok _ q) (by omega)
  refine ⟨.ref (H.length + 2), H ++ [.list [], .dictW [], .tup [.w 7, .ref H.length, .ref (H.length + 1)]], ?_, Ak.app _ _ _, ?_⟩
  .simp! []
  .show Ar S0 _ (.list [] none) _
   rw [Ar]
   exact ⟨H.length + 2, H.length, .ref (H.length + 1), [], rfl, ⟨by simp, nS 2⟩, ⟨by simp, nS 0⟩, by rw [AS], H.length + 1, rfl, ⟨by simp, nS 1⟩⟩
 .obtain ⟨_, hc1, hc2⟩ := Kt (C := AI Ab 15) (env := DG ra v val Aq put n x7 x8 x9 [x10, x11, some (.ref k), some Aq, none, none, none, none, none]) I.ht ht rfl
  have hc2 := fun h => (hc2 h).1
  have Ex : Aa (AI Ab 15) (.cmp .eq (.var 4) (.cst (.w 6))) (DG ra v val Aq put n x7 x8 x9 [x10, x11, some (.ref k), some Aq, none, none, none, none, none]) H = .ok (.bool false) H := by
   obtain ⟨k, a, b, xs, u, hk, rfl, h1, _⟩ := CB I.ht ht C1
   have a1 := h1.1
   simp! [a1]
  cases ht' : t.isAt with
  | false =>
   have hb : Ep t = t := by
    cases t with
    | atom _ _ _ => cases ht'
    | null => exact absurd rfl C1
    | list _ _ => rfl
   have hc2 := hc2 C1
   rw [ht'] at hc2
   refine ⟨Aq, H, ?_, Ak.refl _ _, by rw [hb]; exact I.ht⟩
   rw [KR, Er Ex]
   exact (seq ((Er hc2).trans rfl)).trans rfl
  | true =>
   cases t with
   | null => cases ht'
   | list _ _ => cases ht'
   | atom kk xs ns =>
    have hx8 : xs.length <= 8 := by cases ht with | atom hk hx hn hi => exact hx
    obtain ⟨bv, H1, e1, x1, p1⟩ := Iy (S0 := S0) (m := Bg Ab 15 .AW [Aq]) (H := H) (Q := fun S a G => Ar S G (.list (xs.map fun x => .atom kk [x] none) ns) a) fun S hS => IR (Ab := Ab) (d := 14) (B2 hS I.sok) (I.ht.two hS) hx8
    have g1 : (AI Ab 15).call .AW [Aq] H = .ok bv H1 := e1
    refine ⟨bv, H1, ?_, x1, p1⟩
    rw [KR, Er Ex]
    have hc3 := hc2 C1
    rw [show (Tr.atom kk xs ns).isAt = true from rfl] at hc3
    have g2 := B7 (i := 13) (Gd (env := DG ra v val Aq put n x7 x8 x9 [x10, x11, some (.ref k), some Aq, none, none, none, none, none]) (args := [.var 4]) (vs := [Aq]) (fun _ => rfl) g1)
    have g3 : Ai (AI Ab 15) (.ifs (.cmp .ne (.idx (.var 4) (.cst (.int 0))) (.cst (.w 7))) [.asg 13 (.call .AW [.var 4])] []) (DG ra v val Aq put n x7 x8 x9 [x10, x11, some (.ref k), some Aq, none, none, none, none, none]) H = .ok (DG ra v val Aq put n x7 x8 x9 [x10, x11, some (.ref k), some bv, none, none, none, none, none], none) H1 := by
     rw [Er hc3]
     exact (seq g2).trans rfl
    exact (seq g3).trans rfl
theorem EA {C : Ef Fn} {A B : ME Fn} {b : Bool} (h : Aa C A env H = .ok (.bool b) H') : Aa C (.and2 A B) env H = if b then Aa C B env H' else .ok (.bool false) H' := by
 rw [Aa]
 simp only [bnd, h, Aw, ret]
 cases b <;> rfl
theorem ML {C : Ef Fn} {c a e : ME Fn} {b : Bool} (h : Aa C c env H = .ok (.bool b) H') : Aa C (.ite c a e) env H = if b then Aa C a env H' else Aa C e env H' := by
 rw [Aa]
 simp only [bnd, h, Aw, ret]
 cases b <;> rfl
theorem Rz (I : Fy S0 ra t q v val Aq put H) (ht : Be true 2 t) (h4 : (env[4]?).join = some Aq) (h6 : (env[6]?).join = some (.int t.len)) : Aa (AI Ab 15) (.ite (.and2 (.cmp .ne (.var 4) (.cst (.w 6))) (.and2 (.cmp .ne (.idx (.var 4) (.cst (.int 0))) (.cst (.w 7))) (.cmp .gt (.var 6) (.cst (.int 0))))) (.lst [.cst (.w 37)]) (.lst [])) env H = .ok (.ref H.length) (H ++ [.list (EK t)]) := by
 obtain ⟨_, hc1, hc2⟩ := Kt (C := AI Ab 15) I.ht ht h4
 have hgt : Aa (AI Ab 15) (.cmp .gt (.var 6) (.cst (.int 0))) env H = .ok (.bool (decide (0 < t.len))) H := by
  simp [Aa, bnd, ret, Au, h6, DM]
 have hcond : Aa (AI Ab 15) (.and2 (.cmp .ne (.var 4) (.cst (.w 6))) (.and2 (.cmp .ne (.idx (.var 4) (.cst (.int 0))) (.cst (.w 7))) (.cmp .gt (.var 6) (.cst (.int 0))))) env H = .ok (.bool (t.isAt && decide (0 < t.len))) H := by
  rw [EA hc1]
  cases t with
  | null => rfl
  | list ts ns =>
   obtain ⟨hc2, _⟩ := hc2 (by intro h; cases h)
   exact (EA hc2).trans rfl
  | atom kk xs ns =>
   obtain ⟨hc2, _⟩ := hc2 (by intro h; cases h)
   exact (EA hc2).trans hgt
 rw [ML hcond]
 have hd : (if t.isAt && decide (0 < t.len) then [.w 37] else []) = EK t := by
  cases t with
  | null => rfl
  | list _ _ => rfl
  | atom _ xs _ => cases xs <;> simp [Tr.isAt, Tr.len, EK]
 rw [<- hd]
 cases t.isAt && decide (0 < t.len) <;> simp [Aa, Ap, bnd, ret, Bz, alloc]
theorem O8 (I : Fy S0 ra t q v val Aq put H) (ht : Be true 2 t) : ∃ H' na du bv, bnd (Ae (AI Ab 15) (KY 10) (DG ra v val Aq put t.len x7 x8 x9 [x10, x11, none, none, none, none, none, none, none])) CQ H = bnd (Ae (AI Ab 15) (KY 14) (DG ra v val Aq put t.len x7 x8 x9 [x10, x11, some (.ref na), some bv, some (.ref du), none, none, none, none])) CQ H' /\ Fy (fun x => S0 x \/ x = na) ra t q v val Aq put H' /\ Ar (fun x => S0 x \/ x = na) H' (Ep t) bv /\ H'[na]? = some (.list []) /\ H'[du]? = some (.list (EK t)) /\ na ≠ du /\ na ≠ 0 /\ na ≠ ra /\ ¬ S0 na := by
 have s11 : Ai (AI Ab 15) (.asg 12 (.lst [])) (DG ra v val Aq put t.len x7 x8 x9 [x10, x11, none, none, none, none, none, none, none]) H = .ok (DG ra v val Aq put t.len x7 x8 x9 [x10, x11, some (.ref H.length), none, none, none, none, none, none], none) (H ++ [.list []]) := by
  simp [Ai, Aa, Ap, bnd, ret, Bz, alloc]
 have I1 := I.more (.list [])
 have a1 : At E0 (H ++ [An.list []]) H.length (.list []) := ⟨by simp, id⟩
 have s12 : Ai (AI Ab 15) (.asg 13 (.var 4)) (DG ra v val Aq put t.len x7 x8 x9 [x10, x11, some (.ref H.length), none, none, none, none, none, none]) (H ++ [.list []]) = .ok (DG ra v val Aq put t.len x7 x8 x9 [x10, x11, some (.ref H.length), some Aq, none, none, none, none, none], none) (H ++ [.list []]) := by
  simp [Ai, Aa, Au, bnd, ret]
 obtain ⟨bv, H2, s13, x2, p2⟩ := PC (Ab := Ab) (n := t.len) (k := H.length) (x7 := x7) (x8 := x8) (x9 := x9) (x10 := x10) (x11 := x11) I1 ht
 have I2 := I1.up x2
 have s14 := B7 (i := 14) (Rz (Ab := Ab) (env := DG ra v val Aq put t.len x7 x8 x9 [x10, x11, some (.ref H.length), some bv, none, none, none, none, none]) I2 ht rfl rfl)
 have a2 := a1.upL x2
 have x3 : Ak E0 H2 (H2 ++ [An.list (EK t)]) := Ak.app _ _ _
 have CV : H.length < H2.length := (AH a2.1)
 have h0 : 0 < H.length := (AH I.tab)
 have hra := I.row.lt
 refine ⟨H2 ++ [.list (EK t)], H.length, H2.length, bv, ?_, I2.up x3, p2.up (E0.up x3), (a2.upL x3).1, by simp, by omega, by omega, by omega, fun q => absurd (I.sok _ q) (by omega)⟩
 rw [Sp]
 exact (((AV s11).trans (AV s12)).trans (AV s13)).trans (AV s14)
abbrev Sd : ME Fn := .kept (.call .AL [.var 2, .var 10, .var 3, .var 12])
abbrev Rw : MS Fn := .ifs (.or2 (.cmp .ne (.call .AG [Sd]) (.call .AO [.var 13, .var 10, .var 5])) (.cmp .ne (.var 12) (.var 14))) [.bad] []
theorem Sy : KY 14 = Rw :: KY 15 := rfl
theorem Rq {C : Ef Fn} {A B : ME Fn} (h : Aa C A env H = .ok (.bool false) H') : Aa C (.or2 A B) env H = Aa C B env H' := by
 rw [Aa]
 simp only [bnd, h, Aw, ret]
 rfl
theorem Mh (I : Fy S0 ra t q v val Aq put H) (ht : Be true 2 t) (hq : Be true 1 q) (hk : 12 <= k /\ k < 18) (hna : H[na]? = some (.list [])) (hs : S0 na) (hnr : na ≠ ra) (hnd : na ≠ du) (hdu : H[du]? = some (.list (EK t))) (hb : Ar S0 H (Ep t) bv)
  (h2 : (env[2]?).join = some v) (h3 : (env[3]?).join = some val) (h5 : (env[5]?).join = some put) (h10 : (env[10]?).join = some (.w k)) (h12 : (env[12]?).join = some (.ref na)) (h13 : (env[13]?).join = some bv) (h14 : (env[14]?).join = some (.ref du)) :
  ∃ H', Ai (AI Ab 15) Rw env H = .ok (env, none) H' /\ Fy S0 ra t q v val Aq put H' := by
 have xs : Ak S0 H (H.set na (.list (EK t))) := Ak.set hs
 have Is := I.draw xs (I.row.set hnr)
 have hbs := hb.up xs
 obtain ⟨hb1, hb2⟩ := Nh ht
 have hput : Do (Ep t) (.nm k) q = Ba (Ep t) (.nm k) q := by
  cases t <;> cases q <;> rfl
 have EN : ∀ t1, Do (Ep t) (.nm k) q = .ok t1 -> Be false 3 t1 := fun t1 h => GR (key := .nm k) hb1 hq hk h (by omega) (by omega)
 obtain ⟨b, G, e, x, rfl⟩ := Iy (S0 := S0) (m := fun _ => Aa (AI Ab 15) (.cmp .ne (.call .AG [Sd]) (.call .AO [.var 13, .var 10, .var 5])) env H) (H := H.set na (.list (EK t))) (Q := fun _ r _ => r = .bool false) fun S hS => by
  have hw : ∀ x, x < H.length -> (S x \/ x = na) -> S0 x := fun x _ q => q.elim (hS x) fun q => q ▸ hs
  have r := NF (Ab := Ab) (d := 4) (k := k) (B2 hS I.sok) hna (I.hv.chg hw) ht hk (I.hq.chg hw) hq
  have rc : CZ S (fun _ => Aa (AI Ab 15) (.call .AL [.var 2, .var 10, .var 3, .var 12]) env H) (H.set na (.list (EK t))) (Do (Ep t) (.nm k) q) := by
   rw [hput]
   have ha : Ap (AI Ab 15) [.var 2, .var 10, .var 3, .var 12] env H = .ok [v, .w k, val, .ref na] H := by simp [Ap, Aa, bnd, ret, Au, h2, h3, h10, h12]
   refine CZ.up r (Ak.refl _ _) (fun w G e => ?_) fun n G e => ?_
   .show Aa _ _ _ _ = _
    rw [Aa]; simp only [bnd, ha]; exact e
   .show Aa _ _ _ _ = _
    rw [Aa]; simp only [bnd, ha]; exact e
  obtain ⟨w, G1, e1, x1, p1⟩ := Lr rc
  have e1' : Aa (AI Ab 15) Sd env H = .ok w G1 := by
   rw [Aa]
   exact (if_pos I.tab).trans e1
  have hSG := (B2 hS Is.sok).up x1
  obtain ⟨w2, G2, e2, x2, p2⟩ := Nt (Ab := Ab) (d := 9) (n := 3) hSG p1 EN
  have g2 : (AI Ab 15).call .AG [w] G1 = .ok w2 G2 := e2
  have x12 := x1.trans x2
  obtain ⟨w3, G3, e3, x3, p3⟩ := Ko (Ab := Ab) (env := env) (i := 13) (j := 10) (k := 5) (key := .nm k) (hSG.up x2) ((hbs.two hS).up x12) hb1 hk ((Is.hp.two hS).up x12) hq (.inl rfl) h13 h10 h5
  have heq := LP (n := 3) (by omega) EN (BJ.up p2 x3) p3
  refine ⟨.bool false, G3, ?_, x12.trans x3, rfl⟩
  have e4 : Aa (AI Ab 15) (.call .AG [Sd]) env H = .ok w2 G2 := by
   rw [Aa, Ap]
   simp only [bnd, e1', Ap, ret]
   exact g2
  show Aa _ _ _ _ = _
  rw [Aa]
  simp only [bnd, e4, e3, DM, Fu, Au, heq, ret]
  rfl
 have a1 : At E0 (H.set na (.list (EK t))) na (.list (EK t)) := ⟨Ew (AH hna), id⟩
 have a2 : At E0 (H.set na (.list (EK t))) du (.list (EK t)) := ⟨by rw [Cq hnd]; exact hdu, id⟩
 have b1 := (a1.upL x).1
 have b2 := (a2.upL x).1
 refine ⟨G, ?_, Is.up x⟩
 have heq : Fg G (.ref na) (.ref du) = some true := by
  have hd : EK t = [] \/ EK t = [.w 37] := by
   cases t with
   | atom _ ys _ => cases ys with
    | nil => exact .inl rfl
    | cons _ _ => exact .inr rfl
   | _ => exact .inl rfl
  rcases hd with hd | hd
  .rw [hd] at b1 b2
   simp [Fg, b1, b2]
  .rw [hd] at b1 b2
   have hd : G4 (60 + 4) G (.ref na) (.ref du) = true := by simp [G4, Ek, b1, b2]
   have hd' : G4 Fd G (.ref na) (.ref du) = true := hd
   simp [Fg, b1, b2, hd']
 have e2 : Aa (AI Ab 15) (.cmp .ne (.var 12) (.var 14)) env G = .ok (.bool false) G := by
  rw [Aa, Aa, Aa, h12, h14]
  simp only [bnd, Au, ret, DM, Fu, heq]
  rfl
 rw [Rw, Er ((Rq e).trans e2)]
 rfl
abbrev T5 : ME Fn := .ite (.cmp .eq (.var 17) (.cst (.w 6))) (.lst [.cst (.w 11), .cst (.w 28)]) (.call .AA [.var 17, .var 16, .cst (.bool true)])
abbrev T6 : MS Fn := .ifs (.cmp .ne (.call .AG [.kept (.call .Ct [.var 2, .lst [.var 8], .cst (.bool true)])]) (.var 14)) [.bad] []
abbrev T8 : MS Fn := .ifs (.cmp .ne (.var 17) (.cst (.w 6))) [.asg 18 (.call .AO [.var 17, .var 16, .var 5]), .asg 14 (.ite (.isT (.var 18) .list) (.var 18) (.call .AO [.var 4, .var 15, .var 18]))] []
abbrev T9 : MS Fn := .ifs (.cmp .ne Sm (.var 14)) [.bad] []
theorem BJ.two {r : Except Nat Tr} {a : V} (h : Ri S0 S) (p : BJ S0 H r a) : BJ S H r a := by
 cases r with
 | ok t => exact Ar.two h p
 | error e => obtain ⟨l, rfl, q⟩ := p; exact ⟨l, rfl, q.chg fun x _ y => h x y⟩
theorem RI {key : Gc} {t2 : Tr} (h : t1 ≠ .null) (hp : Do t1 key q = .ok t2) : t2 ≠ .null := by
 have at_nn : ∀ {t : Tr} {p mo}, t ≠ .null -> DP t p mo q = .ok t2 -> t2 ≠ .null := fun {t p mo} h1 h2 => by
  unfold DP at h2
  split at h2
  .exact absurd rfl h1
  .cases h2; intro h; cases h
  .split at h2 <;> first | (cases h2; done) | (cases h2; intro h; cases h)
 have core : Ba t1 key q = .ok t2 := by
  cases t1 with
  | null => exact absurd rfl h
  | _ => cases q <;> exact hp
 unfold Ba at core
 split at core
 .cases core
 .cases core
 .split at core
  .split at core <;> (cases core; intro h; cases h)
  .split at core <;> exact at_nn h core
theorem Ke {C : Ef Fn} {m k : Nat} {w : V} (hv : Ar S H t1 w) (EN : Be st m t1) (hk : (env[k]?).join = some w) : Aa C (.cmp .eq (.var k) (.cst (.w 6))) env H = .ok (.bool t1.isNull) H /\ Aa C (.cmp .ne (.var k) (.cst (.w 6))) env H = .ok (.bool (!t1.isNull)) H := by
 by_cases C1 : t1 = .null
 .subst C1
  rw [Ar] at hv
  subst hv
  exact ⟨by simp! [hk, Tr.isNull], by simp! [hk, Tr.isNull]⟩
 .obtain ⟨k, a, b, xs, u, _, rfl, h1, _⟩ := CB hv EN C1
  have a1 := h1.1
  have hn : t1.isNull = false := by
   cases t1 with
   | null => exact absurd rfl C1
   | _ => rfl
  rw [hn]
  exact ⟨by simp! [hk, a1], by simp! [hk, a1]⟩
theorem R4 (Fi : CH S0 H) (h1 : Ar S0 H t1 inner) (EN : Be true n t1) (hj : j <= 6) (h17 : (env[17]?).join = some inner) (h16 : (env[16]?).join = some (.int j)) : ∃ due H', Aa (AI Ab 15) T5 env H = .ok due H' /\ Ak E0 H H' /\ BJ S0 H' (NL t1 j) due := by
 rw [T5, ML (Ke h1 EN h17).1]
 cases t1 with
 | null =>
  refine ⟨.ref H.length, H ++ [.list [.w 11, .w 28]], ?_, Ak.app _ _ _, H.length, rfl, Fi.new⟩
  simp [Tr.isNull, Aa, Ap, bnd, ret, Bz, alloc]
 | atom _ _ _ => exact Iy (S0 := S0) (Q := fun S a G => BJ S G _ a) fun S hS => M1 (key := .num j) (B2 hS Fi) (h1.two hS) EN hj h17 h16 fun _ => rfl
 | list _ _ => exact Iy (S0 := S0) (Q := fun S a G => BJ S G _ a) fun S hS => M1 (key := .num j) (B2 hS Fi) (h1.two hS) EN hj h17 h16 fun _ => rfl
theorem Ou {t2 : Tr} (EN : Be true n t1) (h : NL t1 j = .ok t2) : Be false n t2 := by
 cases t1 with
 | null => cases h
 | _ => exact G8 EN h
theorem Np {t3 : Tr} (ht : Be true 2 (.list ts ns)) (EN : Be true 1 t1) (hq : Be true 1 q) (hi : i <= 6) (hj : j <= 6) (h : Ib (.list ts ns) t1 i j q = .ok t3) : Be false 3 t3 := by
 have go : ∀ r : Except Nat Tr, (match Do t1 (.num j) q with | .error e => .error e | .ok t2 => Do (.list ts ns) (.num i) t2) = r -> r = .ok t3 -> Be false 3 t3 := fun r h1 h2 => by
  cases hp : Do t1 (.num j) q with
  | error e => rw [hp] at h1; rw [<- h1] at h2; cases h2
  | ok t2 =>
   rw [hp] at h1
   rw [<- h1] at h2
   exact GR (key := .num i) ht (GR (key := .num j) (N := 2) EN hq hj hp (by omega) (by omega)) hi h2 (by omega) (by omega)
 cases t1 with
 | null => cases h
 | _ => exact go _ rfl h
theorem RS (I : Fy S0 ra (.list ts ns) q v val Aq put H) (ht : Be true 2 (.list ts ns)) (EN : Be true 1 t1) (hi : i + 1 <= 6) (hj : j <= 6) (ht1 : ts[i]? = some t1) (hx : Bi S0 H (.atom 8 [.int ((i : Int) + 1), .int j] none) ix) (hd : BJ S0 H (NL t1 j) due)
  (h2 : (env[2]?).join = some v) (h8 : (env[8]?).join = some ix) (h14 : (env[14]?).join = some due) : ∃ H', Ai (AI Ab 15) T6 env H = .ok (env, none) H' /\ Ak E0 H H' :=
 Gi (S0 := S0) fun S hS => by
  have Fi := B2 hS I.sok
  have xa : Ak S H (H ++ [An.list [ix]]) := Ak.app _ _ _
  refine R8 (n := 2) (st := false) (r := NL t1 j) (by omega) (fun t2 h => (Ou EN h).weak (by omega)) (GZ (n := 2) (st := false) (by omega) Fi (IK I.tab (FB (C := AI Ab 15) (vs := [v, .ref H.length, .bool true]) (H0 := H ++ [.list [ix]]) ?_ xa (Me (Ab := Ab) (d := 8) (Fi.up xa) ((I.hv.two hS).up xa) ht ((hx.two hS).up xa) hi hj ht1 (by simp)))) fun t2 h => (Ou EN h).weak (by omega)) fun G xG => ⟨due, G, by simp [Aa, Au, h14, ret], Ak.refl _ _, (BJ.two hS hd).up xG⟩
  simp [Ap, Aa, bnd, ret, Au, Bz, alloc, h2, h8]
theorem R2 (I : Fy S0 ra (.list ts ns) q v val Aq put H) (ht : Be true 2 (.list ts ns)) (hq : Be true 1 q) (EN : Be true 1 t1) (hi : i + 1 <= 6) (hj : j <= 6) (ht1 : ts[i]? = some t1) (hx : Bi S0 H (.atom 8 [.int ((i : Int) + 1), .int j] none) ix) (hd : BJ S0 H (Ib (.list ts ns) t1 (i + 1) j q) due)
  (h2 : (env[2]?).join = some v) (h3 : (env[3]?).join = some val) (h8 : (env[8]?).join = some ix) (h14 : (env[14]?).join = some due) : ∃ H', Ai (AI Ab 15) T9 env H = .ok (env, none) H' /\ Ak E0 H H' :=
 Gi (S0 := S0) fun S hS => by
  have Fi := B2 hS I.sok
  have xa : Ak S H (H ++ [An.list [ix], .list []]) := Ak.app _ _ _
  refine R8 (n := 3) (st := false) (r := Ib (.list ts ns) t1 (i + 1) j q) (by omega) (fun t2 h => Np ht EN hq hi hj h) (GZ (n := 3) (st := false) (by omega) Fi (IK I.tab (FB (C := AI Ab 15) (vs := [v, .ref H.length, val, .ref (H.length + 1)]) (H0 := H ++ [.list [ix], .list []]) ?_ xa (Hj (Ab := Ab) (d := 2) (Fi.up xa) ((I.hv.two hS).up xa) ht ((hx.two hS).up xa) hi hj ht1 (by simp) ((I.hq.two hS).up xa) hq))) fun t2 h => Np ht EN hq hi hj h) fun G xG => ⟨due, G, by simp [Aa, Au, h14, ret], Ak.refl _ _, (BJ.two hS hd).up xG⟩
  simp [Ap, Aa, bnd, ret, Au, Bz, alloc, h2, h3, h8]
abbrev tB : List (MS Fn) := [.asg 15 (.bin .add (.cst (.int 1)) (.bin .mod (.call .Ag [.var 1]) (.var 6))), .asg 16 (.bin .add (.cst (.int 1)) (.bin .mod (.call .Ag [.var 1]) (.cst (.int 3)))), .asg 8 (.mk .vector [.cst (.w 8), .lst [.var 15, .var 16]]), .asg 17 (.idx (.idx (.var 4) (.cst (.int 1))) (.bin .sub (.var 15) (.cst (.int 1)))), .asg 14 T5, T6, .asg 14 (.lst [.cst (.w 11), .cst (.w 36)]), T8, T9]
abbrev Og : MS Fn := .ifs (.and2 (.cmp .ne (.var 4) (.cst (.w 6))) (.and2 (.cmp .eq (.idx (.var 4) (.cst (.int 0))) (.cst (.w 7))) (.cmp .gt (.var 6) (.cst (.int 0))))) tB []
theorem SA : KY 15 = [Og, .ret (.cmp .eq (.call .Am [.var 2]) (.var 4))] := rfl
abbrev O7 (ra : Nat) (v val Aq put : V) (n : Nat) (x7 x8 x9 x10 x11 x12 x13 x14 : Option V) (i j : Nat) (inner : V) (x18 : Option V) : Mine.Env := DG ra v val Aq put n x7 x8 x9 [x10, x11, x12, x13, x14, some (.int ((i : Int) + 1)), some (.int j), some inner, x18]
theorem RL (I : Fy S0 ra (.list ts ns) q v val Aq put H) (ht : Be true 2 (.list ts ns)) (hq : Be true 1 q) (h1 : Ar S0 H t1 inner) (EN : Be true 1 t1) (hi : i + 1 <= 6) (hj : j <= 6) (he : At S0 H e36 (.list [.w 11, .w 36])) :
  ∃ due x18 H', Ai (AI Ab 15) T8 (O7 ra v val Aq put n x7 x8 x9 x10 x11 x12 x13 (some (.ref e36)) i j inner none) H = .ok (O7 ra v val Aq put n x7 x8 x9 x10 x11 x12 x13 (some due) i j inner x18, none) H' /\ Ak E0 H H' /\ BJ S0 H' (Ib (.list ts ns) t1 (i + 1) j q) due := by
 have hnull := (Ke (C := AI Ab 15) (env := O7 ra v val Aq put n x7 x8 x9 x10 x11 x12 x13 (some (.ref e36)) i j inner none) (k := 17) h1 EN rfl).2
 by_cases C1 : t1 = .null
 .subst C1
  refine ⟨.ref e36, none, H, ?_, Ak.refl _ _, e36, rfl, he⟩
  rw [T8, Er hnull]
  rfl
 .have hn : t1.isNull = false := by
   cases t1 with
   | null => exact absurd rfl C1
   | _ => rfl
  have hE2 : Ib (.list ts ns) t1 (i + 1) j q = match Do t1 (.num j) q with
    | .error e => .error e
    | .ok t2 => Do (.list ts ns) (.num (i + 1)) t2 := by
   cases t1 with
   | null => exact absurd rfl C1
   | _ => rfl
  rw [hE2]
  obtain ⟨chg, H1, e1, x1, p1⟩ := Iy (S0 := S0) (m := Aa (AI Ab 15) (.call .AO [.var 17, .var 16, .var 5]) (O7 ra v val Aq put n x7 x8 x9 x10 x11 x12 x13 (some (.ref e36)) i j inner none)) (H := H) (Q := fun S a G => BJ S G (Do t1 (.num j) q) a) fun S hS => Ko (key := .num j) (B2 hS I.sok) (h1.two hS) EN hj (I.hp.two hS) hq (.inl rfl) rfl rfl rfl
  have I1 := I.up x1
  have s1 := B7 (i := 18) e1
  cases hp : Do t1 (.num j) q with
  | error e =>
   rw [hp] at p1
   obtain ⟨l, rfl, hl⟩ := p1
   have hl1 := hl.1
   refine ⟨.ref l, some (.ref l), H1, ?_, x1, l, rfl, hl⟩
   rw [T8, Er hnull, hn]
   refine (seq s1).trans ?_
   simp [Ae, Ai, Aa, bnd, ret, Au, FH, hl1, Aw]
  | ok t2 =>
   rw [hp] at p1
   have hok2 : Be false 2 t2 := GR (key := .num j) EN hq hj hp (by omega) (by omega)
   obtain ⟨due, H2, e2, x2, p2⟩ := Iy (S0 := S0) (m := Aa (AI Ab 15) (.call .AO [.var 4, .var 15, .var 18]) (O7 ra v val Aq put n x7 x8 x9 x10 x11 x12 x13 (some (.ref e36)) i j inner (some chg))) (H := H1) (Q := fun S a G => BJ S G (Do (.list ts ns) (.num (i + 1)) t2) a) fun S hS => Ko (key := .num (i + 1)) (B2 hS I1.sok) (I1.ht.two hS) ht hi (Ar.two hS p1) hok2 (.inr ⟨_, _, rfl⟩) rfl rfl rfl
   obtain ⟨k, a, b, xs, u, _, rfl, g1, _⟩ := CB (t := t2) p1 hok2 (RI C1 hp)
   have a1 := g1.1
   have hty : Aa (AI Ab 15) (.isT (.var 18) .list) (O7 ra v val Aq put n x7 x8 x9 x10 x11 x12 x13 (some (.ref e36)) i j inner (some (.ref a))) H1 = .ok (.bool false) H1 := by
    simp [Aa, bnd, ret, Au, FH, a1]
   refine ⟨due, some (.ref a), H2, ?_, x1.trans x2, p2⟩
   rw [T8, Er hnull, hn]
   refine (seq s1).trans ?_
   have s2 := B7 (i := 14) ((ML (a := .var 18) (e := .call .AO [.var 4, .var 15, .var 18]) hty).trans e2)
   exact (seq s2).trans rfl
theorem K9 {m : Nat} {N : ME Fn} (I : Fy S0 ra t q v val Aq put H) (h1 : (env[1]?).join = some (.ref ra)) (hm : 0 < m) (hN : ∀ G, Aa (AI Ab 15) N env G = .ok (.int m) G) : ∃ (H' : MH) (i : Nat), Aa (AI Ab 15) (.bin .add (.cst (.int 1)) (.bin .mod (.call .Ag [.var 1]) N)) env H = .ok (.int ((i : Int) + 1)) H' /\ Fy S0 ra t q v val Aq put H' /\ i < m := by
 obtain ⟨w, H1, e1, x1, r1, i, rfl, hi⟩ := CU (S := S0) (Ab := Ab) (d := 14) (C := AI Ab 15) (env := env) (n := (m : Int)) (N := N) (j := 1) rfl I.row I.sra h1 (by omega) hN
 have e0 : ∀ x y : Int, HK .add (.int x) (.int y) = ret (.int (x + y)) := fun _ _ => rfl
 have hc : (1 : Int) + i = i + 1 := by omega
 refine ⟨H1, i, ?_, I.draw x1 r1, by omega⟩
 rw [Aa, Aa]
 simp only [bnd, ret, e1, e0, hc]
theorem RU (I : Fy S0 ra (.list ts ns) q v val Aq put H) (ht : Be true 2 (.list ts ns)) (hq : Be true 1 q) (hl : 0 < ts.length) :
  ∃ Aj H', Ae (AI Ab 15) tB (DG ra v val Aq put ts.length x7 x8 x9 [x10, x11, x12, x13, x14, none, none, none, none]) H = .ok (Aj, none) H' /\ Fy S0 ra (.list ts ns) q v val Aq put H' /\ (Aj[2]?).join = some v /\ (Aj[4]?).join = some Aq := by
 have h4 := (KG ht).1
 have h4' : ts.length <= 4 := h4
 obtain ⟨H1, i, e1, I1, hi⟩ := K9 (Ab := Ab) (env := DG ra v val Aq put ts.length x7 x8 x9 [x10, x11, x12, x13, x14, none, none, none, none]) (m := ts.length) (N := .var 6) I rfl hl fun _ => rfl
 obtain ⟨H2, j0, e2, I2, hj⟩ := K9 (Ab := Ab) (env := DG ra v val Aq put ts.length x7 x8 x9 [x10, x11, x12, x13, x14, some (.int ((i : Int) + 1)), none, none, none]) (m := 3) (N := .cst (.int 3)) I1 rfl (by omega) fun _ => rfl
 obtain ⟨j, hj1, hj2⟩ : ∃ j : Nat, (j0 : Int) + 1 = (j : Int) /\ j <= 6 := ⟨j0 + 1, by omega, by omega⟩
 rw [hj1] at e2
 have e3a : Aa (AI Ab 15) (.lst [.var 15, .var 16]) (DG ra v val Aq put ts.length x7 x8 x9 [x10, x11, x12, x13, x14, some (.int ((i : Int) + 1)), some (.int j), none, none]) H2 = .ok (.ref H2.length) (H2 ++ [.list [.int ((i : Int) + 1), .int j]]) := by
  simp [Aa, Ap, bnd, ret, Au, Bz, alloc]
 have e3 := MF (d := 14) (k := .w 8) e3a
 have x3 : Ak E0 H2 (H2 ++ [An.list [.int ((i : Int) + 1), .int j], Ah 8 H2.length .none (.bool false)]) := Ak.app _ _ _
 have hc : (H2 ++ [An.list [.int ((i : Int) + 1), .int j]]) ++ [Ah 8 H2.length .none (.bool false)] = H2 ++ [An.list [.int ((i : Int) + 1), .int j], Ah 8 H2.length .none (.bool false)] := by simp
 have BN : (H2 ++ [An.list [.int ((i : Int) + 1), .int j]]).length = H2.length + 1 := by simp
 rw [BN, hc] at e3
 have hix : Bi S0 (H2 ++ [An.list [.int ((i : Int) + 1), .int j], Ah 8 H2.length .none (.bool false)]) (.atom 8 [.int ((i : Int) + 1), .int j] none) (.ref (H2.length + 1)) := Dc I2.sok
 have I3 := I2.up x3
 generalize hH3 : H2 ++ [An.list [.int ((i : Int) + 1), .int j], Ah 8 H2.length .none (.bool false)] = H3 at e3 hix I3 x3
 obtain ⟨t1, ht1⟩ : ∃ t1, ts[i]? = some t1 := ⟨ts[i], List.getElem?_eq_getElem hi⟩
 have hok1 : Be true 1 t1 := by
  cases ht with
  | list hx hn hs hts => exact hts t1 (List.mem_of_getElem? ht1)
 have hview := I3.ht
 rw [Ar] at hview
 obtain ⟨a, b, u, vs, rfl, a1, a2, a3, a4⟩ := hview
 obtain ⟨inner, hin, hinr⟩ := a3.get ht1
 have e4 : Aa (AI Ab 15) (.idx (.idx (.var 4) (.cst (.int 1))) (.bin .sub (.var 15) (.cst (.int 1)))) (DG ra v val (.ref a) put ts.length x7 (some (.ref (H2.length + 1))) x9 [x10, x11, x12, x13, x14, some (.int ((i : Int) + 1)), some (.int j), none, none]) H3 = .ok inner H3 := by
  have a1 := a1.1
  have a2 := a2.1
  have h0 : (i : Int) + 1 - 1 = i := by omega
  have h1 : (i : Int) <= 100000 := by omega
  simp! [-getElem?_pos, List.getElem?_cons_zero, List.getElem?_cons_succ, h0, h1, a1, a2, hin]
 obtain ⟨due, H5, e5, x5, p5⟩ := R4 (Ab := Ab) (j := j) (env := O7 ra v val (.ref a) put ts.length x7 (some (.ref (H2.length + 1))) x9 x10 x11 x12 x13 x14 i j inner none) I3.sok hinr hok1 hj2 rfl rfl
 have I5 := I3.up x5
 obtain ⟨H6, e6, x6⟩ := RS (Ab := Ab) (i := i) (j := j) (env := O7 ra v val (.ref a) put ts.length x7 (some (.ref (H2.length + 1))) x9 x10 x11 x12 x13 (some due) i j inner none) I5 ht hok1 (by omega) hj2 ht1 (hix.up (E0.up x5)) p5 rfl rfl rfl
 have I6 := I5.up x6
 have e7 : Aa (AI Ab 15) (.lst [.cst (.w 11), .cst (.w 36)]) (O7 ra v val (.ref a) put ts.length x7 (some (.ref (H2.length + 1))) x9 x10 x11 x12 x13 (some due) i j inner none) H6 = .ok (.ref H6.length) (H6 ++ [.list [.w 11, .w 36]]) := by
  simp [Aa, Ap, bnd, ret, Bz, alloc]
 have x7' : Ak E0 H6 (H6 ++ [An.list [.w 11, .w 36]]) := Ak.app _ _ _
 have I7 := I6.up x7'
 have y7 : Ak S0 H3 (H6 ++ [An.list [.w 11, .w 36]]) := ((E0.up x5).trans (E0.up x6)).trans (E0.up x7')
 obtain ⟨due2, x18, H8, e8, x8', p8⟩ := RL (Ab := Ab) (i := i) (j := j) (n := ts.length) (x7 := x7) (x8 := some (.ref (H2.length + 1))) (x9 := x9) (x10 := x10) (x11 := x11) (x12 := x12) (x13 := x13) I7 ht hq (hinr.up y7) hok1 (by omega) hj2 (I6.sok.new (L := []))
 have I8 := I7.up x8'
 obtain ⟨H9, e9, x9'⟩ := R2 (Ab := Ab) (i := i) (j := j) (env := O7 ra v val (.ref a) put ts.length x7 (some (.ref (H2.length + 1))) x9 x10 x11 x12 x13 (some due2) i j inner x18) I8 ht hq hok1 (by omega) hj2 ht1 ((hix.up y7).up (E0.up x8')) p8 rfl rfl rfl rfl
 refine ⟨_, H9, ?_, I8.up x9', (rfl : ((O7 ra v val (.ref a) put ts.length x7 (some (.ref (H2.length + 1))) x9 x10 x11 x12 x13 (some due2) i j inner x18)[2]?).join = some v), rfl⟩
 have s1 := B7 (i := 15) e1
 have s2 := B7 (i := 16) e2
 have s3 := B7 (i := 8) e3
 have s4 := B7 (i := 17) e4
 have s5 := B7 (i := 14) e5
 have s7 := B7 (i := 14) e7
 exact (seq s1).trans ((seq s2).trans ((seq s3).trans ((seq s4).trans ((seq s5).trans ((seq e6).trans ((seq s7).trans ((seq e8).trans ((seq e9).trans rfl))))))))
theorem RG (I : Fy S0 ra t q v val Aq put H) (ht : Be true 2 t) (hq : Be true 1 q) :
  ∃ Aj H', Ai (AI Ab 15) Og (DG ra v val Aq put t.len x7 x8 x9 [x10, x11, x12, x13, x14, none, none, none, none]) H = .ok (Aj, none) H' /\ Fy S0 ra t q v val Aq put H' /\ (Aj[2]?).join = some v /\ (Aj[4]?).join = some Aq := by
 obtain ⟨_, hc1, hc2⟩ := Kt (C := AI Ab 15) (env := DG ra v val Aq put t.len x7 x8 x9 [x10, x11, x12, x13, x14, none, none, none, none]) I.ht ht rfl
 have skip : Aa (AI Ab 15) (.and2 (.cmp .ne (.var 4) (.cst (.w 6))) (.and2 (.cmp .eq (.idx (.var 4) (.cst (.int 0))) (.cst (.w 7))) (.cmp .gt (.var 6) (.cst (.int 0))))) (DG ra v val Aq put t.len x7 x8 x9 [x10, x11, x12, x13, x14, none, none, none, none]) H = .ok (.bool false) H -> ∃ Aj H', Ai (AI Ab 15) Og (DG ra v val Aq put t.len x7 x8 x9 [x10, x11, x12, x13, x14, none, none, none, none]) H = .ok (Aj, none) H' /\ Fy S0 ra t q v val Aq put H' /\ (Aj[2]?).join = some v /\ (Aj[4]?).join = some Aq := fun h =>
  ⟨_, H, (Er h).trans rfl, I, (rfl : ((DG ra v val Aq put t.len x7 x8 x9 [x10, x11, x12, x13, x14, none, none, none, none])[2]?).join = some v), rfl⟩
 cases t with
 | null => exact skip ((EA hc1).trans rfl)
 | atom k xs ns =>
  obtain ⟨_, hc2⟩ := hc2 (by intro h; cases h)
  exact skip ((EA hc1).trans ((EA hc2).trans rfl))
 | list ts ns =>
  obtain ⟨_, hc2⟩ := hc2 (by intro h; cases h)
  have hgt : Aa (AI Ab 15) (.cmp .gt (.var 6) (.cst (.int 0))) (DG ra v val Aq put (Tr.list ts ns).len x7 x8 x9 [x10, x11, x12, x13, x14, none, none, none, none]) H = .ok (.bool (decide (0 < ts.length))) H := by
   simp [Aa, bnd, ret, Au, DM, Tr.len]
  have hc3 : Aa (AI Ab 15) (.cmp .ne (.var 4) (.cst (.w 6))) (DG ra v val Aq put (Tr.list ts ns).len x7 x8 x9 [x10, x11, x12, x13, x14, none, none, none, none]) H = .ok (.bool true) H := hc1
  have hc4 : Aa (AI Ab 15) (.cmp .eq (.idx (.var 4) (.cst (.int 0))) (.cst (.w 7))) (DG ra v val Aq put (Tr.list ts ns).len x7 x8 x9 [x10, x11, x12, x13, x14, none, none, none, none]) H = .ok (.bool true) H := hc2
  have hcond : Aa (AI Ab 15) (.and2 (.cmp .ne (.var 4) (.cst (.w 6))) (.and2 (.cmp .eq (.idx (.var 4) (.cst (.int 0))) (.cst (.w 7))) (.cmp .gt (.var 6) (.cst (.int 0))))) (DG ra v val Aq put (Tr.list ts ns).len x7 x8 x9 [x10, x11, x12, x13, x14, none, none, none, none]) H = .ok (.bool (decide (0 < ts.length))) H := by
   rw [EA hc3, if_pos rfl, EA hc4, if_pos rfl]
   exact hgt
  by_cases hl : 0 < ts.length
  .rw [decide_eq_true hl] at hcond
   obtain ⟨Aj, H', e, h⟩ := RU (Ab := Ab) (x7 := x7) (x8 := x8) (x9 := x9) (x10 := x10) (x11 := x11) (x12 := x12) (x13 := x13) (x14 := x14) I ht hq hl
   exact ⟨Aj, H', (Er hcond).trans e, h⟩
  .rw [decide_eq_false hl] at hcond
   exact skip hcond
theorem plain_law (Ab : List Int) : ∃ H', Ee prog Ab Ii initOf 16 .Bq [.ext] [.tab] = .ok (.bool true) H' /\ H'[0]? = some .tab := by
 obtain ⟨v, val, Aq, put, t, q, G, ht, hq, I, e0⟩ := NS (Ab := Ab)
 obtain ⟨H1, x7, x8, x9, e1, I1⟩ := QD (Ab := Ab) (x7 := none) (x8 := none) (x9 := none) (r := Sc) I ht hq
 obtain ⟨H2, k, e2, I2, hk⟩ := QC (Ab := Ab) (n := t.len) (x7 := x7) (x8 := x8) (x9 := x9) I1
 obtain ⟨H3, told, e3, I3⟩ := NH (Ab := Ab) (n := t.len) (x7 := x7) (x8 := x8) (x9 := x9) I2 ht hk
 obtain ⟨H4, na, du, bv, e4, I4, hb, hna, hdu, hnd, hn0, hnr, _⟩ := O8 (Ab := Ab) (x7 := x7) (x8 := x8) (x9 := x9) (x10 := some (.w k)) (x11 := some told) I3 ht
 obtain ⟨H5, e5, I5⟩ := Mh (Ab := Ab) (env := DG 3 v val Aq put t.len x7 x8 x9 [some (.w k), some told, some (.ref na), some bv, some (.ref du), none, none, none, none]) I4 ht hq hk hna (.inr rfl) hnr hnd hdu hb rfl rfl rfl rfl rfl rfl rfl
 obtain ⟨Aj, H6, e6, I6, h2, h4⟩ := RG (Ab := Ab) (x7 := x7) (x8 := x8) (x9 := x9) (x10 := some (.w k)) (x11 := some told) (x12 := some (.ref na)) (x13 := some bv) (x14 := some (.ref du)) I5 ht hq
 obtain ⟨w, H7, e7, x7', p7⟩ := Ja (Ab := Ab) (d := 11) 2 ht I6.sok I6.hv
 have I7 : H7[0]? = some .tab := ((At.up ⟨I6.tab, I6.s0⟩ x7' (by intro k fs q; cases q) : At _ H7 0 .tab)).1
 refine ⟨H7, ?_, I7⟩
 have g7 : (AI Ab 15).call .Am [v] H6 = .ok w H7 := e7
 have heq := KF (n := 2) (by omega) ht p7 (I6.ht.up x7')
 have e8 : Aa (AI Ab 15) (.cmp .eq (.call .Am [.var 2]) (.var 4)) Aj H6 = .ok (.bool true) H7 := by
  have ha : Aa (AI Ab 15) (.call .Am [.var 2]) Aj H6 = .ok w H7 := by
   rw [Aa, Ap, Aa, h2]
   simp only [bnd, Au, ret, Ap]
   exact g7
  rw [Aa]
  simp only [bnd, ha]
  rw [Aa, h4]
  simp only [Au, ret, DM, heq]
 have s1 := AV (r := .asg 10 (.idx (.lst [.cst (.w 12), .cst (.w 14), .cst (.w 13), .cst (.w 17)]) (.bin .mod (.call .Ag [.var 1]) (.cst (.int 4)))) :: KY 8) e1
 have s2 := AV (r := KY 8) e2
 have s5 := AV (r := KY 15) e5
 have s6 := AV (r := [.ret (.cmp .eq (.call .Am [.var 2]) (.var 4))]) e6
 refine e0.trans ?_
 rw [Tf]
 refine s1.trans (s2.trans (e3.trans (e4.trans ?_)))
 rw [Sy]
 refine s5.trans ?_
 rw [SA]
 exact s6.trans (MW (OL e8))
end P
open PySem PySem.W PyProof.Rows PySem.Calls PySem.SeqAt
def Az := @wpAny_bind
def BW := @wpAny_pure
def DT := @Heap.get?_push_of_some
def Ao := @Bool.and_eq_true
def B8 := @List.prefix_refl
def DK := @List.mem_append_right
def DW := @List.mem_append_left
def wd (i : Nat) : Str := if i < 38 then Str.ofString (OD.getD i "?") else ⟨#[2000000 + i]⟩
def Rn (i : Int) : Str := Str.ofString (toString i)
structure Un where
 prog : Program
 w : World
 K : Frag
 p : Program
 loose : List Str
 mean : ExcName -> Option Value
 mg : Str -> Option Value
 mb : Str -> Option Value
 cls : Pv -> Addr
 sa : Addr
 Ab : List Int
 pin : Addr -> Option Obj := fun _ => none
 tabA : Addr
abbrev B0 := List (Addr × Addr)
def VR (sa : Addr) (ρ : B0) : V -> Value -> Prop
 | .none, v => v = .none
 | .bool b, v => v = .bool b
 | .int i, v => ∃ t, v = .int i t
 | .w i, v => ∃ t, v = .str (wd i) t
 | .dec i, v => ∃ t, v = .str (Rn i) t
 | .ref a, v => ∃ p, ρ[a]? = some p /\ v = .ref p.1
 | .ext, v => v = .ref sa
theorem DJ {ρ ρ' : B0} (h : ρ <+: ρ') {a : Nat} {p} (e : ρ[a]? = some p) : ρ'[a]? = some p := by
 obtain ⟨t, rfl⟩ := h
 rw [List.getElem?_append_left (List.getElem?_eq_some_iff.mp e).1]; exact e
theorem VR.mono {sa : Addr} {ρ ρ' : B0} (h : ρ <+: ρ') : ∀ {v : V} {x : Value}, VR sa ρ v x -> VR sa ρ' v x
 | .none, _, e => e
 | .bool _, _, e => e
 | .int _, _, e => e
 | .w _, _, e => e
 | .dec _, _, e => e
 | .ref _, _, ⟨p, e, q⟩ => ⟨p, DJ h e, q⟩
 | .ext, _, e => e
def DO (sa : Addr) (ρ : B0) : List V -> List Value -> Prop
 | [], [] => True
 | v :: vs, x :: xs => VR sa ρ v x /\ DO sa ρ vs xs
 | _, _ => False
theorem DO.mono {sa : Addr} {ρ ρ' : B0} (h : ρ <+: ρ') : ∀ {vs : List V} {xs : List Value}, DO sa ρ vs xs -> DO sa ρ' vs xs
 | [], [], _ => trivial
 | _ :: _, _ :: _, ⟨a, b⟩ => ⟨a.mono h, DO.mono h b⟩
 | [], _ :: _, e => e.elim
 | _ :: _, [], e => e.elim
def IB (sa : Addr) (ρ : B0) : List (Nat × V) -> List (Str × Value) -> Prop
 | [], [] => True
 | p :: r, e :: es => e.1 = wd p.1 /\ VR sa ρ p.2 e.2 /\ IB sa ρ r es
 | _, _ => False
def Lo (sa : Addr) (ρ : B0) : List (Int × V) -> List (Int × Value) -> Prop
 | [], [] => True
 | p :: r, e :: es => e.1 = p.1 /\ VR sa ρ p.2 e.2 /\ Lo sa ρ r es
 | _, _ => False
def KZ (sa : Addr) (ρ : B0) : List (Nat × V) -> List DictEntry -> Prop
 | [], [] => True
 | p :: r, e :: es => (∃ t, e.key = .str (wd p.1) t) /\ VR sa ρ p.2 e.val /\ KZ sa ρ r es
 | _, _ => False
theorem IB.mono {sa : Addr} {ρ ρ' : B0} (h : ρ <+: ρ') : ∀ {vs : List (Nat × V)} {xs : List (Str × Value)}, IB sa ρ vs xs -> IB sa ρ' vs xs
 | [], [], _ => trivial
 | _ :: _, _ :: _, ⟨a, c, d⟩ => ⟨a, c.mono h, IB.mono h d⟩
 | [], _ :: _, e => e.elim
 | _ :: _, [], e => e.elim
theorem Lo.mono {sa : Addr} {ρ ρ' : B0} (h : ρ <+: ρ') : ∀ {vs : List (Int × V)} {xs : List (Int × Value)}, Lo sa ρ vs xs -> Lo sa ρ' vs xs
 | [], [], _ => trivial
 | _ :: _, _ :: _, ⟨a, c, d⟩ => ⟨a, c.mono h, Lo.mono h d⟩
 | [], _ :: _, e => e.elim
 | _ :: _, [], e => e.elim
theorem KZ.mono {sa : Addr} {ρ ρ' : B0} (h : ρ <+: ρ') : ∀ {vs : List (Nat × V)} {xs : List DictEntry}, KZ sa ρ vs xs -> KZ sa ρ' vs xs
 | [], [], _ => trivial
 | _ :: _, _ :: _, ⟨a, c, d⟩ => ⟨a, c.mono h, KZ.mono h d⟩
 | [], _ :: _, e => e.elim
 | _ :: _, [], e => e.elim
abbrev N1 (vs : List Value) : Obj := { cls := .type "tuple", data := .seq vs.toArray }
def Di : Str := Str.ofString "law" ++ ".<locals>." ++ "<lambda>"
def KS (ps : List Value) (codes : List (Addr × Obj)) : Prop :=
 ∀ pos cv, codeAmong pos ps = some cv -> ∃ c' oc vs t, cv = .ref c' /\ (c', oc) ∈ codes /\ oc.data = .fields vs /\ vs[1]? = some (.str Di t)
def CR (U : Un) (ρ : B0) (c : An) (a : Addr × Addr) (l : List (Addr × Obj)) : Prop := match c with
 | .list xs => ∃ vs n, l = [(a.1, W.listOf (List.toArray vs) n)] /\ DO U.sa ρ xs vs
 | .tup xs => ∃ vs, l = [(a.1, N1 vs)] /\ DO U.sa ρ xs vs
 | .dictW kvs => ∃ o es, l = [(a.1, o)] /\ o.IsDictOf (PySem.strKind U.prog U.w) es /\ IB U.sa ρ kvs es
 | .dictP kvs => ∃ o es, l = [(a.1, o)] /\ o.IsDictOf (PySem.strKind U.prog U.w) es /\ IB U.sa ρ kvs es /\ U.pin a.1 = some o
 | .dictI kvs => ∃ o es, l = [(a.1, o)] /\ o.IsDictOf (PySem.intKind U.prog U.w) es /\ Lo U.sa ρ kvs es
 | .inst k fs => ∃ es n, l = [(a.1, instObj (U.cls k) a.2), (a.2, W.dictOf es n)] /\ KZ U.sa ρ fs es
 | .tab => ∃ ps codes, l = (a.1, tabObj ps) :: codes /\ a.1 = U.tabA /\ TriplesOk ps.toList /\ KS ps.toList codes
theorem CR.mono {U : Un} {ρ ρ' : B0} (h : ρ <+: ρ') {c : An} {a : Addr × Addr} {l : List (Addr × Obj)} (x : CR U ρ c a l) : CR U ρ' c a l := by
 cases c with
 | list xs => obtain ⟨vs, n, e, v⟩ := x; exact ⟨vs, n, e, v.mono h⟩
 | tup xs => obtain ⟨vs, e, v⟩ := x; exact ⟨vs, e, v.mono h⟩
 | dictW xs => obtain ⟨vs, n, e, d, v⟩ := x; exact ⟨vs, n, e, d, v.mono h⟩
 | dictP xs => obtain ⟨vs, n, e, d, v, p⟩ := x; exact ⟨vs, n, e, d, v.mono h, p⟩
 | dictI xs => obtain ⟨vs, n, e, d, v⟩ := x; exact ⟨vs, n, e, d, v.mono h⟩
 | inst k xs => obtain ⟨vs, n, e, v⟩ := x; exact ⟨vs, n, e, v.mono h⟩
 | tab => exact x
def PR (U : Un) (ρ : B0) : MH -> B0 -> List (List (Addr × Obj)) -> Prop
 | [], [], [] => True
 | c :: H, a :: r, l :: ps => CR U ρ c a l /\ PR U ρ H r ps
 | _, _, _ => False
theorem PR.mono {U : Un} {ρ ρ' : B0} (h : ρ <+: ρ') : ∀ {H : MH} {r : B0} {ps : List (List (Addr × Obj))}, PR U ρ H r ps -> PR U ρ' H r ps
 | [], [], [], _ => trivial
 | _ :: _, _ :: _, _ :: _, ⟨a, b⟩ => ⟨a.mono h, PR.mono h b⟩
 | [], [], _ :: _, e => e.elim
 | [], _ :: _, _, e => e.elim
 | _ :: _, [], _, e => e.elim
 | _ :: _, _ :: _, [], e => e.elim
theorem PR.len {U : Un} {ρ : B0} : ∀ {H : MH} {r : B0} {ps : List (List (Addr × Obj))}, PR U ρ H r ps -> r.length = H.length
 | [], [], [], _ => rfl
 | _ :: _, _ :: _, _ :: _, ⟨_, b⟩ => congrArg (· + 1) b.len
 | [], [], _ :: _, e => e.elim
 | [], _ :: _, _, e => e.elim
 | _ :: _, [], _, e => e.elim
 | _ :: _, _ :: _, [], e => e.elim
theorem PR.push {U : Un} {ρ : B0} {c : An} {a : Addr × Addr} {l : List (Addr × Obj)} (x : CR U ρ c a l) : ∀ {H : MH} {r : B0} {ps : List (List (Addr × Obj))}, PR U ρ H r ps -> PR U ρ (H ++ [c]) (r ++ [a]) (ps ++ [l])
 | [], [], [], _ => ⟨x, trivial⟩
 | _ :: _, _ :: _, _ :: _, ⟨a, b⟩ => ⟨a, b.push x⟩
 | [], [], _ :: _, e => e.elim
 | [], _ :: _, _, e => e.elim
 | _ :: _, [], _, e => e.elim
 | _ :: _, _ :: _, [], e => e.elim
theorem PR.at {U : Un} {ρ : B0} : ∀ {H : MH} {r : B0} {ps : List (List (Addr × Obj))} {i : Nat} {c : An}, PR U ρ H r ps -> H[i]? = some c ->
  ∃ a l pre post, r[i]? = some a /\ ps = pre ++ l :: post /\ CR U ρ c a l /\ ∀ c' l', CR U ρ c' a l' -> PR U ρ (H.set i c') r (pre ++ l' :: post)
 | [], _, _, _, _, _, e => by simp at e
 | _ :: _, [], _, _, _, x, _ => x.elim
 | _ :: _, _ :: _, [], _, _, x, _ => x.elim
 | c₀ :: H, a :: r, l :: ps, 0, c, ⟨x, y⟩, e => by
  simp only [List.getElem?_cons_zero, Option.some.injEq] at e
  subst e
  exact ⟨a, l, [], ps, rfl, rfl, x, fun c' l' z => ⟨z, y⟩⟩
 | c₀ :: H, a :: r, l :: ps, i + 1, c, ⟨x, y⟩, e => by
  rw [List.getElem?_cons_succ] at e
  obtain ⟨a', l', pre, post, e1, e2, e3, e4⟩ := y.at e
  exact ⟨a', l', l :: pre, post, e1, by rw [e2]; rfl, e3, fun c' l'' z => ⟨x, e4 c' l'' z⟩⟩
def B4 (l : List (Addr × Obj)) : Prop := (l.map (·.1)).Nodup
structure FS (U : Un) (G : Heap) (L : Addr) (m : Str -> Option Value) (px : List (Addr × Obj)) (ρ : B0) (H : MH) (h : Heap) : Prop where
 fr : Fr G L h m
 lg : ∃ ps, PR U ρ H ρ ps /\ News G L h (px ++ ps.flatten) /\ B4 (px ++ ps.flatten) /\ ∀ p ∈ ps.flatten, 3 < p.1
theorem Cj {l l' : List (Addr × Obj)} (p : l.Perm l') (d : B4 l) : B4 l' := (p.map _).nodup_iff.mp d
theorem Hc {l n : List (Addr × Obj)} (d : B4 l) (dn : B4 n) (h : ∀ p ∈ n, ∀ q ∈ l, q.1 < p.1) : B4 (n ++ l) := by
 unfold B4 at *
 rw [List.map_append, List.nodup_append]
 refine ⟨dn, d, fun a ha b hb e => ?_⟩
 obtain ⟨p, hp, rfl⟩ := List.mem_map.mp ha
 obtain ⟨q, hq, rfl⟩ := List.mem_map.mp hb
 exact absurd (h p hp q hq) (by rw [e]; exact Nat.lt_irrefl _)
section
variable {U : Un} {G : Heap} {L : Addr} {m : Str -> Option Value} {px : List (Addr × Obj)} {ρ : B0} {H : MH} {h h' : Heap}
theorem D5 {l l' : List (Addr × Obj)} (N : News G L h l) (s : ∀ p ∈ l', p ∈ l) : News G L h l' := fun p hp => N p (s p hp)
theorem FS.len (x : FS U G L m px ρ H h) : ρ.length = H.length := let ⟨_, p, _⟩ := x.lg; p.len
theorem FS.keeps (x : FS U G L m px ρ H h) (k : ∀ b o, h.get? b = some o -> h'.get? b = some o) : FS U G L m px ρ H h' := by
 obtain ⟨F, ps, p, N, d⟩ := x
 exact ⟨F.keeps k, ps, p, N.grown k, d⟩
theorem FS.all (x : FS U G L m px ρ H h) : ∃ l, News G L h l /\ B4 l /\ (∀ p ∈ px, p ∈ l) /\
  ∀ (c : An) (a : Addr × Addr) (n : List (Addr × Obj)) (h' : Heap), Fr G L h' m -> News G L h' (n ++ l) -> (∀ p ∈ n, ∀ q ∈ l, q.1 < p.1) -> B4 n -> (∀ p ∈ n, 3 < p.1) -> CR U (ρ ++ [a]) c a n -> FS U G L m px (ρ ++ [a]) (H ++ [c]) h' := by
 obtain ⟨F, ps, p, N, d, lo⟩ := x
 refine ⟨_, N, d, fun p hp => DW _ hp, fun c a n h' F' N' hl dn lo' y => ⟨F', ps ++ [n], (p.mono (List.prefix_append ..)).push y, ?_, ?_, ?_⟩⟩
 .refine D5 N' fun q hq => ?_
  simp only [List.flatten_append, List.flatten_cons, List.flatten_nil, List.append_nil, List.mem_append] at hq ⊢
  rcases hq with hq | hq | hq
  .exact .inr (.inl hq)
  .exact .inr (.inr hq)
  .exact .inl hq
 .have := Hc d dn hl
  refine Cj ?_ this
  simp only [List.flatten_append, List.flatten_cons, List.flatten_nil, List.append_nil, <- List.append_assoc]
  rw [List.append_assoc]
  exact List.perm_append_comm
 .intro q hq
  simp only [List.flatten_append, List.flatten_cons, List.flatten_nil, List.append_nil, List.mem_append] at hq
  rcases hq with hq | hq
  .exact lo q hq
  .exact lo' q hq
theorem Mi {a : Addr} {o o' : Obj} : ∀ {pre post : List (Addr × Obj)}, B4 (pre ++ (a, o) :: post) -> W.Upd a o o' (pre ++ (a, o) :: post) (pre ++ (a, o') :: post)
 | [], post, d => .head fun p hp e => by
  unfold B4 at d
  rw [List.nil_append, List.map_cons, List.nodup_cons] at d
  exact d.1 (e ▸ List.mem_map_of_mem (f := (·.1)) hp : a ∈ post.map (·.1))
 | q :: pre, post, d => by
  unfold B4 at d
  rw [List.cons_append, List.map_cons, List.nodup_cons] at d
  refine .tail (fun e => d.1 ?_) (Mi d.2)
  rw [e]
  exact List.mem_map_of_mem (f := (·.1)) (a := (a, o)) (by simp)
theorem Nj {a : Addr} {o : Obj} : ∀ {pre post : List (Addr × Obj)}, B4 (pre ++ (a, o) :: post) -> W.UpdF a o (pre ++ (a, o) :: post) fun o' => pre ++ (a, o') :: post
 | [], post, d => .head fun p hp e => by
  unfold B4 at d
  rw [List.nil_append, List.map_cons, List.nodup_cons] at d
  exact d.1 (e ▸ List.mem_map_of_mem (f := (·.1)) hp : a ∈ post.map (·.1))
 | q :: pre, post, d => by
  unfold B4 at d
  rw [List.cons_append, List.map_cons, List.nodup_cons] at d
  refine .tail (fun e => d.1 ?_) (Nj d.2)
  rw [e]
  exact List.mem_map_of_mem (f := (·.1)) (a := (a, o)) (by simp)
theorem HN {a : Addr} {o o' : Obj} {pre post : List (Addr × Obj)} (d : B4 (pre ++ (a, o) :: post)) : B4 (pre ++ (a, o') :: post) := by
 unfold B4 at *
 simpa using d
theorem FS.cell (x : FS U G L m px ρ H h) {i : Nat} {c : An} (e : H[i]? = some c) : ∃ a n pre post, ρ[i]? = some a /\ CR U ρ c a n /\ News G L h (pre ++ n ++ post) /\ B4 (pre ++ n ++ post) /\ (∀ p ∈ n, 3 < p.1) /\
  (∀ p ∈ px, p ∈ pre) /\ ∀ (c' : An) (n' : List (Addr × Obj)) (h' : Heap), Fr G L h' m -> News G L h' (pre ++ n' ++ post) -> n'.map (·.1) = n.map (·.1) -> CR U ρ c' a n' -> FS U G L m px ρ (H.set i c') h' := by
 obtain ⟨F, ps, p, N, d, lo⟩ := x
 obtain ⟨a, n, pre, post, e1, e2, e3, e4⟩ := p.at e
 subst e2
 have w : ∀ k : List (Addr × Obj), px ++ (pre ++ k :: post).flatten = (px ++ pre.flatten) ++ k ++ post.flatten := fun k => by simp
 rw [w] at N d
 refine ⟨a, n, _, _, e1, e3, N, d, fun q hq => lo q (by simp [hq]), fun q hq => DW _ hq, fun c' n' h' F' N' em y => ⟨F', _, e4 c' n' y, by rw [w]; exact N', ?_, ?_⟩⟩
 .rw [w]
  unfold B4 at *
  simp only [List.map_append] at d ⊢
  rw [em]; exact d
 .intro q hq
  have hq' : q.1 ∈ (pre ++ n' :: post).flatten.map (·.1) := List.mem_map_of_mem hq
  have : (pre ++ n' :: post).flatten.map (·.1) = (pre ++ n :: post).flatten.map (·.1) := by simp [em]
  rw [this] at hq'
  obtain ⟨r, hr, er⟩ := List.mem_map.mp hq'
  rw [<- er]; exact lo r hr
end
theorem RC : ∀ i, i < 38 -> ∀ j, j < 38 -> wd i = wd j -> i = j := by decide +kernel
theorem LH : ∀ i, i < 38 -> (wd i).cps.all (· < 1000) = true := by decide +kernel
theorem IM (i : Nat) (h : ¬ i < 38) : wd i = ⟨#[2000000 + i]⟩ := if_neg h
theorem Mo {i j : Nat} (e : wd i = wd j) : i = j := by
 by_cases hi : i < 38
 .by_cases hj : j < 38
  .exact RC i hi j hj e
  .have := LH i hi
   rw [e, IM j hj] at this
   simp at this
   omega
 .by_cases hj : j < 38
  .have := LH j hj
   rw [<- e, IM i hi] at this
   simp at this
   omega
  .rw [IM i hi, IM j hj] at e
   have := congrArg PySem.Str.cps e
   simp at this
   omega
theorem Nb (i j : Nat) : (wd i == wd j) = (i == j) := by
 by_cases h : i = j
 .subst h; simp
 .have : wd i ≠ wd j := fun e => h (Mo e)
  rw [beq_eq_false_iff_ne.mpr this, beq_eq_false_iff_ne.mpr h]
structure Ra (U : Un) (c : Pv) (a : Nat) : Prop where
 plain : plainGet U.K (U.cls c) (wd a) = true
 taker : takerIn U.K (U.cls c) (wd a) = some none
 find : ∃ attr, findIn U.K (.ref (U.cls c)) (wd a) = some attr /\ noGet U.K attr = true
def Dg : List Nat := [0, 1, 2, 3, 4, 35]
structure UF (U : Un) : Prop where
 attr : ∀ c a, a ∈ Dg -> Ra U c a
 dict : ∀ c, hasDictIn U.K (U.cls c) = true
 seta : ∀ c, findIn U.K (.ref (U.cls c)) "__setattr__" = some (some (.builtin "object.__setattr__"))
 over : ∀ c, plainOver U.K (U.cls c) = true
structure OK (bg : F8) : Prop where
 ok : ∀ i j t, bg i j = some t -> Txt.startswith (wd i) (wd j) = t
structure GF (U : Un) (G : Heap) : Prop where
 K : U.K.In G
 T : Top U.p U.loose U.mean U.mg U.mb G
 ext : ∃ vs, G.IsList U.sa (List.toArray vs) /\ IntsAre vs U.Ab /\ vs.length <= sizeLine
theorem GF.keeps {U : Un} {G G' : Heap} (x : GF U G) (k : ∀ b o, G.get? b = some o -> G'.get? b = some o) : GF U G' :=
 ⟨x.K.keeps k, x.T.keeps k, let ⟨vs, a, b⟩ := x.ext; ⟨vs, a.at (fun o e => k _ o e), b⟩⟩
structure Fx where
 G : Heap
 L : Addr
 m : Str -> Option Value
 own : List (Addr × Obj)
 ex : List (Addr × Obj)
 base : Heap
 l : List PySem.Env
abbrev Fx.px (X : Fx) : List (Addr × Obj) := X.own ++ X.ex
abbrev Bc (U : Un) (X : Fx) (ρ : B0) (H : MH) (h : Heap) : Prop := FS U X.G X.L X.m X.px ρ H h
def S9 (h base : Heap) (e : Addr) (cls : Value) (d L : Addr) : Prop :=
 ∃ oe vs, h.get? e = some oe /\ oe.cls = cls /\ oe.dict = some d /\ oe.data = .fields vs /\ 1 < vs.size /\
  (vs[1]? = some .none \/ ∃ T oT ts, vs[1]? = some (.ref T) /\ base.get? T = none /\ T ≠ e /\ h.get? T = some oT /\ oT.data = .fields ts /\ (ts[3]? = some .none \/ ts[3]? = some (rawInt L)))
def Fl (cls : Value) (base : Heap) (l : List PySem.Env) (L : Addr) (e : Addr) (msg : Nat) (news : List (Addr × Obj)) (h : Heap) : Prop :=
 ∃ B d es n t, base.StaysIn B /\ (∀ q ∈ news, B.get? q.1 = some q.2 /\ base.get? q.1 = none) /\ B.StaysIn h /\ B.get? e = none /\ h.FunFrames B l /\ S9 h B e cls d L /\
  B.get? d = some (W.dictOf es n) /\ getL "message" es = some (some (.str (wd msg) t))
def Pw (U : Un) (cls : Value) (X : Fx) (msg : Nat) (ρ' : B0) (H' : MH) (e : Addr) (h' : Heap) : Prop :=
 ∃ ps h₂, PR U ρ' H' ρ' ps /\ B4 (X.px ++ ps.flatten) /\ (∀ p ∈ ps.flatten, 3 < p.1) /\ Fl cls X.base X.l X.L e msg (X.px ++ ps.flatten) h' /\ Fr X.G X.L h₂ X.m /\ h₂.UpToSlots h'
section
variable {α β α' β' : Type} {U : Un} {xc : Value} {X : Fx} {ρ : B0} {H : MH} {s : Shared} {E : Value -> Shared -> Prop}
def Ay (rel : B0 -> α -> β -> Prop) (U : Un) (xc : Value) (X : Fx) (ρ : B0) (r : R α) (Q : β -> Shared -> Prop) (E : Value -> Shared -> Prop) (s : Shared) : Prop := match r with
 | .ok v H' => ∀ ρ' v' h' C3, ρ <+: ρ' -> Bc U X ρ' H' h' -> rel ρ' v v' -> Q v' { s with heap := h', toks := C3 }
 | .exc msg H' => ∀ ρ' e h' C3, ρ <+: ρ' -> Pw U xc X msg ρ' H' e h' -> E (.ref e) { s with heap := h', toks := C3 }
 | .bad => False
theorem Ay.bnd {rel1 : B0 -> α -> β -> Prop} {rel2 : B0 -> α' -> β' -> Prop} {m : M α} {f : α -> M α'} {Q : β' -> Shared -> Prop} {Q1 : β -> Shared -> Prop}
  (hp : Ay rel2 U xc X ρ (Mine.bnd m f H) Q E s)
  (k : ∀ a H1 ρ1 a' h1 BT, m H = .ok a H1 -> ρ <+: ρ1 -> Bc U X ρ1 H1 h1 -> rel1 ρ1 a a' -> Ay rel2 U xc X ρ1 (f a H1) Q E { s with heap := h1, toks := BT } -> Q1 a' { s with heap := h1, toks := BT }) :
  Ay rel1 U xc X ρ (m H) Q1 E s := by
 unfold Mine.bnd at hp
 unfold Ay at hp ⊢
 cases e : m H with
 | ok a H1 =>
  rw [e] at hp
  dsimp only at hp ⊢
  intro ρ1 a' h1 BT l1 F1 r1
  refine k a H1 ρ1 a' h1 BT e l1 F1 r1 ?_
  unfold Ay
  cases e2 : f a H1 with
  | ok v H' => rw [e2] at hp; exact fun ρ' v' h' C3 l' => hp ρ' v' h' C3 (l1.trans l')
  | exc msg H' => rw [e2] at hp; exact fun ρ' e' h' C3 l' => hp ρ' e' h' C3 (l1.trans l')
  | bad => rw [e2] at hp; exact hp
 | exc msg H' => rw [e] at hp; exact hp
 | bad => rw [e] at hp; exact hp
theorem BC {v : V} {f : An -> M α} {Q : β -> Shared -> Prop} {rel : B0 -> α -> β -> Prop} (hp : Ay rel U xc X ρ (Mine.bnd (AJ v) f H) Q E s) :
  ∃ a c, v = .ref a /\ H[a]? = some c /\ Ay rel U xc X ρ (f c H) Q E s := by
 unfold Mine.bnd AJ at hp
 cases v with
 | ref a =>
  dsimp only at hp
  cases e : H[a]? with
  | some c => rw [e] at hp; exact ⟨a, c, rfl, e, hp⟩
  | none => rw [e] at hp; exact hp.elim
 | _ => exact hp.elim
abbrev AP (U : Un) : B0 -> V -> Value -> Prop := VR U.sa
structure Cx (U : Un) (A : Around) (X : Fx) (Ac : PySem.Env) (n : Nat) : Prop where
 B : ∃ A₀ outer, Below A₀ X.base outer X.G /\ X.l = Ac :: outer
 hA : A.frames = some X.l
 hf : Ac.frame = some X.L
 hk : Ac.scope.kind = .function
 hh : A.handled = none
 hd : A.depth + 8 * n + 8 < recursionLimit
 hu : A.units + 200 * n + 800 < cLine
 gf : GF U X.G
theorem VR.handed {sa : Addr} {ρ : B0} {v : V} {x : Value} (h : VR sa ρ v x) : handedIn x = true := by
 cases v <;> simp only [VR] at h
 all_goals first | (subst h; rfl) | (obtain ⟨t, rfl⟩ := h; rfl) | (obtain ⟨p, _, rfl⟩ := h; rfl)
theorem KZ.get {sa : Addr} {ρ : B0} {a : Nat} {v : V} : ∀ {fs : List (Nat × V)} {es : List DictEntry}, KZ sa ρ fs es -> Bd a fs = some v -> ∃ x, getL (wd a) es = some (some x) /\ VR sa ρ v x
 | [], _, _, e => by cases e
 | _ :: _, [], x, _ => x.elim
 | p :: r, e :: es, ⟨⟨t, hk⟩, hv, hr⟩, he => by
  unfold Bd at he
  unfold getL
  rw [List.find?_cons]
  have hs : e.key.isStr (wd a) = (wd p.1 == wd a) := by rw [hk]; rfl
  rw [hs, Nb]
  by_cases h : p.1 = a
  .rw [if_pos h] at he
   rw [beq_iff_eq.mpr h]
   cases he
   exact ⟨_, rfl, hv⟩
  .rw [if_neg h] at he
   rw [beq_eq_false_iff_ne.mpr h]
   obtain ⟨x, g, w⟩ := hr.get he
   unfold getL at g
   refine ⟨x, ?_, w⟩
   dsimp only
   split at g
   .rename_i e' q; rw [q]; exact g
   .split at g <;> cases g
theorem KZ.some {sa : Addr} {ρ : B0} {a : Nat} : ∀ {fs : List (Nat × V)} {es : List DictEntry}, KZ sa ρ fs es -> (getL (wd a) es).isSome = true := by
 intro fs es h
 have nr : es.any (·.refKey) = false := by
  induction fs generalizing es with
  | nil => cases es with
   | nil => rfl
   | cons _ _ => exact h.elim
  | cons p r ih => cases es with
   | nil => exact h.elim
   | cons e es =>
    obtain ⟨⟨t, hk⟩, _, hr⟩ := h
    rw [List.any_cons, ih hr]
    simp [DictEntry.refKey, hk]
 unfold getL
 split
 .rfl
 .rw [nr]; rfl
theorem KZ.put {sa : Addr} {ρ : B0} {a : Nat} {v : V} {x : Value} {hs : Int} {t : Tok} (hv : VR sa ρ v x) : ∀ {fs : List (Nat × V)} {es : List DictEntry}, KZ sa ρ fs es -> KZ sa ρ (DS a v fs) (putL (wd a) hs (.str (wd a) t) x es)
 | [], [], _ => ⟨⟨t, rfl⟩, hv, trivial⟩
 | [], _ :: _, h => h.elim
 | _ :: _, [], h => h.elim
 | p :: r, e :: es, ⟨⟨u, hk⟩, hw, hr⟩ => by
  have hs' : e.key.isStr (wd a) = (wd p.1 == wd a) := by rw [hk]; rfl
  unfold DS putL
  rw [hs', Nb]
  by_cases h : p.1 = a
  .rw [if_pos h, if_pos (beq_iff_eq.mpr h)]
   exact ⟨⟨u, by rw [hk, h]⟩, hv, hr⟩
  .rw [if_neg h, if_neg (by rw [beq_eq_false_iff_ne.mpr h]; decide)]
   exact ⟨⟨u, hk⟩, hw, KZ.put hv hr⟩
theorem KZ.length {sa : Addr} {ρ : B0} : ∀ {fs : List (Nat × V)} {es : List DictEntry}, KZ sa ρ fs es -> es.length = fs.length
 | [], [], _ => rfl
 | [], _ :: _, h => h.elim
 | _ :: _, [], h => h.elim
 | _ :: _, _ :: _, ⟨_, _, h⟩ => congrArg (· + 1) h.length
theorem LB (nm : Str) (hs : Int) (k v : Value) : ∀ es : List DictEntry, (putL nm hs k v es).length <= es.length + 1
 | [] => Nat.le_refl _
 | e :: es => by
  unfold putL
  split
  .simp
  .have := LB nm hs k v es; simp; exact this
variable {A : Around} {Ac : PySem.Env} {n : Nat} {Q : Value -> Shared -> Prop}
theorem Lv (uf : UF U) (cx : Cx U A X Ac n) (x : Bc U X ρ H s.heap) {o : V} {o' : Value} {a : Nat} {ex : Bool} (ha : a ∈ Dg) (ho : AP U ρ o o')
  (hp : Ay (AP U) U xc X ρ (DF o a H) Q E s) : wpAny (model U.prog U.w) A (getAttr o' (wd a) ex) Q E s := by
 unfold DF at hp
 obtain ⟨i, c, rfl, hc, hp⟩ := BC hp
 cases c with
 | inst k fs =>
  dsimp only at hp
  cases hl : Bd a fs with
  | none => rw [hl] at hp; exact hp.elim
  | some v =>
   rw [hl] at hp
   obtain ⟨ad, nn, pre, post, e1, ⟨es, nd, rfl, hw⟩, N, D, lo, _⟩ := x.cell hc
   obtain ⟨pa, e2, rfl⟩ := ho
   rw [e1] at e2
   cases e2
   obtain ⟨y, g, hy⟩ := hw.get hl
   obtain ⟨ao1, ao2, attr, ao3, ao4⟩ := uf.attr k a ha
   have h1 : (ad.1, instObj (U.cls k) ad.2) ∈ pre ++ [(ad.1, instObj (U.cls k) ad.2), (ad.2, W.dictOf es nd)] ++ post := by simp
   have h2 : (ad.2, W.dictOf es nd) ∈ pre ++ [(ad.1, instObj (U.cls k) ad.2), (ad.2, W.dictOf es nd)] ++ post := by simp
   refine get_own x.fr cx.gf.K (W.InstAt.of_news N h1 h2) ao1 (uf.dict k) ao3 ao4 g hy.handed ?_
   exact hp ρ y s.heap _ (B8 _) x hy
 | _ => exact hp.elim
theorem Lb (uf : UF U) (cx : Cx U A X Ac n) (x : Bc U X ρ H s.heap) {o v : V} {o' v' : Value} {a : Nat} (ha : a ∈ Dg) (ho : AP U ρ o o') (hv : AP U ρ v v') {Q : Unit -> Shared -> Prop}
  (hp : Ay (fun _ _ _ => True) U xc X ρ (FL o a v H) Q E s) : wpAny (model U.prog U.w) A (setAttr o' (wd a) v') Q E s := by
 unfold FL at hp
 obtain ⟨i, c, rfl, hc, hp⟩ := BC hp
 cases c with
 | inst k fs =>
  dsimp only at hp
  split at hp
  .rename_i BN
   obtain ⟨ad, nn, pre, post, e1, ⟨es, nd, rfl, hw⟩, N, D, lo, _, back⟩ := x.cell hc
   obtain ⟨pa, e2, rfl⟩ := ho
   rw [e1] at e2
   cases e2
   obtain ⟨ao1, ao2, attr, ao3, ao4⟩ := uf.attr k a ha
   have h1 : (ad.1, instObj (U.cls k) ad.2) ∈ pre ++ [(ad.1, instObj (U.cls k) ad.2), (ad.2, W.dictOf es nd)] ++ post := by simp
   have h2 : (ad.2, W.dictOf es nd) ∈ pre ++ [(ad.1, instObj (U.cls k) ad.2), (ad.2, W.dictOf es nd)] ++ post := by simp
   have e3 : ∀ q : List DictEntry × Nat, pre ++ [(ad.1, instObj (U.cls k) ad.2), (ad.2, W.dictOf q.1 q.2)] ++ post = (pre ++ [(ad.1, instObj (U.cls k) ad.2)]) ++ (ad.2, W.dictOf q.1 q.2) :: post := fun q => by simp
   have up := Mi (o' := W.dictOf (putL (wd a) (PyData.keyHash U.w.params (wd a)) (.str (wd a) (s.toks + 1)) v' es) (putN (wd a) es nd)) (e3 (es, nd) ▸ D)
   rw [<- e3 (es, nd), <- e3 (_, _)] at up
   refine set_dict x.fr cx.gf.K N (W.InstAt.of_news N h1 h2) rfl (uf.seta k) (uf.over k) ao2 (uf.dict k) hw.some rfl up ?_ fun h' F' N' => ?_
   .have := LB (wd a) (PyData.keyHash U.w.params (wd a)) (.str (wd a) (s.toks + 1)) v' es
    have := hw.length
    omega
   .refine hp ρ () h' _ (B8 _) (back (.inst k (DS a v fs)) _ h' F' N' rfl ⟨_, _, rfl, hw.put hv⟩) trivial
  .exact hp.elim
 | _ => exact hp.elim
end
theorem DO.length {sa : Addr} {ρ : B0} : ∀ {vs : List V} {xs : List Value}, DO sa ρ vs xs -> xs.length = vs.length
 | [], [], _ => rfl
 | _ :: _, _ :: _, ⟨_, h⟩ => congrArg (· + 1) h.length
 | [], _ :: _, h => h.elim
 | _ :: _, [], h => h.elim
theorem DO.get {sa : Addr} {ρ : B0} : ∀ {vs : List V} {xs : List Value} {k : Nat} {v : V}, DO sa ρ vs xs -> vs[k]? = some v -> ∃ x, xs[k]? = some x /\ VR sa ρ v x
 | [], [], _, _, _, e => by simp at e
 | v :: _, x :: _, 0, _, ⟨a, _⟩, e => by simp at e; subst e; exact ⟨x, rfl, a⟩
 | _ :: _, _ :: _, k + 1, _, ⟨_, b⟩, e => by rw [List.getElem?_cons_succ] at e; rw [List.getElem?_cons_succ]; exact b.get e
 | [], _ :: _, _, _, h, _ => h.elim
 | _ :: _, [], _, _, h, _ => h.elim
theorem DO.append {sa : Addr} {ρ : B0} {ws : List V} {ys : List Value} : ∀ {vs : List V} {xs : List Value}, DO sa ρ vs xs -> DO sa ρ ws ys -> DO sa ρ (vs ++ ws) (xs ++ ys)
 | [], [], _, q => q
 | _ :: _, _ :: _, ⟨a, h⟩, q => ⟨a, DO.append h q⟩
 | [], _ :: _, h, _ => h.elim
 | _ :: _, [], h, _ => h.elim
theorem DO.one {sa : Addr} {ρ : B0} {v : V} {x : Value} (h : VR sa ρ v x) : DO sa ρ [v] [x] := ⟨h, trivial⟩
theorem DO.reverse {sa : Addr} {ρ : B0} : ∀ {vs : List V} {xs : List Value}, DO sa ρ vs xs -> DO sa ρ vs.reverse xs.reverse
 | [], [], _ => trivial
 | _ :: _, _ :: _, ⟨a, h⟩ => by rw [List.reverse_cons, List.reverse_cons]; exact h.reverse.append (.one a)
 | [], _ :: _, h => h.elim
 | _ :: _, [], h => h.elim
theorem DO.take {sa : Addr} {ρ : B0} : ∀ {vs : List V} {xs : List Value} (k : Nat), DO sa ρ vs xs -> DO sa ρ (vs.take k) (xs.take k)
 | _, _, 0, _ => trivial
 | [], [], _ + 1, _ => trivial
 | _ :: _, _ :: _, k + 1, ⟨a, h⟩ => ⟨a, h.take k⟩
 | [], _ :: _, _, h => h.elim
 | _ :: _, [], _, h => h.elim
theorem DO.drop {sa : Addr} {ρ : B0} : ∀ {vs : List V} {xs : List Value} (k : Nat), DO sa ρ vs xs -> DO sa ρ (vs.drop k) (xs.drop k)
 | _, _, 0, h => h
 | [], [], _ + 1, _ => trivial
 | _ :: _, _ :: _, k + 1, ⟨_, h⟩ => h.drop k
 | [], _ :: _, _, h => h.elim
 | _ :: _, [], _, h => h.elim
theorem DO.set {sa : Addr} {ρ : B0} {v : V} {x : Value} (q : VR sa ρ v x) : ∀ {vs : List V} {xs : List Value} (k : Nat), DO sa ρ vs xs -> DO sa ρ (vs.set k v) (xs.set k x)
 | [], [], _, _ => trivial
 | _ :: _, _ :: _, 0, ⟨_, h⟩ => ⟨q, h⟩
 | _ :: _, _ :: _, k + 1, ⟨a, h⟩ => ⟨a, h.set q k⟩
 | [], _ :: _, _, h => h.elim
 | _ :: _, [], _, h => h.elim
theorem DO.replicate {sa : Addr} {ρ : B0} {v : V} {x : Value} (q : VR sa ρ v x) : ∀ k : Nat, DO sa ρ (List.replicate k v) (List.replicate k x)
 | 0 => trivial
 | k + 1 => ⟨q, DO.replicate q k⟩
theorem DO.dropLast {sa : Addr} {ρ : B0} : ∀ {vs : List V} {xs : List Value}, DO sa ρ vs xs -> DO sa ρ vs.dropLast xs.dropLast
 | [], [], _ => trivial
 | [_], [_], _ => trivial
 | v :: w :: vs, x :: y :: xs, ⟨a, h⟩ => by rw [List.dropLast_cons_cons, List.dropLast_cons_cons]; exact ⟨a, h.dropLast⟩
 | [_], _ :: _ :: _, h => h.2.elim
 | _ :: _ :: _, [_], h => h.2.elim
 | [], _ :: _, h => h.elim
 | _ :: _, [], h => h.elim
theorem IB.look {sa : Addr} {ρ : B0} {k : Nat} : ∀ {kvs : List (Nat × V)} {es : List (Str × Value)}, IB sa ρ kvs es -> (Bd k kvs = none -> valueAt es (wd k) = none) /\ ∀ v, Bd k kvs = some v -> ∃ x, valueAt es (wd k) = some x /\ VR sa ρ v x
 | [], [], _ => ⟨fun _ => rfl, fun _ e => by cases e⟩
 | [], _ :: _, h => h.elim
 | _ :: _, [], h => h.elim
 | p :: r, e :: es, ⟨h1, h2, h3⟩ => by
  have ih := h3.look (k := k)
  unfold Bd
  have hv : valueAt (e :: es) (wd k) = if wd p.1 = wd k then some e.2 else valueAt es (wd k) := by
   obtain ⟨ek, ev⟩ := e
   dsimp only at h1
   subst h1
   show (List.find? _ _).map _ = _
   rw [List.find?_cons]
   by_cases q : wd p.1 = wd k
   .simp [q]
   .simp [q, valueAt]
  rw [hv]
  by_cases q : p.1 = k
  .subst q
   simp only [if_true]
   exact ⟨fun e => by (cases e), fun v e => by cases e; exact ⟨_, rfl, h2⟩⟩
  .have q' : ¬ wd p.1 = wd k := fun e => q (Mo e)
   rw [if_neg q, if_neg q']
   exact ih
section
variable {A : Around} {s : Shared}
theorem JN {prog : Program} {w : World} {E : Value -> Shared -> Prop} {Q : Bool -> Shared -> Prop} {nm : String} {a b : Addr} {oa ob : Obj} {ea eb : Nat} (la : (a == sysModules) = false) (lb : (b == sysModules) = false)
  (ha : s.heap.get? a = some oa) (hb : s.heap.get? b = some ob) (da : oa.data = .dict #[] ea) (db : ob.data = .dict #[] eb) (h : Q true s) :
  wpAny (model prog w) A (Builtin.Dict.samePairs nm a b) Q E s := by
 unfold Builtin.Dict.samePairs Builtin.Dict.showsAll
 rw [if_neg (show ¬ (a == sysModules) = true by rw [la]; exact Bool.false_ne_true), if_neg (show ¬ (b == sysModules) = true by rw [lb]; exact Bool.false_ne_true)]
 refine Az (BW (Az (BW ?_)))
 refine Az (wpAny_dictEntries ha da ?_)
 dsimp only
 refine Az (wpAny_dictEntries hb db ?_)
 rw [if_neg (by decide)]
 refine Az (wpAny_dictEpoch ha da ?_)
 refine Az ?_
 rw [Std.Legacy.Range.forIn_eq_forIn_range']
 simp only [Std.Legacy.Range.size, Nat.sub_zero, Nat.add_sub_cancel, Nat.div_one]
 exact BW (BW h)
theorem JM {prog : Program} {w : World} {E : Value -> Shared -> Prop} {Q : Bool -> Shared -> Prop} {nm : String} {a b : Addr} {oa ob : Obj} {ea eb : Nat} {x y : DictEntry} {k : Str} {t u : Tok} (la : (a == sysModules) = false) (lb : (b == sysModules) = false)
  (ha : s.heap.get? a = some oa) (hb : s.heap.get? b = some ob) (da : oa.data = .dict #[x] ea) (db : ob.data = .dict #[y] eb) (hx : x.key = .str k t) (hy : y.key = .str k u) (he : EqAt A s x.val y.val true) (h : Q true s) :
  wpAny (model prog w) A (Builtin.Dict.samePairs nm a b) Q E s := by
 obtain ⟨xh, xk, xv⟩ := x
 obtain ⟨yh, yk, yv⟩ := y
 dsimp only at hx hy he
 subst hx hy
 unfold Builtin.Dict.samePairs Builtin.Dict.showsAll
 rw [if_neg (show ¬ (a == sysModules) = true by rw [la]; exact Bool.false_ne_true), if_neg (show ¬ (b == sysModules) = true by rw [lb]; exact Bool.false_ne_true)]
 refine Az (BW (Az (BW ?_)))
 refine Az (wpAny_dictEntries ha da ?_)
 dsimp only
 refine Az (wpAny_dictEntries hb db ?_)
 rw [if_neg (by simp)]
 refine Az (wpAny_dictEpoch ha da ?_)
 refine Az ?_
 rw [Std.Legacy.Range.forIn_eq_forIn_range']
 simp only [Std.Legacy.Range.size, Nat.sub_zero, Nat.add_sub_cancel, Nat.div_one]
 show wpAny _ _ (forIn [0] _ _) _ _ _
 rw [List.forIn_cons]
 refine Az ?_
 refine Az (wpAny_dictEntries ha da ?_)
 show wpAny _ _ (holding [Value.str k t, xv] (dictFind b (.str k t) xh >>= _) >>= _) _ _ _
 refine Az (wpAny_holding (Az ?_))
 unfold dictFind
 refine wpAny_holding (Az (wpAny_dictEntries hb db ?_))
 dsimp only
 rw [if_pos (by simp [isExactStrKey])]
 unfold foundByValue
 have h2 : (#[(⟨yh, .str k u, yv⟩ : DictEntry)].findIdx? fun e => e.key.isStr k) = some 0 := by simp [Value.isStr]
 rw [h2]
 refine Az (wpAny_dictEpoch hb db ?_)
 have h3 := EqAt.str_str (A := A) (s := s) k u k t
 refine Az (h3 prog w _ _ ?_)
 refine Az (wpAny_dictEpoch hb db ?_)
 rw [if_neg (by simp)]
 rw [if_pos (by simp)]
 refine Az (wpAny_rule (BW ?_))
 dsimp only
 refine Az (wpAny_dictEntries hb db ?_)
 show wpAny _ _ (holding [yv] (eqBool xv yv)) _ _ _
 refine wpAny_holding (he prog w _ _ ?_)
 rw [if_neg (by decide)]
 refine Az (wpAny_dictEpoch ha da ?_)
 rw [if_neg (by simp)]
 exact BW (BW (BW h))
theorem NB {a b : Addr} {oa ob : Obj} (ha : s.heap.get? a = some oa) (hb : s.heap.get? b = some ob) (ca : oa.cls = .type "dict") (cb : ob.cls = .type "dict") (hu : A.units < cLine)
  (hp : ∀ (prog : Program) (w : World) (E : Value -> Shared -> Prop) (Q : Bool -> Shared -> Prop) (nm : String), Q true s -> wpAny (model prog w) A.in1 (Builtin.Dict.samePairs nm a b) Q E s) :
  RcAt A s (.ref a) (.ref b) true /\ RcNeAt A s (.ref a) (.ref b) false := by
 have ta : s.TypeIs (.ref a) "dict" := ⟨oa, ha, ca⟩
 have tb : s.TypeIs (.ref b) "dict" := ⟨ob, hb, cb⟩
 constructor
 .intro prog w E Q h
  refine wpAny_richCompare_same_room (op := .Eq) ta tb PySem.F.slot_dict_eq (wpAny_call_entry PySem.F.slot_dict_eq ta PySem.F.entry_dict_eq ?_ (PySem.F.args_dict_eq_2 _ _)) hu
  show wpAny _ _ (Builtin.Dict.dictSlotArgs "__eq__" ⟨[.ref a, .ref b], []⟩ >>= _) _ _ s
  refine Az ?_
  unfold Builtin.Dict.dictSlotArgs
  refine Az (wpAny_notOrdered_dict ta ?_)
  show wpAny _ _ (pure (Value.ref a, Value.ref b)) _ _ s
  refine BW ?_
  refine Az (wpAny_isInstance (T := "dict") tb PySem.F.sub_dict_dict ?_)
  simp only [Bool.not_true, Bool.false_eq_true, if_false]
  refine Az (BW (Az (BW ?_)))
  refine Az (hp prog w _ _ _ ?_)
  refine BW ⟨_, rfl, ?_, ?_⟩
  .exact fun x => nomatch x
  .simpa using h
 .intro prog w E Q h
  refine wpAny_richCompare_same_room (op := .NotEq) ta tb PySem.F.slot_dict_ne (wpAny_call_entry PySem.F.slot_dict_ne ta PySem.F.entry_dict_ne ?_ (PySem.F.args_dict_ne_2 _ _)) hu
  show wpAny _ _ (Builtin.Dict.dictSlotArgs "__ne__" ⟨[.ref a, .ref b], []⟩ >>= _) _ _ s
  refine Az ?_
  unfold Builtin.Dict.dictSlotArgs
  refine Az (wpAny_notOrdered_dict ta ?_)
  show wpAny _ _ (pure (Value.ref a, Value.ref b)) _ _ s
  refine BW ?_
  refine Az (wpAny_isInstance (T := "dict") tb PySem.F.sub_dict_dict ?_)
  simp only [Bool.not_true, Bool.false_eq_true, if_false]
  refine Az (BW (Az (BW ?_)))
  refine Az (hp prog w _ _ _ ?_)
  refine BW ⟨_, rfl, ?_, ?_⟩
  .exact fun x => nomatch x
  .simpa using h
end
section
variable {U : Un} {X : Fx} {ρ : B0} {H : MH} {s : Shared}
theorem IP (p : Addr × Obj) (pre post : List (Addr × Obj)) : p ∈ pre ++ [p] ++ post := DW _ (DK _ (.head _))
def At (U : Un) (ρ : B0) (c : An) (h : Heap) (a : Addr) : Prop := match c with
 | .list xs => ∃ vs, h.IsList a (List.toArray vs) /\ DO U.sa ρ xs vs
 | .tup xs => ∃ vs, h.IsTuple a (List.toArray vs) /\ DO U.sa ρ xs vs
 | .dictW kvs => ∃ o es, h.get? a = some o /\ o.IsDictOf (PySem.strKind U.prog U.w) es /\ IB U.sa ρ kvs es
 | .dictP kvs => ∃ o es, h.get? a = some o /\ o.IsDictOf (PySem.strKind U.prog U.w) es /\ IB U.sa ρ kvs es /\ U.pin a = some o
 | _ => True
theorem FS.at (x : Bc U X ρ H s.heap) {i : Nat} {c : An} (e : H[i]? = some c) : ∃ a, ρ[i]? = some a /\ 3 < a.1 /\ At U ρ c s.heap a.1 := by
 obtain ⟨a, n, pre, post, e1, y, N, D, lo, _⟩ := x.cell e
 refine ⟨a, e1, ?_, ?_⟩
 .cases c with
  | list xs => obtain ⟨vs, k, rfl, _⟩ := y; exact lo _ (.head _)
  | tup xs => obtain ⟨vs, rfl, _⟩ := y; exact lo _ (.head _)
  | dictW xs => obtain ⟨vs, k, rfl, _⟩ := y; exact lo _ (.head _)
  | dictP xs => obtain ⟨vs, k, rfl, _⟩ := y; exact lo _ (.head _)
  | dictI xs => obtain ⟨vs, k, rfl, _⟩ := y; exact lo _ (.head _)
  | inst k xs => obtain ⟨vs, k, rfl, _⟩ := y; exact lo _ (.head _)
  | tab => obtain ⟨vs, k, rfl, _⟩ := y; exact lo _ (.head _)
 .cases c with
  | list xs => obtain ⟨vs, k, rfl, v⟩ := y; exact ⟨vs, ⟨_, N.get (IP _ _ _), rfl, k, rfl⟩, v⟩
  | tup xs => obtain ⟨vs, rfl, v⟩ := y; exact ⟨vs, ⟨_, N.get (IP _ _ _), rfl, 0, rfl⟩, v⟩
  | dictW xs => obtain ⟨o, es, rfl, d, v⟩ := y; exact ⟨o, es, N.get (by simp), d, v⟩
  | dictP xs => obtain ⟨o, es, rfl, d, v⟩ := y; exact ⟨o, es, N.get (by simp), d, v⟩
  | _ => trivial
theorem D0 {a : Addr} (h : 3 < a) : (a == sysModules) = false := beq_eq_false_iff_ne.mpr (fun e => by subst e; exact absurd h (by decide))
theorem LL (n : Nat) : (List.range n).all (fun _ => true) = true := by simp
def MP (A : Around) (s : Shared) (a b : Value) : Prop := EqAt A s a b true /\ RcAt A s a b true /\ RcNeAt A s a b false
theorem HO {A : Around} {a b : Addr} {t : Bool} (h : RcAt A s (.ref a) (.ref b) t) (hs : a = b -> t = true) : EqAt A s (.ref a) (.ref b) t := by
 by_cases e : a = b
 .rw [hs e]; subst e; exact .same _
 .exact .of_refs e h
theorem NG {A : Around} {a b : Addr} (h : RcAt A s (.ref a) (.ref b) true /\ RcNeAt A s (.ref a) (.ref b) false) : MP A s (.ref a) (.ref b) := ⟨HO h.1 fun _ => rfl, h⟩
theorem NK {A : Around} (i : Bool) : MP A s (.bool i) (.bool i) := by
 have e1 := EqAt.bool_bool (A := A) (s := s) i i
 have e2 := RcAt.bool_bool (A := A) (s := s) i i
 have e3 := RcNeAt.bool_bool (A := A) (s := s) i i
 rw [beq_self_eq_true] at e1 e2 e3
 exact ⟨e1, e2, e3⟩
theorem Of {A : Around} (i : Int) (t u : Tok) : MP A s (.int i t) (.int i u) := by
 have e1 := EqAt.int_int (A := A) (s := s) i t i u
 have e2 := RcAt.int_int (A := A) (s := s) i t i u
 have e3 := RcNeAt.int_int (A := A) (s := s) i t i u
 rw [beq_self_eq_true] at e1 e2 e3
 exact ⟨e1, e2, e3⟩
theorem It {A : Around} (i : Str) (t u : Tok) : MP A s (.str i t) (.str i u) := by
 have e1 := EqAt.str_str (A := A) (s := s) i t i u
 have e2 := RcAt.str_str (A := A) (s := s) i t i u
 have e3 := RcNeAt.str_str (A := A) (s := s) i t i u
 rw [beq_self_eq_true] at e1 e2 e3
 exact ⟨e1, e2, e3⟩
theorem Jp {U : Un} {o : Obj} {es : List (Str × Value)} (h : o.IsDictOf (PySem.strKind U.prog U.w) es) (e : es = []) : o.cls = .type "dict" /\ ∃ ep, o.data = .dict #[] ep := by
 obtain ⟨xs, ep, ex, d, _, p, _⟩ := h
 subst e
 have : xs.toList = [] := by cases q : xs.toList with | nil => rfl | cons _ _ => rw [q] at p; cases p
 have : xs = #[] := Array.ext' this
 subst this
 exact ⟨ex.1, ep, d⟩
theorem Je {U : Un} {o : Obj} {k : Str} {v : Value} (h : o.IsDictOf (PySem.strKind U.prog U.w) [(k, v)]) : o.cls = .type "dict" /\ ∃ ep x t, o.data = .dict #[x] ep /\ x.key = .str k t /\ x.val = v := by
 obtain ⟨xs, ep, ex, d, _, p, _⟩ := h
 obtain ⟨l⟩ := xs
 have p' : Pairs (PySem.strKind U.prog U.w) l [(k, v)] := p
 cases p' with
 | cons hk hv hr =>
  cases hr
  obtain ⟨t, ht⟩ := Value.isStrOf_shape hk
  exact ⟨ex.1, ep, _, t, d, ht, hv⟩
theorem Pm (x : Bc U X ρ H s.heap) : ∀ n : Nat, (∀ (a b : V) (a' b' : Value) (A : Around), G4 n H a b = true -> VR U.sa ρ a a' -> VR U.sa ρ b b' -> A.units + n < cLine -> MP A s a' b') /\
  (∀ (as bs : List V) (as' bs' : List Value) (A : Around), Ek n H as bs = true -> DO U.sa ρ as as' -> DO U.sa ρ bs bs' -> A.units + n < cLine -> as'.length = bs'.length /\ ∀ j (h1 : j < as'.length) (h2 : j < bs'.length), EqAt A s as'[j] bs'[j] true) := by
 intro n
 induction n with
 | zero => exact ⟨fun a b a' b' A h => by simp [G4] at h, fun as bs as' bs' A h => by simp [Ek] at h⟩
 | succ n ih =>
  constructor
  .intro a b a' b' A h va vb hu
   cases a <;> cases b <;> simp only [G4, Bool.false_eq_true] at h
   .cases va; cases vb; exact ⟨.same _, RcAt.none_none, RcNeAt.none_none⟩
   .cases va; cases vb; obtain rfl := eq_of_beq h; exact NK _
   .obtain ⟨t, rfl⟩ := va; obtain ⟨u, rfl⟩ := vb
    obtain rfl := eq_of_beq h
    exact Of _ t u
   .obtain ⟨t, rfl⟩ := va; obtain ⟨u, rfl⟩ := vb
    obtain rfl := eq_of_beq h
    exact It _ t u
   .obtain ⟨t, rfl⟩ := va; obtain ⟨u, rfl⟩ := vb
    obtain rfl := eq_of_beq h
    exact It _ t u
   .rename_i i j
    obtain ⟨pa, ea, rfl⟩ := va
    obtain ⟨pb, eb, rfl⟩ := vb
    cases hi : H[i]? with
    | none => rw [hi] at h; simp at h
    | some ci =>
     cases hj : H[j]? with
     | none => rw [hi, hj] at h; cases ci <;> simp at h
     | some cj =>
      rw [hi, hj] at h
      obtain ⟨ga, e1, la, aa⟩ := x.at hi
      obtain ⟨gb, e2, lb, ab⟩ := x.at hj
      rw [ea] at e1; cases e1
      rw [eb] at e2; cases e2
      refine NG ?_
      cases ci with
      | list xs =>
       cases cj with
       | list ys =>
        obtain ⟨vs, il, vv⟩ := aa
        obtain ⟨us, jl, uv⟩ := ab
        obtain ⟨el, ee⟩ := ih.2 xs ys vs us A.in1 h vv uv (by show A.units + 1 + _ < _; omega)
        have r1 := RcAt.lists (e := fun _ => true) (A := A) il jl (by simpa using el) (by omega) (fun j h1 h2 => by simpa using ee j (by simpa using h1) (by simpa using h2))
        have r2 := RcNeAt.lists (e := fun _ => true) (A := A) il jl (by simpa using el) (by omega) (fun j h1 h2 => by simpa using ee j (by simpa using h1) (by simpa using h2))
        rw [LL] at r1 r2
        exact ⟨r1, r2⟩
       | _ => simp at h
      | tup xs =>
       cases cj with
       | tup ys =>
        obtain ⟨vs, il, vv⟩ := aa
        obtain ⟨us, jl, uv⟩ := ab
        obtain ⟨el, ee⟩ := ih.2 xs ys vs us A.in1 h vv uv (by show A.units + 1 + _ < _; omega)
        have r1 := RcAt.tuples (e := fun _ => true) (A := A) il jl (by omega) (fun j h1 h2 => by simpa using ee j (by simpa using h1) (by simpa using h2))
        have r2 := RcNeAt.tuples (e := fun _ => true) (A := A) il jl (by omega) (fun j h1 h2 => by simpa using ee j (by simpa using h1) (by simpa using h2))
        rw [LL] at r1 r2
        have el' : (vs.toArray.size == us.toArray.size) = true := by simpa using el
        rw [el'] at r1 r2
        exact ⟨r1, r2⟩
       | _ => simp at h
      | dictW xs =>
       cases cj with
       | dictW ys =>
        obtain ⟨oa, es, ha, da, va⟩ := aa
        obtain ⟨ob, fs, hb, db, vb⟩ := ab
        match xs, ys, h, va, vb with
        | [], [], _, va, vb =>
         have e1 : es = [] := by cases es with | nil => rfl | cons _ _ => exact va.elim
         have e2 : fs = [] := by cases fs with | nil => rfl | cons _ _ => exact vb.elim
         obtain ⟨c1, ep1, d1⟩ := Jp da e1
         obtain ⟨c2, ep2, d2⟩ := Jp db e2
         exact NB ha hb c1 c2 (by omega) fun prog w E Q nm hq => JN (D0 la) (D0 lb) ha hb d1 d2 hq
        | [(k, v)], [(k', v')], h, va, vb =>
         simp only [Ao] at h
         obtain ⟨hk, hv⟩ := h
         obtain rfl := eq_of_beq hk
         match es, fs, va, vb, da, db with
         | [(q, y)], [(q', y')], ⟨f1, f2, _⟩, ⟨g1, g2, _⟩, da, db =>
          dsimp only at f1 g1 f2 g2
          subst f1 g1
          obtain ⟨c1, ep1, z, t, d1, k1, w1⟩ := Je da
          obtain ⟨c2, ep2, z', t', d2, k2, w2⟩ := Je db
          have sm := (ih.1 v v' y y' A.in1 hv f2 g2 (by show A.units + 1 + _ < _; omega)).1
          exact NB ha hb c1 c2 (by omega) fun prog w E Q nm hq => JM (D0 la) (D0 lb) ha hb d1 d2 k1 k2 (by rw [w1, w2]; exact sm) hq
         | [], _, va, _, _, _ => exact va.elim
         | _ :: _ :: _, _, va, _, _, _ => exact va.2.2.elim
         | [_], [], _, vb, _, _ => exact vb.elim
         | [_], _ :: _ :: _, _, vb, _, _ => exact vb.2.2.elim
       | _ => cases xs with
        | nil => simp at h
        | cons p r => cases r <;> simp at h
      | _ => simp at h
  .intro as bs as' bs' A h va vb hu
   cases as with
   | nil =>
    cases bs with
    | nil => cases as' with
     | nil => cases bs' with
      | nil => exact ⟨rfl, fun j h1 _ => absurd h1 (Nat.not_lt_zero _)⟩
      | cons _ _ => exact vb.elim
     | cons _ _ => exact va.elim
    | cons _ _ => simp [Ek] at h
   | cons a r =>
    cases bs with
    | nil => simp [Ek] at h
    | cons b q =>
     simp only [Ek, Ao] at h
     cases as' with
     | nil => exact va.elim
     | cons a' r' => cases bs' with
      | nil => exact vb.elim
      | cons b' q' =>
       obtain ⟨el, ee⟩ := ih.2 r q r' q' A h.2 va.2 vb.2 (by omega)
       refine ⟨congrArg (· + 1) el, fun j h1 h2 => ?_⟩
       cases j with
       | zero => exact (ih.1 a b a' b' A h.1 va.1 vb.1 (by omega)).1
       | succ j => exact ee j (Nat.lt_of_succ_lt_succ h1) (Nat.lt_of_succ_lt_succ h2)
end
section
variable {U : Un} {X : Fx} {ρ : B0} {H : MH} {s : Shared} {A : Around}
def SJ (A : Around) (s : Shared) (a b : Value) (t : Bool) : Prop := EqAt A s a b t /\ RcAt A s a b t /\ RcNeAt A s a b (!t)
theorem M6 (x : Bc U X ρ H s.heap) {a b : V} {a' b' : Value} {t : Bool} (h : Fg H a b = some t) (va : VR U.sa ρ a a') (vb : VR U.sa ρ b b') (hu : A.units + 70 < cLine) : SJ A s a' b' t := by
 have same : MP A s a' b' -> t = true -> SJ A s a' b' t := fun q e => by subst e; exact q
 have deep : ∀ q : Option Bool, q = some t -> (q = some true -> G4 Fd H a b = true) -> (∃ z, q = some z -> z = true) -> True := fun _ _ _ _ => trivial
 cases a <;> cases b <;> simp only [Fg, Option.some.injEq, reduceCtorEq] at h
 .cases va; cases vb; exact same ⟨.same _, RcAt.none_none, RcNeAt.none_none⟩ h.symm
 .cases va; obtain ⟨u, rfl⟩ := vb; subst h; exact ⟨EqAt.none_str _ u, RcAt.none_str _ u, RcNeAt.none_str _ u⟩
 .obtain ⟨v, rfl⟩ := va; obtain ⟨u, rfl⟩ := vb; subst h; exact ⟨EqAt.int_int _ v _ u, RcAt.int_int _ v _ u, RcNeAt.int_int _ v _ u⟩
 .obtain ⟨v, rfl⟩ := va; obtain ⟨u, rfl⟩ := vb; subst h; exact ⟨EqAt.int_str _ v _ u, RcAt.int_str _ v _ u, RcNeAt.int_str _ v _ u⟩
 .obtain ⟨v, rfl⟩ := va; cases vb; subst h; exact ⟨EqAt.str_none _ v, RcAt.str_none _ v, RcNeAt.str_none _ v⟩
 .obtain ⟨v, rfl⟩ := va; obtain ⟨u, rfl⟩ := vb; subst h; exact ⟨EqAt.str_int _ v _ u, RcAt.str_int _ v _ u, RcNeAt.str_int _ v _ u⟩
 .obtain ⟨v, rfl⟩ := va; obtain ⟨u, rfl⟩ := vb
  subst h
  rw [<- Nb]
  exact ⟨EqAt.str_str _ v _ u, RcAt.str_str _ v _ u, RcNeAt.str_str _ v _ u⟩
 .obtain ⟨v, rfl⟩ := va; obtain ⟨u, rfl⟩ := vb
  split at h
  .rename_i e; subst e; cases h; exact It _ v u
  .cases h
 .obtain ⟨p, ep, rfl⟩ := va
  obtain ⟨u, rfl⟩ := vb
  split at h
  .rename_i hc
   cases h
   obtain ⟨g, e1, lo, vs, il, _⟩ := x.at hc
   rw [ep] at e1; cases e1
   exact ⟨EqAt.list_str _ u il (by omega), RcAt.list_str _ u il (by omega), RcNeAt.list_str _ u il (by omega)⟩
  .rename_i hc
   cases h
   obtain ⟨g, e1, lo, vs, il, _⟩ := x.at hc
   rw [ep] at e1; cases e1
   exact ⟨EqAt.tuple_str _ u il (by omega), RcAt.tuple_str _ u il (by omega), RcNeAt.tuple_str _ u il (by omega)⟩
  .cases h
 .rename_i i j
  have dq : G4 Fd H (.ref i) (.ref j) = true -> MP A s a' b' := fun q => (Pm x Fd).1 _ _ _ _ A q va vb (by show A.units + 64 < _; omega)
  obtain ⟨p, ep, rfl⟩ := va
  obtain ⟨q, eq, rfl⟩ := vb
  split at h
  .rename_i c d r hi hj
   cases h
   obtain ⟨g, e1, lo, vs, il, vv⟩ := x.at hi
   obtain ⟨g', e2, lo', us, jl, uv⟩ := x.at hj
   rw [ep] at e1; cases e1
   rw [eq] at e2; cases e2
   have n1 := vv.length
   have n2 := uv.length
   have Ex : (vs.toArray.size != us.toArray.size) = true := by rw [bne_iff_ne, List.size_toArray, List.size_toArray, n1, n2]; simp
   have r1 := RcAt.lists_lengths (A := A) il jl Ex (by omega)
   have r2 := RcNeAt.lists_lengths (A := A) il jl Ex (by omega)
   refine ⟨HO r1 fun e => ?_, r1, r2⟩
   exfalso
   rw [e] at il
   obtain ⟨o, ho, _, n, hd⟩ := il
   obtain ⟨o', ho', _, n', hd'⟩ := jl
   rw [ho] at ho'; cases ho'
   rw [hd] at hd'; cases hd'
   simp at Ex
  .rename_i c r hi hj
   cases h
   obtain ⟨g, e1, lo, vs, il, vv⟩ := x.at hi
   obtain ⟨g', e2, lo', us, jl, uv⟩ := x.at hj
   rw [ep] at e1; cases e1
   rw [eq] at e2; cases e2
   have n1 := vv.length
   have n2 := uv.length
   have Ex : (vs.toArray.size != us.toArray.size) = true := by rw [bne_iff_ne, List.size_toArray, List.size_toArray, n1, n2]; simp
   have r1 := RcAt.lists_lengths (A := A) il jl Ex (by omega)
   have r2 := RcNeAt.lists_lengths (A := A) il jl Ex (by omega)
   refine ⟨HO r1 fun e => ?_, r1, r2⟩
   exfalso
   rw [e] at il
   obtain ⟨o, ho, _, n, hd⟩ := il
   obtain ⟨o', ho', _, n', hd'⟩ := jl
   rw [ho] at ho'; cases ho'
   rw [hd] at hd'; cases hd'
   simp at Ex
  .rename_i hi hj
   cases h
   refine dq ?_
   simp [Fd, G4, Ek, hi, hj]
  .split at h
   .rename_i hd; cases h; exact dq hd
   .cases h
end
def LX : R9 -> CmpOp
 | .eq => .Eq | .ne => .NotEq | .lt => .Lt | .le => .LtE | .gt => .Gt | .ge => .GtE | .isin => .In | .notin => .NotIn
section
variable {U : Un} {xc : Value} {X : Fx} {ρ : B0} {H : MH} {s : Shared} {A : Around} {E : Value -> Shared -> Prop} {Q : Value -> Shared -> Prop} {Ac : PySem.Env} {n : Nat}
abbrev So : B0 -> Bool -> Value -> Prop := fun _ t c => c = .bool t
theorem A5 {α β : Type} {rel : B0 -> α -> β -> Prop} {Q : β -> Shared -> Prop} {a : α} {b : β} {tk : Nat} (hp : Ay rel U xc X ρ (Mine.ret a H) Q E s) (x : Bc U X ρ H s.heap) (r : rel ρ a b) : Q b { s with toks := tk } :=
 hp ρ b s.heap tk (B8 _) x r
theorem BX {α β : Type} {rel : B0 -> α -> β -> Prop} {Q : β -> Shared -> Prop} {a : α} {b : β} {tk : Nat} (hp : Ay rel U xc X ρ (R.ok a H) Q E s) (x : Bc U X ρ H s.heap) (r : rel ρ a b) : Q b { s with toks := tk } :=
 hp ρ b s.heap tk (B8 _) x r
theorem Lo.look {sa : Addr} {ρ : B0} {k : Int} : ∀ {kvs : List (Int × V)} {es : List (Int × Value)}, Lo sa ρ kvs es -> (Fo k kvs = none -> valueAt es k = none) /\ ∀ v, Fo k kvs = some v -> ∃ x, valueAt es k = some x /\ VR sa ρ v x
 | [], [], _ => ⟨fun _ => rfl, fun _ e => by cases e⟩
 | [], _ :: _, h => h.elim
 | _ :: _, [], h => h.elim
 | p :: r, e :: es, ⟨h1, h2, h3⟩ => by
  have ih := h3.look (k := k)
  unfold Fo
  have hv : valueAt (e :: es) k = if p.1 = k then some e.2 else valueAt es k := by
   obtain ⟨ek, ev⟩ := e
   dsimp only at h1
   subst h1
   show (List.find? _ _).map _ = _
   rw [List.find?_cons]
   by_cases q : p.1 = k
   .simp [q]
   .simp [q, valueAt]
  rw [hv]
  by_cases q : p.1 = k
  .subst q
   simp only [if_true]
   exact ⟨fun e => by (cases e), fun v e => by cases e; exact ⟨_, rfl, h2⟩⟩
  .rw [if_neg q, if_neg q]
   exact ih
theorem IB.isSome {sa : Addr} {ρ : B0} {k : Nat} {kvs : List (Nat × V)} {es : List (Str × Value)} (h : IB sa ρ kvs es) : (valueAt es (wd k)).isSome = (Bd k kvs).isSome := by
 have := h.look (k := k)
 cases q : Bd k kvs with
 | none => rw [this.1 q]; rfl
 | some v => obtain ⟨y, e, _⟩ := this.2 v q; rw [e]; rfl
theorem Lo.isSome {sa : Addr} {ρ : B0} {k : Int} {kvs : List (Int × V)} {es : List (Int × Value)} (h : Lo sa ρ kvs es) : (valueAt es k).isSome = (Fo k kvs).isSome := by
 have := h.look (k := k)
 cases q : Fo k kvs with
 | none => rw [this.1 q]; rfl
 | some v => obtain ⟨y, e, _⟩ := this.2 v q; rw [e]; rfl
theorem ET {sa : Addr} {ρ : B0} {k : Nat} {t : Tok} {A : Around} {s : Shared} : ∀ {xs : List V} {vs : List Value}, DO sa ρ xs vs -> xs.all wn = true -> (∀ y ∈ vs, EqAt A s y (.str (wd k) t) (isStrOf (wd k) y)) /\ vs.map (isStrOf (wd k)) = xs.map (Fz k)
 | [], [], _, _ => ⟨fun _ h => (nomatch h), rfl⟩
 | [], _ :: _, h, _ => h.elim
 | _ :: _, [], h, _ => h.elim
 | x :: xs, v :: vs, ⟨h, hs⟩, w => by
  rw [List.all_cons, Ao] at w
  obtain ⟨i1, i2⟩ := ET hs w.2 (k := k) (t := t) (A := A) (s := s)
  have one : EqAt A s v (.str (wd k) t) (isStrOf (wd k) v) /\ isStrOf (wd k) v = Fz k x := by
   cases x with
   | w i =>
    obtain ⟨u, rfl⟩ := h
    refine ⟨EqAt.str_str _ u _ t, ?_⟩
    show (wd i == wd k) = _
    rw [Nb]
    by_cases q : i = k
    .subst q; simp [Fz]
    .simp [Fz, q]
   | none => cases h; exact ⟨EqAt.none_str _ t, rfl⟩
   | _ => simp [wn] at w
  refine ⟨fun y hy => ?_, by rw [List.map_cons, List.map_cons, one.2, i2]⟩
  rcases List.mem_cons.mp hy with rfl | hy
  .exact one.1
  .exact i1 y hy
theorem any_map {α : Type} (f : α -> Bool) (l : List α) : l.any f = (l.map f).any id := by simp [List.any_map, Function.comp_def]
theorem Pp (cx : Cx U A X Ac n) (x : Bc U X ρ H s.heap) {a b : V} {a' b' : Value} (va : VR U.sa ρ a a') (vb : VR U.sa ρ b b') {f : Bool -> Bool}
  (hp : Ay So U xc X ρ (bnd (L4 a b) (fun t => Mine.ret (f t)) H) Q E s) {op : CmpOp} (hop : (op = .In /\ f = id) \/ (op = .NotIn /\ f = not)) : wpAny (model U.prog U.w) A (compareOp op a' b') Q E s := by
 unfold bnd L4 at hp
 have hu := cx.hu
 cases b with
 | ref i =>
  dsimp only at hp
  obtain ⟨p, ep, rfl⟩ := vb
  cases hc : H[i]? with
  | none => rw [hc] at hp; exact hp.elim
  | some c =>
   rw [hc] at hp
   obtain ⟨g, e1, lo, at_⟩ := x.at hc
   rw [ep] at e1; cases e1
   cases c with
   | list xs =>
    cases a with
    | w k =>
     obtain ⟨t, rfl⟩ := va
     dsimp only at hp
     by_cases hw : xs.all wn = true
     .rw [if_pos hw] at hp
      obtain ⟨vs, il, vv⟩ := at_
      obtain ⟨i1, i2⟩ := ET (k := k) (t := t) (A := A.in1) (s := s) vv hw
      have e : vs.toArray.any (isStrOf (wd k)) = xs.any (Fz k) := by
       rw [List.any_toArray, any_map, i2, <- any_map]
      rcases hop with ⟨rfl, rfl⟩ | ⟨rfl, rfl⟩
      .refine in_listAt (isStrOf (wd k)) il (fun y hy => i1 y (by simpa using hy)) ?_
       rw [e]; exact BX hp x rfl
      .refine notIn_listAt (isStrOf (wd k)) il (fun y hy => i1 y (by simpa using hy)) ?_
       rw [e]; exact BX hp x rfl
     .rw [if_neg hw] at hp; exact hp.elim
    | _ => exact hp.elim
   | tup xs =>
    cases a with
    | w k =>
     obtain ⟨t, rfl⟩ := va
     dsimp only at hp
     by_cases hw : xs.all wn = true
     .rw [if_pos hw] at hp
      obtain ⟨vs, il, vv⟩ := at_
      obtain ⟨i1, i2⟩ := ET (k := k) (t := t) (A := A.in1) (s := s) vv hw
      have e : vs.toArray.any (isStrOf (wd k)) = xs.any (Fz k) := by
       rw [List.any_toArray, any_map, i2, <- any_map]
      rcases hop with ⟨rfl, rfl⟩ | ⟨rfl, rfl⟩
      .refine in_tupleAt (isStrOf (wd k)) il (fun y hy => i1 y (by simpa using hy)) ?_
       rw [e]; exact BX hp x rfl
      .refine notIn_tupleAt (isStrOf (wd k)) il (fun y hy => i1 y (by simpa using hy)) ?_
       rw [e]; exact BX hp x rfl
     .rw [if_neg hw] at hp; exact hp.elim
    | _ => exact hp.elim
   | dictW kvs =>
    cases a with
    | w k =>
     obtain ⟨t, rfl⟩ := va
     dsimp only at hp
     obtain ⟨o, es, ho, hd, vv⟩ := at_
     have hD : s.heap.DictOf (PySem.strKind U.prog U.w) p.1 es := Heap.dictOf_iff.mpr ⟨o, ho, hd⟩
     rcases hop with ⟨rfl, rfl⟩ | ⟨rfl, rfl⟩
     .refine wpAny_in_of (strKind_is _ _ _ _) (D0 lo) hD.mapOf ?_
      rw [vv.isSome]; exact BX hp x rfl
     .refine wpAny_notIn_of (strKind_is _ _ _ _) (D0 lo) hD.mapOf ?_
      rw [vv.isSome]; exact BX hp x rfl
    | _ => exact hp.elim
   | dictI kvs =>
    cases a with
    | int k =>
     obtain ⟨t, rfl⟩ := va
     dsimp only at hp
     obtain ⟨ad, nn, pre, post, e1, ⟨o, es, rfl, hd, vv⟩, N, D, lo', _⟩ := x.cell hc
     rw [ep] at e1; cases e1
     have hD : s.heap.DictOf (PySem.intKind U.prog U.w) p.1 es := Heap.dictOf_iff.mpr ⟨o, N.get (IP _ _ _), hd⟩
     rcases hop with ⟨rfl, rfl⟩ | ⟨rfl, rfl⟩
     .refine wpAny_in_of (intKind_is _ _ _ _) (D0 lo) hD.mapOf ?_
      rw [vv.isSome]; exact BX hp x rfl
     .refine wpAny_notIn_of (intKind_is _ _ _ _) (D0 lo) hD.mapOf ?_
      rw [vv.isSome]; exact BX hp x rfl
    | _ => exact hp.elim
   | dictP kvs => cases a <;> exact hp.elim
   | inst k fs => cases a <;> exact hp.elim
   | tab => cases a <;> exact hp.elim
 | _ => exact hp.elim
theorem Pz (cx : Cx U A X Ac n) (x : Bc U X ρ H s.heap) {op : R9} {a b : V} {a' b' : Value} (va : VR U.sa ρ a a') (vb : VR U.sa ρ b b')
  (hp : Ay So U xc X ρ (DM op a b H) Q E s) : wpAny (model U.prog U.w) A (compareOp (LX op) a' b') Q E s := by
 have hu := cx.hu
 cases op with
 | eq =>
  simp only [DM] at hp
  cases h : Fg H a b with
  | none => rw [h] at hp; exact hp.elim
  | some t =>
   rw [h] at hp
   exact (M6 (A := A) x h va vb (by omega)).2.1 _ _ _ _ (A5 hp x rfl)
 | ne =>
  simp only [DM, Fu, bnd] at hp
  cases h : Fg H a b with
  | none => rw [h] at hp; exact hp.elim
  | some t =>
   rw [h] at hp
   exact (M6 (A := A) x h va vb (by omega)).2.2 _ _ _ _ (A5 hp x rfl)
 | isin =>
  refine Pp (xc := xc) cx x va vb (f := id) ?_ (.inl ⟨rfl, rfl⟩)
  simp only [DM] at hp
  have : bnd (L4 a b) (fun t => Mine.ret (id t)) H = L4 a b H := by
   unfold bnd; cases L4 a b H <;> rfl
  rw [this]; exact hp
 | notin =>
  refine Pp (xc := xc) cx x va vb (f := not) ?_ (.inr ⟨rfl, rfl⟩)
  exact hp
 | lt =>
  simp only [DM] at hp
  cases a <;> cases b <;> first | exact hp.elim | skip
  obtain ⟨t, rfl⟩ := va; obtain ⟨u, rfl⟩ := vb
  exact wpAny_lt_int (A5 hp x rfl)
 | le =>
  simp only [DM] at hp
  cases a <;> cases b <;> first | exact hp.elim | skip
  obtain ⟨t, rfl⟩ := va; obtain ⟨u, rfl⟩ := vb
  exact PyProof.Rows.le_int (A5 hp x rfl)
 | gt =>
  simp only [DM] at hp
  cases a <;> cases b <;> first | exact hp.elim | skip
  obtain ⟨t, rfl⟩ := va; obtain ⟨u, rfl⟩ := vb
  exact PyProof.Rows.gt_int (A5 hp x rfl)
 | ge =>
  simp only [DM] at hp
  cases a <;> cases b <;> first | exact hp.elim | skip
  obtain ⟨t, rfl⟩ := va; obtain ⟨u, rfl⟩ := vb
  exact PyProof.Rows.ge_int (A5 hp x rfl)
end
section
variable {U : Un} {xc : Value} {X : Fx} {ρ : B0} {H : MH} {s : Shared} {A : Around} {E : Value -> Shared -> Prop} {Q : Value -> Shared -> Prop} {Ac : PySem.Env} {n : Nat}
theorem FS.made (gf : GF U X.G) (x : Bc U X ρ H s.heap) : ∃ l, News X.G X.L s.heap l /\ (∀ p ∈ X.px, p ∈ l) /\ (∀ q ∈ l, q.1 < s.heap.objs.size) /\
  ∀ {c : An} {o : Obj} {h' : Heap} {tk : Nat}, Ay (AP U) U xc X ρ (alloc c H) Q E s -> Fr X.G X.L h' X.m -> News X.G X.L h' ((s.heap.objs.size, o) :: l) ->
   CR U (ρ ++ [(s.heap.objs.size, s.heap.objs.size)]) c (s.heap.objs.size, s.heap.objs.size) [(s.heap.objs.size, o)] -> Q (.ref s.heap.objs.size) { s with heap := h', toks := tk } := by
 obtain ⟨l, N, D, sub, back⟩ := FS.all x
 have lo : 3 < s.heap.objs.size := by
  have h1 := x.fr.above
  have h2 : (X.L : Nat) < s.heap.objs.size := x.fr.ns.lt
  have h3 : 2 < X.G.objs.size := by
   obtain ⟨mc, hn, _⟩ := gf.T.nolimit
   exact hn.lt
  exact Nat.lt_of_le_of_lt (Nat.le_trans h3 h1) h2
 refine ⟨l, N, sub, fun q hq => Heap.lt_size (N q hq).1, fun {c o h' tk} hp F' N' cr => ?_⟩
 have y := back c (s.heap.objs.size, s.heap.objs.size) [(s.heap.objs.size, o)] h' F' N' (fun p hp q hq => by
  rw [List.mem_singleton.mp hp]; exact Heap.lt_size (N q hq).1) (by unfold B4; simp) (fun p hp => by rw [List.mem_singleton.mp hp]; exact lo) cr
 refine hp _ _ h' tk (List.prefix_append ..) y ?_
 refine ⟨(s.heap.objs.size, s.heap.objs.size), ?_, rfl⟩
 rw [<- FS.len x]; simp
theorem Cy {k : Nat} (h : k <= Bz) : k <= sizeLine := by rw [sizeLine_eq]; unfold Bz at h; omega
theorem Qp (gf : GF U X.G) (x : Bc U X ρ H s.heap) {xs : List V} {vs : List Value} (v : DO U.sa ρ xs vs) (hl : xs.length <= Bz) (hp : Ay (AP U) U xc X ρ (alloc (.list xs) H) Q E s) :
  wpAny (model U.prog U.w) A (newList vs) Q E s := by
 obtain ⟨l, N, _, _, k⟩ := FS.made (xc := xc) (Q := Q) (E := E) gf x
 refine newList_N x.fr N (fun h' F' N' => k hp F' N' ⟨vs, 0, rfl, v.mono (List.prefix_append ..)⟩) ?_
 rw [v.length]; exact Cy hl
theorem Qm (gf : GF U X.G) (x : Bc U X ρ H s.heap) {xs : List V} {vs : List Value} (v : DO U.sa ρ xs vs) (hl : xs.length <= Bz) (hp : Ay (AP U) U xc X ρ (alloc (.tup xs) H) Q E s) :
  wpAny (model U.prog U.w) A (newTuple vs) Q E s := by
 obtain ⟨l, N, _, _, k⟩ := FS.made (xc := xc) (Q := Q) (E := E) gf x
 refine newTuple_N x.fr N (fun h' F' N' => k hp F' N' ⟨vs, rfl, v.mono (List.prefix_append ..)⟩) ?_
 rw [v.length]; exact Cy hl
theorem O2 (gf : GF U X.G) (x : Bc U X ρ H s.heap) {env : PySem.Env} {pos : Pos} (hp : Ay (AP U) U xc X ρ (alloc (.dictW []) H) Q E s) :
  wpAny (model U.prog U.w) A (eval (.Dict [] [] pos) env) Q E s := by
 obtain ⟨l, N, _, _, k⟩ := FS.made (xc := xc) (Q := Q) (E := E) gf x
 refine wpAny_Dict_empty (k (o := { cls := .type "dict", data := .dict #[] }) hp (x.fr.push _) (N.push x.fr _) ⟨_, [], rfl, ?_, trivial⟩)
 obtain ⟨o, ho, hd⟩ := Heap.dictOf_iff.mp (Heap.DictOf.new (knd := PySem.strKind U.prog U.w) s.heap)
 rw [Heap.get?_push_size _ rfl] at ho
 cases ho
 exact hd
theorem N6 (gf : GF U X.G) (x : Bc U X ρ H s.heap) {env : PySem.Env} {pos : Pos} (hp : Ay (AP U) U xc X ρ (alloc (.dictI []) H) Q E s) :
  wpAny (model U.prog U.w) A (eval (.Dict [] [] pos) env) Q E s := by
 obtain ⟨l, N, _, _, k⟩ := FS.made (xc := xc) (Q := Q) (E := E) gf x
 refine wpAny_Dict_empty (k (o := { cls := .type "dict", data := .dict #[] }) hp (x.fr.push _) (N.push x.fr _) ⟨_, [], rfl, ?_, trivial⟩)
 obtain ⟨o, ho, hd⟩ := Heap.dictOf_iff.mp (Heap.DictOf.new (knd := PySem.intKind U.prog U.w) s.heap)
 rw [Heap.get?_push_size _ rfl] at ho
 cases ho
 exact hd
theorem MO (gf : GF U X.G) (x : Bc U X ρ H s.heap) {v : V} {v' : Value} (hv : AP U ρ v v') (hp : Ay (AP U) U xc X ρ (LJ v H) Q E s) :
  wpAny (model U.prog U.w) A (call (.type "list") [v']) Q E s := by
 unfold LJ at hp
 obtain ⟨i, c, rfl, hc, hp⟩ := BC hp
 cases c with
 | list xs =>
  dsimp only at hp
  by_cases hl : xs.length <= Bz
  .rw [if_pos hl] at hp
   obtain ⟨ad, nn, pre, post, e1, ⟨vs, c, rfl, Ed⟩, N₀, D, lo, _⟩ := x.cell hc
   obtain ⟨p, e2, rfl⟩ := hv
   rw [e1] at e2; cases e2
   obtain ⟨l, N, _, CV, k⟩ := FS.made (xc := xc) (Q := Q) (E := E) gf x
   refine call_list_seq (hsz := ?_) ad.1 (.inl rfl) (N₀.get (IP _ _ _)) rfl rfl fun h' c' hk hD => k hp (x.fr.keeps hk) (news_pushed x.fr N hk hD rfl) ⟨vs, c', rfl, Ed.mono (List.prefix_append ..)⟩
   rw [List.size_toArray, Ed.length]; exact Cy hl
  .rw [if_neg hl] at hp; exact hp.elim
 | _ => exact hp.elim
theorem IB.length {sa : Addr} {ρ : B0} : ∀ {kvs : List (Nat × V)} {es : List (Str × Value)}, IB sa ρ kvs es -> es.length = kvs.length
 | [], [], _ => rfl
 | [], _ :: _, h => h.elim
 | _ :: _, [], h => h.elim
 | _ :: _, _ :: _, ⟨_, _, h⟩ => congrArg (· + 1) h.length
theorem Lo.length {sa : Addr} {ρ : B0} : ∀ {kvs : List (Int × V)} {es : List (Int × Value)}, Lo sa ρ kvs es -> es.length = kvs.length
 | [], [], _ => rfl
 | [], _ :: _, h => h.elim
 | _ :: _, [], h => h.elim
 | _ :: _, _ :: _, ⟨_, _, h⟩ => congrArg (· + 1) h.length
theorem L8 (gf : GF U X.G) (x : Bc U X ρ H s.heap) {v : V} {v' : Value} (hv : AP U ρ v v') (hp : Ay (AP U) U xc X ρ (IN v H) Q E s) :
  wpAny (model U.prog U.w) A (call (.type "dict") [v']) Q E s := by
 unfold IN at hp
 obtain ⟨i, c, rfl, hc, hp⟩ := BC hp
 cases c with
 | dictW kvs =>
  dsimp only at hp
  by_cases hl : kvs.length < 100
  .rw [if_pos hl] at hp
   obtain ⟨g, e1, lo, o, es, ho, hd, vv⟩ := x.at hc
   obtain ⟨p, e2, rfl⟩ := hv
   rw [e1] at e2; cases e2
   obtain ⟨l, N, _, CV, k⟩ := FS.made (xc := xc) (Q := Q) (E := E) gf x
   refine kt_call_dict (knd := PySem.strKind U.prog U.w) (D0 lo) (Heap.dictOf_iff.mpr ⟨o, ho, hd⟩) ?_ fun h' hD hs => ?_
   .rw [vv.length, sizeLine_eq]; omega
   .obtain ⟨o', ho', hd'⟩ := Heap.dictOf_iff.mp hD
    exact k hp (x.fr.filled hs) (N.filled x.fr hs ho') ⟨o', es, rfl, hd', vv.mono (List.prefix_append ..)⟩
  .rw [if_neg hl] at hp; exact hp.elim
 | _ => exact hp.elim
theorem Ka {α : Type} (x : α) : ∀ (k : Nat) (acc : Array α), List.foldl (fun x1 x2 => x1 ++ x2) acc (List.replicate k #[x]) = acc ++ (List.replicate k x).toArray
 | 0, acc => by simp
 | k + 1, acc => by
  rw [List.replicate_succ, List.foldl_cons, Ka x k, List.replicate_succ]
  apply Array.toList_inj.mp
  simp
theorem M9 : (2 : Int) ^ 63 = 9223372036854775808 := by decide
theorem P8 (gf : GF U X.G) (x : Bc U X ρ H s.heap) {l k : V} {l' k' : Value} (vl : AP U ρ l l') (vk : AP U ρ k k') (hp : Ay (AP U) U xc X ρ (HK .mul l k H) Q E s) :
  wpAny (model U.prog U.w) A (binaryOp .Mult l' k') Q E s := by
 cases l <;> cases k <;> first | exact hp.elim | skip
 rename_i l k
 simp only [HK] at hp
 obtain ⟨i, c, e, hc, hp⟩ := BC hp
 cases e
 cases c with
 | list xs =>
  cases xs with
  | nil => exact hp.elim
  | cons y r =>
   cases r with
   | cons _ _ => exact hp.elim
   | nil =>
    dsimp only at hp
    by_cases hk : 0 <= k /\ k <= 1000
    .rw [if_pos hk] at hp
     obtain ⟨ad, nn, pre, post, e1, ⟨vs, c, rfl, Ed⟩, N₀, D, lo, _⟩ := x.cell hc
     obtain ⟨p, e2, rfl⟩ := vl
     rw [e1] at e2; cases e2
     obtain ⟨u, rfl⟩ := vk
     obtain ⟨l₂, N, _, CV, kk⟩ := FS.made (xc := xc) (Q := Q) (E := E) gf x
     cases vs with
     | nil => exact Ed.elim
     | cons z r =>
      cases r with
      | cons _ _ => exact Ed.2.elim
      | nil =>
       refine mul_list x.fr N (N₀.get (IP _ _ _)) (by rw [M9]; omega) (by rw [M9]; omega) ?_ fun h' F' N' => kk hp F' N' ?_
       .simp; omega
       .refine ⟨List.replicate k.toNat z, 0, ?_, (DO.replicate Ed.1 _).mono (List.prefix_append ..)⟩
        simp only [List.isEmpty_toArray, List.isEmpty_cons, Bool.false_eq_true, if_false]
        have := Ka z k.toNat #[]
        simp only [Array.empty_append] at this
        rw [show ([z].toArray : Array Value) = #[z] from rfl, this]
    .rw [if_neg hk] at hp; exact hp.elim
 | _ => exact hp.elim
theorem Om (gf : GF U X.G) (x : Bc U X ρ H s.heap) {l k : Nat} {l' k' : Value} (vl : AP U ρ (.ref l) l') (vk : AP U ρ (.ref k) k') (hp : Ay (AP U) U xc X ρ (HK .add (.ref l) (.ref k) H) Q E s) :
  wpAny (model U.prog U.w) A (binaryOp .Add l' k') Q E s := by
 simp only [HK] at hp
 obtain ⟨i, c, e, hc, hp⟩ := BC hp
 cases e
 obtain ⟨j, d, e, hd, hp⟩ := BC hp
 cases e
 cases c with
 | list xs =>
  cases d with
  | list ys =>
   dsimp only at hp
   by_cases hk : xs.length + ys.length <= Bz
   .rw [if_pos hk] at hp
    obtain ⟨a, e1, _, vs, il, Ed⟩ := x.at hc
    obtain ⟨b, e2, _, ws, jl, hws⟩ := x.at hd
    obtain ⟨p, e3, rfl⟩ := vl
    rw [e1] at e3; cases e3
    obtain ⟨p, e3, rfl⟩ := vk
    rw [e2] at e3; cases e3
    obtain ⟨l₂, N, _, CV, kk⟩ := FS.made (xc := xc) (Q := Q) (E := E) gf x
    refine add_arrays (hsz := ?_) x.fr N il jl fun h' F' N' => kk hp F' N' ⟨vs ++ ws, 0, rfl, (Ed.append hws).mono (List.prefix_append ..)⟩
    rw [List.size_toArray, List.size_toArray, Ed.length, hws.length]; exact Cy hk
   .rw [if_neg hk] at hp; exact hp.elim
  | _ => exact hp.elim
 | _ => exact hp.elim
theorem OY {a b : Int} (h : 0 < b) : a.fmod b = a % b := Int.fmod_eq_emod_of_nonneg a (Int.le_of_lt h)
theorem OA {a b : Int} (h : 0 < b) : a.fdiv b = a / b := Int.fdiv_eq_ediv_of_nonneg a (Int.le_of_lt h)
def Pb : RW -> Operator
 | .add => .Add | .sub => .Sub | .mul => .Mult | .mod => .Mod | .fdiv => .FloorDiv
theorem P3 (cx : Cx U A X Ac n) (x : Bc U X ρ H s.heap) {op : RW} {a b : V} {a' b' : Value} (va : AP U ρ a a') (vb : AP U ρ b b') (hp : Ay (AP U) U xc X ρ (HK op a b H) Q E s) :
  wpAny (model U.prog U.w) A (binaryOp (Pb op) a' b') Q E s := by
 cases op with
 | mul => exact P8 cx.gf x va vb hp
 | add =>
  cases a <;> cases b <;> first | exact hp.elim | skip
  .obtain ⟨t, rfl⟩ := va; obtain ⟨u, rfl⟩ := vb
   exact wpAny_add_int (A5 hp x ⟨_, rfl⟩)
  .exact Om cx.gf x va vb hp
 | sub =>
  cases a <;> cases b <;> first | exact hp.elim | skip
  obtain ⟨t, rfl⟩ := va; obtain ⟨u, rfl⟩ := vb
  exact PyProof.Rows.sub_int (A5 hp x ⟨_, rfl⟩)
 | mod =>
  cases a <;> cases b <;> first | exact hp.elim | skip
  obtain ⟨t, rfl⟩ := va; obtain ⟨u, rfl⟩ := vb
  simp only [HK] at hp
  rename_i i j
  by_cases hj : 0 < j
  .rw [if_pos hj] at hp
   exact mod_int' (by omega) (A5 hp x ⟨_, by rw [OY hj]⟩)
  .rw [if_neg hj] at hp; exact hp.elim
 | fdiv =>
  cases a <;> cases b <;> first | exact hp.elim | skip
  obtain ⟨t, rfl⟩ := va; obtain ⟨u, rfl⟩ := vb
  simp only [HK] at hp
  rename_i i j
  by_cases hj : j = 1024
  .subst hj
   rw [if_pos rfl] at hp
   exact floordiv_int (by omega) (A5 hp x ⟨_, by rw [OA (by omega)]⟩)
  .rw [if_neg hj] at hp; exact hp.elim
end
def IU : Ty -> String
 | .str => "str" | .int => "int" | .list => "list"
structure UG (U : Un) : Prop where
 notT : ∀ c, kin_notT U.K (U.cls c) "str" = true
 gcls : ∀ c, plainGet U.K (U.cls c) "__class__" = true
 fcls : ∀ c, findIn U.K (.ref (U.cls c)) "__class__" = some (some (.builtin "object.__class__"))
 scls : specialIn U.K (.builtin "object.__class__") "__get__" = some (some (.builtin "getset_descriptor.__get__"))
 tcls : takesIn U.K (.builtin "object.__class__") = some true
 mro : ∀ c, mroIn U.K (U.cls c) (.type "object") = some true
section
variable {U : Un} {xc : Value} {X : Fx} {ρ : B0} {H : MH} {s : Shared} {A : Around} {E : Value -> Shared -> Prop} {Q : Value -> Shared -> Prop} {Ac : PySem.Env} {n : Nat}
theorem QE (slice : PySem.Expr) (o i : Value) : ∃ ops, subscripted slice false o i = operate ops (getItem o i) := by
 unfold subscripted
 split
 .exact ⟨_, rfl⟩
 .rename_i h; cases h
 .exact ⟨_, rfl⟩
theorem FY {α β : Type} {rel : B0 -> α -> β -> Prop} {Q : β -> Shared -> Prop} {o : Option α} (hp : Ay rel U xc X ρ (Au o H) Q E s) : ∃ a, o = some a /\ Ay rel U xc X ρ (.ok a H) Q E s := by
 cases o with
 | none => exact hp.elim
 | some a => exact ⟨a, rfl, hp⟩
theorem KV {k : Int} (h : k <= Bz) : k < 2 ^ 63 := by rw [M9]; unfold Bz at h; omega
theorem P9 (x : Bc U X ρ H s.heap) {o i : V} {o' i' : Value} (vo : AP U ρ o o') (vi : AP U ρ i i') {value slice : PySem.Expr} (hp : Ay (AP U) U xc X ρ (EW o i H) Q E s) :
  wpAny (model U.prog U.w) A (subscriptTail value slice o' i') Q E s := by
 unfold EW at hp
 obtain ⟨a, c, rfl, hc, hp⟩ := BC hp
 obtain ⟨ops, hs⟩ := QE slice o' i'
 obtain ⟨p, ep, rfl⟩ := vo
 obtain ⟨g, e1, lo, at_⟩ := x.at hc
 rw [ep] at e1; cases e1
 cases c with
 | list xs =>
  cases i with
  | int k =>
   obtain ⟨t, rfl⟩ := vi
   dsimp only at hp
   by_cases hk : 0 <= k /\ k <= Bz
   .rw [if_pos hk] at hp
    obtain ⟨v, ev, hp⟩ := FY hp
    obtain ⟨vs, il, vv⟩ := at_
    obtain ⟨y, ey, hy⟩ := vv.get ev
    exact tail_any il.typeIs slot_list_getitem.lookup (wpAny_getItem_list il hk.1 (KV hk.2) (by rw [List.getElem?_toArray]; exact ey) (BX hp x hy)) hs
   .rw [if_neg hk] at hp; exact hp.elim
  | _ => exact hp.elim
 | tup xs =>
  cases i with
  | int k =>
   obtain ⟨t, rfl⟩ := vi
   dsimp only at hp
   by_cases hk : 0 <= k /\ k <= Bz
   .rw [if_pos hk] at hp
    obtain ⟨v, ev, hp⟩ := FY hp
    obtain ⟨vs, il, vv⟩ := at_
    obtain ⟨y, ey, hy⟩ := vv.get ev
    have CV : k.toNat < vs.length := (List.getElem?_eq_some_iff.mp ey).1
    have hl : (-(2 ^ 63) : Int) <= k := by rw [M9]; omega
    refine tail_any il.typeIs slot_tuple_getitem.lookup (PyProof.Rows.getItem_tuple il hl (KV hk.2) (j := k.toNat) ?_ (by rw [List.getElem?_toArray]; exact ey) (BX hp x hy)) hs
    unfold seqIndex?
    rw [List.size_toArray]
    simp only
    split
    .rename_i h; exfalso; revert h; simp; omega
    .rename_i h; simp at h ⊢; omega
   .rw [if_neg hk] at hp; exact hp.elim
  | _ => exact hp.elim
 | dictW kvs =>
  cases i with
  | w k =>
   obtain ⟨t, rfl⟩ := vi
   dsimp only at hp
   obtain ⟨v, ev, hp⟩ := FY hp
   obtain ⟨o, es, ho, hd, vv⟩ := at_
   obtain ⟨y, ey, hy⟩ := (vv.look (k := k)).2 v ev
   have hD : s.heap.DictOf (PySem.strKind U.prog U.w) p.1 es := Heap.dictOf_iff.mpr ⟨o, ho, hd⟩
   exact tail_any hD.typeIs slot_dict_getitem.lookup (wpAny_getItem_of (strKind_is _ _ _ _) hD.mapOf ey (BX hp x hy)) hs
  | _ => exact hp.elim
 | dictP kvs =>
  cases i with
  | w k =>
   obtain ⟨t, rfl⟩ := vi
   dsimp only at hp
   obtain ⟨v, ev, hp⟩ := FY hp
   obtain ⟨o, es, ho, hd, vv, _⟩ := at_
   obtain ⟨y, ey, hy⟩ := (vv.look (k := k)).2 v ev
   have hD : s.heap.DictOf (PySem.strKind U.prog U.w) p.1 es := Heap.dictOf_iff.mpr ⟨o, ho, hd⟩
   exact tail_any hD.typeIs slot_dict_getitem.lookup (wpAny_getItem_of (strKind_is _ _ _ _) hD.mapOf ey (BX hp x hy)) hs
  | _ => exact hp.elim
 | dictI kvs => cases i <;> exact hp.elim
 | inst k fs => cases i <;> exact hp.elim
 | tab => cases i <;> exact hp.elim
theorem PF (x : Bc U X ρ H s.heap) {v : V} {v' : Value} (hv : AP U ρ v v') (hp : Ay (AP U) U xc X ρ (MA v H) Q E s) :
  wpAny (model U.prog U.w) A (call (.builtin "len") [v']) Q E s := by
 unfold MA at hp
 obtain ⟨a, c, rfl, hc, hp⟩ := BC hp
 obtain ⟨p, ep, rfl⟩ := hv
 obtain ⟨g, e1, lo, at_⟩ := x.at hc
 rw [ep] at e1; cases e1
 cases c with
 | list xs =>
  dsimp only at hp
  by_cases hl : xs.length <= Bz
  .rw [if_pos hl] at hp
   obtain ⟨vs, il, vv⟩ := at_
   refine call_len_list il ?_ ?_
   .rw [List.size_toArray, vv.length]
    exact KV (by exact_mod_cast hl)
   .exact A5 (tk := s.toks + 1 + 1) hp x ⟨_, by rw [List.size_toArray, vv.length]⟩
  .rw [if_neg hl] at hp; exact hp.elim
 | _ => exact hp.elim
theorem PP (x : Bc U X ρ H s.heap) (gf : GF U X.G) {v : V} {v' : Value} (hv : AP U ρ v v') (hp : Ay (AP U) U xc X ρ (FF v H) Q E s) :
  wpAny (model U.prog U.w) A (call (.builtin "isinstance") [v', .ref (U.cls .vector)]) Q E s := by
 unfold FF at hp
 obtain ⟨a, c, rfl, hc, hp⟩ := BC hp
 obtain ⟨p, ep, rfl⟩ := hv
 cases c with
 | inst k fs =>
  cases k with
  | null => exact hp.elim
  | vector =>
   obtain ⟨ad, nn, pre, post, e1, ⟨es, nd, rfl, hw⟩, N, D, lo, _⟩ := x.cell hc
   rw [e1] at ep; cases ep
   have h1 : (p.1, instObj (U.cls .vector) p.2) ∈ pre ++ [(p.1, instObj (U.cls .vector) p.2), (p.2, W.dictOf es nd)] ++ post := by simp
   refine isi_call (K := U.K) (t := .ref (U.cls .vector)) (gf.K.keeps x.fr.keep) (fun M => ?_) ?_ (by intro q; cases q) (A5 (tk := s.toks) hp x rfl)
   .exact (InstAt.type (W.InstAt.of_news N h1 (by simp : (p.2, W.dictOf es nd) ∈ _)))
   .unfold isIn; simp
 | _ => exact hp.elim
theorem P6 (ug : UG U) (x : Bc U X ρ H s.heap) (uf : UF U) (gf : GF U X.G) {v : V} {v' : Value} {t : Ty} (hv : AP U ρ v v') (hp : Ay (AP U) U xc X ρ (FH v t H) Q E s) :
  wpAny (model U.prog U.w) A (call (.builtin "isinstance") [v', .type (IU t)]) Q E s := by
 unfold FH at hp
 cases v with
 | w i =>
  obtain ⟨u, rfl⟩ := hv
  cases t with
  | str => exact IsiPair.str_str (BX (tk := s.toks) hp x rfl)
  | int => exact IsiPair.str_int (BX hp x rfl)
  | list => exact hp.elim
 | int i =>
  obtain ⟨u, rfl⟩ := hv
  cases t with
  | str => exact IsiPair.int_str (BX hp x rfl)
  | int => exact IsiPair.int_int (BX (tk := s.toks) hp x rfl)
  | list => exact hp.elim
 | ref a =>
  obtain ⟨p, ep, rfl⟩ := hv
  dsimp only at hp
  cases hc : H[a]? with
  | none => rw [hc] at hp; cases t <;> exact hp.elim
  | some c =>
   rw [hc] at hp
   obtain ⟨ad, nn, pre, post, e1, cr, N, D, lo, _⟩ := x.cell hc
   rw [e1] at ep; cases ep
   cases c with
   | list xs =>
    cases t with
    | list =>
     obtain ⟨vs, c, rfl, Ed⟩ := cr
     exact IsiPair.list_list (N.get (IP _ _ _)) rfl (BX (tk := s.toks) hp x rfl)
    | _ => exact hp.elim
   | tup xs =>
    cases t with
    | list =>
     obtain ⟨vs, rfl, Ed⟩ := cr
     exact IsiPair.tuple_list (N.get (IP _ _ _)) rfl (BX hp x rfl)
    | _ => exact hp.elim
   | inst k fs =>
    cases t with
    | str =>
     obtain ⟨es, nd, rfl, hw⟩ := cr
     have h1 : (p.1, instObj (U.cls k) p.2) ∈ pre ++ [(p.1, instObj (U.cls k) p.2), (p.2, W.dictOf es nd)] ++ post := by simp
     have h2 : (p.2, W.dictOf es nd) ∈ pre ++ [(p.1, instObj (U.cls k) p.2), (p.2, W.dictOf es nd)] ++ post := by simp
     exact kin_callT (gf.K.keeps x.fr.keep) (W.InstAt.of_news N h1 h2) (ug.notT k) (by first | exact PySem.isi_meta_str | exact PySem.IsiPair.isi_meta_str | exact PySem.F.isi_meta_str) (ug.gcls k) (uf.dict k) (ug.fcls k) ug.scls ug.tcls (ug.mro k) (BX hp x rfl)
    | _ => exact hp.elim
   | _ => cases t <;> exact hp.elim
 | _ => cases t <;> exact hp.elim
theorem PG (cx : Cx U A X Ac n) (x : Bc U X ρ H s.heap) {a b : V} {a' b' : Value} (va : AP U ρ a a') (vb : AP U ρ b b') (hp : Ay (AP U) U xc X ρ (QX a b H) Q E s) :
  wpAny (model U.prog U.w) A (call (.builtin "max") [a', b']) Q E s := by
 cases a <;> cases b <;> first | exact hp.elim | skip
 obtain ⟨t, rfl⟩ := va; obtain ⟨u, rfl⟩ := vb
 rename_i i j
 refine max_two_ints cx.hh fun h' tk hk => ?_
 have := hp ρ (.int (if j > i then j else i) (if j > i then u else t)) h' tk (B8 _) (FS.keeps x hk) ⟨_, rfl⟩
 by_cases c : j > i
 .simpa only [if_pos c] using this
 .simpa only [if_neg c] using this
end
section
variable {U : Un} {xc : Value} {X : Fx} {ρ : B0} {H : MH} {s : Shared} {A : Around} {E : Value -> Shared -> Prop} {Q : Value -> Shared -> Prop} {Ac : PySem.Env} {n : Nat}
theorem FS.listCell (x : Bc U X ρ H s.heap) {i : Nat} {xs : List V} (hc : H[i]? = some (.list xs)) : ∃ a vs n news, ρ[i]? = some a /\ DO U.sa ρ xs vs /\ News X.G X.L s.heap news /\ (a.1, listOf (List.toArray vs) n) ∈ news /\
  ∀ xs' vs' n', DO U.sa ρ xs' vs' -> ∃ news', Upd a.1 (listOf (List.toArray vs) n) (listOf (List.toArray vs') n') news news' /\ ∀ h', Fr X.G X.L h' X.m -> News X.G X.L h' news' -> Bc U X ρ (H.set i (.list xs')) h' := by
 obtain ⟨ad, nn, pre, post, e1, ⟨vs, n, rfl, Ed⟩, N, D, lo, _, back⟩ := x.cell hc
 have w : ∀ o : Obj, pre ++ [(ad.1, o)] ++ post = pre ++ (ad.1, o) :: post := fun o => by simp
 refine ⟨ad, vs, n, _, e1, Ed, N, IP _ _ _, fun xs' vs' n' v' => ⟨pre ++ [(ad.1, listOf (List.toArray vs') n')] ++ post, ?_, fun h' F' N' => back (.list xs') _ h' F' N' rfl ⟨vs', n', rfl, v'⟩⟩⟩
 rw [w, w]
 rw [w] at D
 exact Mi D
theorem IS {c' : An} {i : Nat} (hp : Ay (AP U) U xc X ρ (bnd (Dm (.ref i) c') (fun _ => Mine.ret .none) H) Q E s) {h' : Heap} {tk : Nat} (x : Bc U X ρ (H.set i c') h') : Q .none { s with heap := h', toks := tk } :=
 hp ρ .none h' tk (B8 _) x rfl
theorem Ma (x : Bc U X ρ H s.heap) {o v : V} {o' v' : Value} (vo : AP U ρ o o') (vv : AP U ρ v v') (hp : Ay (AP U) U xc X ρ (E3 o v H) Q E s) :
  wpAny (model U.prog U.w) A (call (.builtin "list.append") [o', v']) Q E s := by
 unfold E3 at hp
 obtain ⟨i, c, rfl, hc, hp⟩ := BC hp
 obtain ⟨p, ep, rfl⟩ := vo
 cases c with
 | list xs =>
  dsimp only at hp
  by_cases hl : xs.length <= Bz
  .rw [if_pos hl] at hp
   obtain ⟨a, vs, n, news, e1, Ed, N, hm, back⟩ := FS.listCell x hc
   rw [e1] at ep; cases ep
   obtain ⟨news', up, k⟩ := back (xs ++ [v]) (vs ++ [v']) (n + 1) (Ed.append (.one vv))
   refine append_K (its := vs.toArray) x.fr N (n := n) (news' := news') ?_ (fun h' F' N' => ?_) ?_
   .rw [List.push_toArray]; exact up
   .exact IS (tk := s.toks) hp (k h' F' N')
   .rw [List.size_toArray, Ed.length]; exact Cy hl
  .rw [if_neg hl] at hp; exact hp.elim
 | _ => exact hp.elim
theorem Lq (x : Bc U X ρ H s.heap) {o : V} {o' : Value} (vo : AP U ρ o o') (hp : Ay (AP U) U xc X ρ (EU o H) Q E s) :
  wpAny (model U.prog U.w) A (call (.builtin "list.reverse") [o']) Q E s := by
 unfold EU at hp
 obtain ⟨i, c, rfl, hc, hp⟩ := BC hp
 obtain ⟨p, ep, rfl⟩ := vo
 cases c with
 | list xs =>
  dsimp only at hp
  by_cases hl : xs.length <= Bz
  .rw [if_pos hl] at hp
   obtain ⟨a, vs, n, news, e1, Ed, N, hm, back⟩ := FS.listCell x hc
   rw [e1] at ep; cases ep
   obtain ⟨news', up, k⟩ := back xs.reverse vs.reverse n Ed.reverse
   refine kl_reverse (its := vs.toArray) x.fr N rfl up ?_ (fun h' F' N' => ?_)
   .show vs.length <= _; rw [Ed.length]; exact Cy hl
   .exact IS (tk := s.toks) hp (k h' F' N')
  .rw [if_neg hl] at hp; exact hp.elim
 | _ => exact hp.elim
theorem Ny {a b : Nat} (h : a + b <= Bz) : ¬(Builtin.List.listTooLong (a + b)) = true := by
 simp [Builtin.List.listTooLong, sizeLine, Bz] at h ⊢; omega
theorem Mq (x : Bc U X ρ H s.heap) {o v : V} {o' v' : Value} (vo : AP U ρ o o') (vv : AP U ρ v v') (hp : Ay (AP U) U xc X ρ (Ds o v H) Q E s) :
  wpAny (model U.prog U.w) A (call (.builtin "list.extend") [o', v']) Q E s := by
 unfold Ds at hp
 by_cases hov : o = v
 .rw [if_pos hov] at hp; exact hp.elim
 rw [if_neg hov] at hp
 obtain ⟨i, c, rfl, hc, hp⟩ := BC hp
 obtain ⟨j, d, rfl, hd, hp⟩ := BC hp
 obtain ⟨p, ep, rfl⟩ := vo
 obtain ⟨q, eq, rfl⟩ := vv
 cases c with
 | list xs =>
  cases d with
  | list ys =>
   dsimp only at hp
   by_cases hl : xs.length + ys.length <= Bz
   .rw [if_pos hl] at hp
    obtain ⟨a, vs, n, news, e1, Ed, N, hm, back⟩ := FS.listCell x hc
    rw [e1] at ep; cases ep
    obtain ⟨b, ws, n2, news2, e2, hws, N2, hm2, _⟩ := FS.listCell x hd
    rw [e2] at eq; cases eq
    obtain ⟨news', up, k⟩ := back (xs ++ ys) (vs ++ ws) (if ws = [] then n else n + 1) (Ed.append hws)
    obtain ⟨pre, post, rfl, rfl, a1, b1⟩ := up.split
    have z := N _ hm
    have l1 := Ed.length
    have l2 := hws.length
    have hz : vs.toArray.size + ws.toArray.size <= Bz := by rw [List.size_toArray, List.size_toArray, l1, l2]; exact hl
    refine call_meets PySem.F.slot_list_extend ⟨_, z.1, rfl⟩ PySem.F.entry_list_extend (PySem.F.args_list_extend_2 _ _) (PySem.AutoSeq1.list_extend_list_list_0 p.1 vs.toArray n q.1 ws.toArray n2 (fun h => ?_) ?_ ?_) ⟨z.1, (N2 _ hm2).1, ?_⟩
    .rw [Ao] at h
     exact Ny hz h.2
    .refine Cy (Nat.le_trans (Nat.le_add_right _ _) hz)
    .exact Nat.le_succ_of_le (Cy hz)
    .refine IS (tk := s.toks) hp (k _ (x.fr.change (Heap.SameBut.update ..) z.2.1 z.2.2) (ki_turn _ N a1 b1 ?_ ?_))
     .apply Array.toList_inj.mp
      simp
     .by_cases hw : ws = []
      .subst hw; simp
      .have : ws.length ≠ 0 := fun e => hw (List.eq_nil_of_length_eq_zero e)
       rw [if_neg hw, if_neg]
       simp; exact hw
   .rw [if_neg hl] at hp; exact hp.elim
  | _ => exact hp.elim
 | _ => exact hp.elim
theorem PD (x : Bc U X ρ H s.heap) {o : V} {o' : Value} (vo : AP U ρ o o') (hp : Ay (AP U) U xc X ρ (MB o H) Q E s) :
  wpAny (model U.prog U.w) A (call (.builtin "list.pop") [o']) Q E s := by
 unfold MB at hp
 obtain ⟨i, c, rfl, hc, hp⟩ := BC hp
 obtain ⟨p, ep, rfl⟩ := vo
 cases c with
 | list xs =>
  dsimp only at hp
  by_cases hl : xs.length <= Bz /\ xs.all FJ = true
  .rw [if_pos hl] at hp
   cases hx : xs.getLast? with
   | none => rw [hx] at hp; exact hp.elim
   | some v =>
    rw [hx] at hp
    obtain ⟨a, vs, n, news, e1, Ed, N, hm, back⟩ := FS.listCell x hc
    rw [e1] at ep; cases ep
    obtain ⟨news', up, k⟩ := back xs.dropLast vs.dropLast (n + 1) Ed.dropLast
    have Ex : xs ≠ [] := fun e => by rw [e] at hx; cases hx
    have BN : vs.length = xs.length := Ed.length
    have hg : xs[xs.length - 1]? = some v := by rw [<- List.getLast?_eq_getElem?]; exact hx
    obtain ⟨y, ey, hy⟩ := Ed.get hg
    have hvl : vs.getLast? = some y := by rw [List.getLast?_eq_getElem?, BN]; exact ey
    have hvne : vs ≠ [] := fun e => by rw [e] at hvl; cases hvl
    have hsp : vs = vs.dropLast ++ [y] := by
     rw [List.getLast?_eq_some_getLast hvne] at hvl
     cases hvl
     exact (List.dropLast_concat_getLast hvne).symm
    refine kl_pop (its := vs.toArray) (p := vs.dropLast) (y := y) x.fr N ?_ up ?_ (fun h' F' N' => ?_)
    .show kl_last vs = _
     have := kpa_last y vs.dropLast
     rw [<- hsp] at this
     exact this
    .show vs.length <= _; rw [BN]; exact Cy hl.1
    .exact hp ρ y h' s.toks (B8 _) (k h' F' N') hy
  .rw [if_neg hl] at hp; exact hp.elim
 | _ => exact hp.elim
theorem KA (x : Bc U X ρ H s.heap) {i : Nat} {xs : List V} (hc : H[i]? = some (.list xs)) {k : Int} {v : V} {p : Addr × Addr} {t : Tok} {v' : Value} (ep : ρ[i]? = some p) (vv : AP U ρ v v') {Q : Unit -> Shared -> Prop}
  (h0 : 0 <= k) (h1 : k < xs.length) (h2 : xs.length <= Bz)
  (hq : ∀ h' tk, Bc U X ρ (H.set i (.list (xs.set k.toNat v))) h' -> Q () { s with heap := h', toks := tk }) : wpAny (model U.prog U.w) A (setItem (.ref p.1) (.int k t) v') Q E s := by
 obtain ⟨a, vs, n, news, e1, Ed, N, hm, back⟩ := FS.listCell x hc
 rw [e1] at ep; cases ep
 obtain ⟨news', up, kk⟩ := back (xs.set k.toNat v) (vs.set k.toNat v') n (Ed.set vv _)
 obtain ⟨pre, post, rfl, rfl, a1, b1⟩ := up.split
 have z := N _ hm
 have BN := Ed.length
 refine ki_setAt (items := vs.toArray) (n := n) z.1 h0 (KV (Int.le_trans (Int.le_of_lt h1) (by exact_mod_cast h2))) (by rw [List.size_toArray, BN]; exact h1) ?_
 refine hq _ _ (kk _ (x.fr.change (Heap.SameBut.update ..) z.2.1 z.2.2) (ki_turn _ N a1 b1 ?_ ?_))
 .apply Array.toList_inj.mp
  simp
 .simp
end
section
variable {K : Type} [DecidableEq K]
theorem Id (e : K × Value) (es : List (K × Value)) (k : K) (v : Value) (hn : ((e :: es).map (·.1)).Nodup) :
  stored (e :: es) k v = if e.1 = k then (k, v) :: es else e :: stored es k v := by
 rw [List.map_cons, List.nodup_cons] at hn
 unfold stored
 rw [List.any_cons]
 by_cases h : e.1 = k
 .subst h
  simp only [decide_true, Bool.true_or, if_true, List.map_cons]
  congr 1
  rw [List.map_congr_left (g := id) (fun p hp => ?_), List.map_id]
  rw [if_neg]; rfl
  intro q
  exact hn.1 (List.mem_map.mpr ⟨p, hp, q⟩)
 .simp only [h, decide_false, Bool.false_or, if_false]
  split
  .simp [h]
  .rfl
end
theorem IB.stored {sa : Addr} {ρ : B0} {k : Nat} {v : V} {x : Value} (hv : VR sa ρ v x) : ∀ {kvs : List (Nat × V)} {es : List (Str × Value)}, IB sa ρ kvs es -> (es.map (·.1)).Nodup -> IB sa ρ (DS k v kvs) (stored es (wd k) x)
 | [], [], _, _ => ⟨rfl, hv, trivial⟩
 | [], _ :: _, h, _ => h.elim
 | _ :: _, [], h, _ => h.elim
 | p :: r, e :: es, ⟨h1, h2, h3⟩, hn => by
  rw [Id _ _ _ _ hn]
  unfold DS
  by_cases h : p.1 = k
  .rw [if_pos h, if_pos (by rw [h1, h])]
   exact ⟨rfl, hv, h3⟩
  .rw [if_neg h, if_neg (by rw [h1]; exact fun q => h (Mo q))]
   rw [List.map_cons, List.nodup_cons] at hn
   exact ⟨h1, h2, IB.stored hv h3 hn.2⟩
theorem Lo.stored {sa : Addr} {ρ : B0} {k : Int} {v : V} {x : Value} (hv : VR sa ρ v x) : ∀ {kvs : List (Int × V)} {es : List (Int × Value)}, Lo sa ρ kvs es -> (es.map (·.1)).Nodup -> Lo sa ρ (N8 k v kvs) (stored es k x)
 | [], [], _, _ => ⟨rfl, hv, trivial⟩
 | [], _ :: _, h, _ => h.elim
 | _ :: _, [], h, _ => h.elim
 | p :: r, e :: es, ⟨h1, h2, h3⟩, hn => by
  rw [Id _ _ _ _ hn]
  unfold N8
  by_cases h : p.1 = k
  .rw [if_pos h, if_pos (by rw [h1, h])]
   exact ⟨rfl, hv, h3⟩
  .rw [if_neg h, if_neg (by rw [h1]; exact h)]
   rw [List.map_cons, List.nodup_cons] at hn
   exact ⟨h1, h2, Lo.stored hv h3 hn.2⟩
section
variable {U : Un} {xc : Value} {X : Fx} {ρ : B0} {H : MH} {s : Shared} {A : Around} {E : Value -> Shared -> Prop} {Q : Value -> Shared -> Prop} {Ac : PySem.Env} {n : Nat}
theorem FS.oneCell (x : Bc U X ρ H s.heap) {i : Nat} {c : An} (hc : H[i]? = some c) (h1 : ∀ k fs, c ≠ .inst k fs /\ c ≠ .tab) : ∃ a o news g, ρ[i]? = some a /\ 3 < a.1 /\ CR U ρ c a [(a.1, o)] /\ News X.G X.L s.heap news /\ (a.1, o) ∈ news /\ UpdF a.1 o news g /\
  ∀ c' o' h', CR U ρ c' a [(a.1, o')] -> Fr X.G X.L h' X.m -> News X.G X.L h' (g o') -> Bc U X ρ (H.set i c') h' := by
 obtain ⟨ad, nn, pre, post, e1, cr, N, D, lo, _, back⟩ := x.cell hc
 have w : ∀ o : Obj, pre ++ [(ad.1, o)] ++ post = pre ++ (ad.1, o) :: post := fun o => by simp
 have one : ∃ o, nn = [(ad.1, o)] := by
  cases c with
  | list xs => obtain ⟨vs, n, rfl, _⟩ := cr; exact ⟨_, rfl⟩
  | tup xs => obtain ⟨vs, rfl, _⟩ := cr; exact ⟨_, rfl⟩
  | dictW xs => obtain ⟨o, es, rfl, _⟩ := cr; exact ⟨_, rfl⟩
  | dictP xs => obtain ⟨o, es, rfl, _⟩ := cr; exact ⟨_, rfl⟩
  | dictI xs => obtain ⟨o, es, rfl, _⟩ := cr; exact ⟨_, rfl⟩
  | inst k fs => exact absurd rfl (h1 k fs).1
  | tab => exact absurd rfl (h1 .null []).2
 obtain ⟨o, rfl⟩ := one
 refine ⟨ad, o, _, fun o' => pre ++ [(ad.1, o')] ++ post, e1, lo _ (.head _), cr, N, IP _ _ _, ?_, fun c' o' h' y F' N' => back c' _ h' F' N' rfl y⟩
 rw [w]
 rw [w] at D
 have := Nj D
 simpa only [w] using this
theorem Lk (x : Bc U X ρ H s.heap) {o k v : V} {o' k' v' : Value} (vo : AP U ρ o o') (vk : AP U ρ k k') (vv : AP U ρ v v') {Q : Unit -> Shared -> Prop} (hp : Ay (fun _ _ _ => True) U xc X ρ (Cw o k v H) Q E s) :
  wpAny (model U.prog U.w) A (setItem o' k' v') Q E s := by
 unfold Cw at hp
 obtain ⟨i, c, rfl, hc, hp⟩ := BC hp
 obtain ⟨p, ep, rfl⟩ := vo
 cases c with
 | list xs =>
  cases k with
  | int k =>
   obtain ⟨t, rfl⟩ := vk
   dsimp only at hp
   by_cases hk : 0 <= k /\ k < xs.length /\ xs.length <= Bz
   .rw [if_pos hk] at hp
    exact KA x hc ep vv hk.1 hk.2.1 hk.2.2 fun h' tk x' => hp ρ () h' tk (B8 _) x' trivial
   .rw [if_neg hk] at hp; exact hp.elim
  | _ => exact hp.elim
 | dictW kvs =>
  cases k with
  | w k =>
   obtain ⟨t, rfl⟩ := vk
   dsimp only at hp
   by_cases hk : kvs.length < 100
   .rw [if_pos hk] at hp
    obtain ⟨a, o, news, g, e1, lo, ⟨o₂, es, e2, hd, vd⟩, N, hm, up, back⟩ := FS.oneCell x hc (fun _ _ => by simp)
    cases e2
    rw [e1] at ep; cases ep
    refine kda_set x.fr N up hd (strKind_is _ _ _ _) (by rw [vd.length, sizeLine_eq]; omega) fun h' o' F' N' hd' => ?_
    refine hp ρ () h' _ (B8 _) (back (.dictW (DS k v kvs)) o' h' ⟨o', _, rfl, hd', IB.stored vv vd ?_⟩ F' N') trivial
    obtain ⟨_, _, _, _, _, _, hn⟩ := hd
    exact hn
   .rw [if_neg hk] at hp; exact hp.elim
  | _ => exact hp.elim
 | dictI kvs =>
  cases k with
  | int k =>
   obtain ⟨t, rfl⟩ := vk
   dsimp only at hp
   by_cases hk : kvs.length < 100 /\ 0 <= k /\ k <= Bz
   .rw [if_pos hk] at hp
    obtain ⟨a, o, news, g, e1, lo, ⟨o₂, es, e2, hd, vd⟩, N, hm, up, back⟩ := FS.oneCell x hc (fun _ _ => by simp)
    cases e2
    rw [e1] at ep; cases ep
    refine kda_set x.fr N up hd (intKind_is _ _ _ _) (by rw [vd.length, sizeLine_eq]; omega) fun h' o' F' N' hd' => ?_
    refine hp ρ () h' _ (B8 _) (back (.dictI (N8 k v kvs)) o' h' ⟨o', _, rfl, hd', Lo.stored vv vd ?_⟩ F' N') trivial
    obtain ⟨_, _, _, _, _, _, hn⟩ := hd
    exact hn
   .rw [if_neg hk] at hp; exact hp.elim
  | _ => exact hp.elim
 | tup xs => cases k <;> exact hp.elim
 | dictP xs => cases k <;> exact hp.elim
 | inst c fs => cases k <;> exact hp.elim
 | tab => cases k <;> exact hp.elim
theorem Oy (x : Bc U X ρ H s.heap) {o k : V} {o' k' : Value} (vo : AP U ρ o o') (vk : AP U ρ k k') (hp : Ay (AP U) U xc X ρ (LE o k .none H) Q E s) :
  wpAny (model U.prog U.w) A (call (.builtin "dict.get") [o', k']) Q E s := by
 unfold LE at hp
 obtain ⟨i, c, rfl, hc, hp⟩ := BC hp
 obtain ⟨p, ep, rfl⟩ := vo
 cases c with
 | dictW kvs =>
  cases k with
  | w k =>
   obtain ⟨t, rfl⟩ := vk
   dsimp only at hp
   obtain ⟨a, o, news, g, e1, lo, ⟨o₂, es, e2, hd, vd⟩, N, hm, up, back⟩ := FS.oneCell x hc (fun _ _ => by simp)
   cases e2
   rw [e1] at ep; cases ep
   refine kdg_get1 N hm hd (D0 lo) (strKind_is _ _ _ _) _ rfl (A5 hp x ?_)
   have lk := vd.look (k := k)
   cases q : Bd k kvs with
   | none => rw [lk.1 q]; rfl
   | some v => obtain ⟨y, e, hy⟩ := lk.2 v q; rw [e]; exact hy
  | _ => exact hp.elim
 | _ => cases k <;> exact hp.elim
theorem OW (x : Bc U X ρ H s.heap) {o k d : V} {o' k' d' : Value} (vo : AP U ρ o o') (vk : AP U ρ k k') (vd' : AP U ρ d d') (hp : Ay (AP U) U xc X ρ (LE o k d H) Q E s) :
  wpAny (model U.prog U.w) A (call (.builtin "dict.get") [o', k', d']) Q E s := by
 unfold LE at hp
 obtain ⟨i, c, rfl, hc, hp⟩ := BC hp
 obtain ⟨p, ep, rfl⟩ := vo
 cases c with
 | dictW kvs =>
  cases k with
  | w k =>
   obtain ⟨t, rfl⟩ := vk
   dsimp only at hp
   obtain ⟨a, o, news, g, e1, lo, ⟨o₂, es, e2, hd, vd⟩, N, hm, up, back⟩ := FS.oneCell x hc (fun _ _ => by simp)
   cases e2
   rw [e1] at ep; cases ep
   refine kdg_get2 N hm hd (D0 lo) (strKind_is _ _ _ _) _ rfl (A5 hp x ?_)
   have lk := vd.look (k := k)
   cases q : Bd k kvs with
   | none => rw [lk.1 q]; exact vd'
   | some v => obtain ⟨y, e, hy⟩ := lk.2 v q; rw [e]; exact hy
  | _ => exact hp.elim
 | _ => cases k <;> exact hp.elim
theorem PI {k : Nat} (h : k <= Bz) : k.log2 < 1920 := by
 by_cases z : k = 0
 .subst z; decide
 .refine (Nat.log2_lt z).mpr (Nat.lt_of_le_of_lt h ?_)
  have : (2 : Nat) ^ 17 <= 2 ^ 1920 := Nat.pow_le_pow_right (by decide) (by decide)
  exact Nat.lt_of_lt_of_le (by decide) this
theorem P0 (x : Bc U X ρ H s.heap) {v : V} {v' : Value} (vv : AP U ρ v v') (hp : Ay (AP U) U xc X ρ (OS v H) Q E s) :
  wpAny (model U.prog U.w) A (call (.type "str") [v']) Q E s := by
 cases v <;> first | exact hp.elim | skip
 obtain ⟨t, rfl⟩ := vv
 simp only [OS] at hp
 rename_i i
 by_cases hk : 0 <= i /\ i <= Bz
 .rw [if_pos hk] at hp
  exact P.str_of_int (PI (by have := hk.2; omega)) (A5 hp x ⟨_, rfl⟩)
 .rw [if_neg hk] at hp; exact hp.elim
theorem GS {e : Value -> Bool} {k : Nat} : ∀ {xs : List V} {vs : List Value} {i : Nat}, vs.map e = xs.map (Fz k) -> xs.findIdx? (Fz k) = some i ->
  ∃ h : i < vs.length, e vs[i] = true /\ ∀ m (hm : m < vs.length), m < i -> e vs[m] = false
 | [], _, _, _, h => by simp at h
 | _ :: _, [], _, h, _ => by simp at h
 | x :: xs, v :: vs, i, h, hf => by
  simp only [List.map_cons, List.cons.injEq] at h
  rw [List.findIdx?_cons] at hf
  by_cases q : Fz k x = true
  .rw [if_pos q] at hf
   cases hf
   exact ⟨Nat.zero_lt_succ _, h.1.trans q, fun m _ hm => absurd hm (Nat.not_lt_zero _)⟩
  .rw [if_neg q] at hf
   cases hh : xs.findIdx? (Fz k) with
   | none => rw [hh] at hf; cases hf
   | some j =>
    rw [hh] at hf
    cases hf
    obtain ⟨h1, h2, h3⟩ := GS h.2 hh
    refine ⟨Nat.succ_lt_succ h1, h2, fun m hm CV => ?_⟩
    cases m with
    | zero => exact h.1.trans (Bool.eq_false_iff.mpr q)
    | succ m => exact h3 m (Nat.lt_of_succ_lt_succ hm) (Nat.lt_of_succ_lt_succ CV)
theorem IH {M : Model} {β : Type} {n : Nat} (f : Nat -> β -> Sem (ForInStep β)) (I : Nat -> β -> Shared -> Prop) (Q : β -> Shared -> Prop)
  (turn : ∀ i b s, i < n -> I i b s -> wpAny M A (f i b) (fun r s' => match r with | .yield b' => I (i + 1) b' s' | .done b' => Q b' s') E s)
  (fin : ∀ b s, I n b s -> Q b s) : ∀ (k i : Nat) (b : β) (s : Shared), i + k = n -> I i b s -> wpAny M A (forIn (List.range' i k 1) b f) Q E s
 | 0, i, b, s, e, h => by
  rw [List.range'_zero, List.forIn_nil]
  exact BW (fin _ _ (by rw [<- e]; exact h))
 | k + 1, i, b, s, e, h => by
  rw [List.range'_succ, List.forIn_cons]
  refine Az (wpAny_mono (turn i b s (by omega) h) (fun r s' hr => ?_) fun _ _ h' => h')
  cases r with
  | done b' => exact BW hr
  | yield b' => exact IH f I Q turn fin k (i + 1) b' s' (by omega) hr
theorem HC {M : Model} {β : Type} {n : Nat} (f : Nat -> β -> Sem (ForInStep β)) (I : Nat -> β -> Shared -> Prop) (Q : β -> Shared -> Prop)
  (turn : ∀ i b s, i < n -> I i b s -> wpAny M A (f i b) (fun r s' => match r with | .yield b' => I (i + 1) b' s' | .done b' => Q b' s') E s)
  (fin : ∀ b s, I n b s -> Q b s) (b : β) (h : I 0 b s) : wpAny M A (forIn [:n] b f) Q E s := by
 rw [Std.Legacy.Range.forIn_eq_forIn_range']
 have := IH (A := A) (E := E) f I Q turn fin n 0 b s (by omega) h
 simpa [Std.Legacy.Range.size] using this
theorem JU (l : Addr) (items : Array Value) (n : Nat) (dd : Option Addr) (sl : Array (Option Value)) (x : Value) (e : Value -> Bool) (j : Nat) (hj : j < items.size)
  (hit : e items[j] = true) (hno : ∀ m (hm : m < items.size), m < j -> e items[m] = false) :
  Meets (Builtin.«tuple.index» ⟨[.ref l, x], []⟩)
   (fun A R s => s.heap.get? l = some { cls := .type "tuple", dict := dd, data := .seq items n, slots := sl } /\ (∀ y, y ∈ items -> EqAt A.in1 s y x (e y)) /\ R (.ok (.ret (.int j s.toks))) { s with toks := s.toks + 1 }) := by
 intro prog w A R s h
 obtain ⟨hp, g, d, tk, os⟩ := s; obtain ⟨hl, he, h⟩ := h
 wp_walk using wpAny_loadPart' hl, HC _ (fun i b s' => b.1 = none /\ s' = ⟨hp, g, d, tk, os⟩ /\ i <= j) _
 case turn =>
  rintro i b s' hin ⟨hb, rfl, hij⟩
  have CV : i < items.size := by omega
  rw [Array.getElem?_eq_getElem CV]
  refine Az (he _ (Array.getElem_mem CV) prog w _ _ ?_)
  by_cases q : i = j
  .subst q
   rw [hit]
   wp_walk
   exact h
  .rw [hno i CV (by omega)]
   wp_walk
   exact ⟨rfl, rfl, by omega⟩
 case fin =>
  rintro b s' ⟨hb, rfl, hij⟩
  exact absurd hj (by omega)
 case h => exact ⟨rfl, rfl, Nat.zero_le _⟩
theorem NV (x : Bc U X ρ H s.heap) {tp : Bool} {o k : V} {o' k' : Value} (vo : AP U ρ o o') (vk : AP U ρ k k') (hp : Ay (AP U) U xc X ρ (Fb tp o k H) Q E s) :
  wpAny (model U.prog U.w) A (call (.builtin (if tp then "tuple.index" else "list.index")) [o', k']) Q E s := by
 unfold Fb at hp
 obtain ⟨i, c, rfl, hc, hp⟩ := BC hp
 obtain ⟨p, ep, rfl⟩ := vo
 cases tp with
 | false =>
  cases c with
  | list xs =>
   cases k with
   | w k =>
    obtain ⟨t, rfl⟩ := vk
    dsimp only at hp
    by_cases hw : xs.all wn = true /\ xs.length <= Bz
    .rw [if_pos hw] at hp
     cases hf : xs.findIdx? (Fz k) with
     | none => rw [hf] at hp; exact hp.elim
     | some j =>
      rw [hf] at hp
      obtain ⟨ad, nn, pre, post, e1, ⟨vs, c, rfl, Ed⟩, N, D, lo, _⟩ := x.cell hc
      rw [e1] at ep; cases ep
      obtain ⟨i1, i2⟩ := ET (k := k) (t := t) (A := A.in1) (s := s) Ed hw.1
      obtain ⟨h1, h2, h3⟩ := GS (e := isStrOf (wd k)) i2 hf
      have hg := N.get (IP _ _ _)
      have hl := Ed.length
      refine call_meets PySem.F.slot_list_index ⟨_, hg, rfl⟩ PySem.F.entry_list_index (PySem.F.args_list_index_2 _ _)
       (list_indexAt p.1 vs.toArray c none #[] _ (isStrOf (wd k)) j (by simpa using h1) ?_ (by simpa using h2) (fun m hm CV => by simpa using h3 m (by simpa using hm) CV))
       ⟨hg, fun y hy => i1 y (by simpa using hy), (hp ρ (.int j s.toks) s.heap (s.toks + 1) (B8 _) x ⟨_, rfl⟩ : Q (.int j s.toks) { s with toks := s.toks + 1 })⟩
      have := hw.2
      have e : (2 : Int) ^ 63 - 1 = 9223372036854775807 := by decide
      rw [e]; unfold Bz at this; omega
    .rw [if_neg hw] at hp; exact hp.elim
   | _ => exact hp.elim
  | _ => cases k <;> exact hp.elim
 | true =>
  cases c with
  | tup xs =>
   cases k with
   | w k =>
    obtain ⟨t, rfl⟩ := vk
    dsimp only at hp
    by_cases hw : xs.all wn = true /\ xs.length <= Bz
    .rw [if_pos hw] at hp
     cases hf : xs.findIdx? (Fz k) with
     | none => rw [hf] at hp; exact hp.elim
     | some j =>
      rw [hf] at hp
      obtain ⟨ad, nn, pre, post, e1, ⟨vs, rfl, Ed⟩, N, D, lo, _⟩ := x.cell hc
      rw [e1] at ep; cases ep
      obtain ⟨i1, i2⟩ := ET (k := k) (t := t) (A := A.in1) (s := s) Ed hw.1
      obtain ⟨h1, h2, h3⟩ := GS (e := isStrOf (wd k)) i2 hf
      have hg := N.get (IP _ _ _)
      refine call_meets PySem.F.slot_tuple_index ⟨_, hg, rfl⟩ PySem.F.entry_tuple_index (PySem.F.args_tuple_index_2 _ _)
       (JU p.1 vs.toArray 0 none #[] _ (isStrOf (wd k)) j (by simpa using h1) (by simpa using h2) (fun m hm CV => by simpa using h3 m (by simpa using hm) CV))
       ⟨hg, fun y hy => i1 y (by simpa using hy), (hp ρ (.int j s.toks) s.heap (s.toks + 1) (B8 _) x ⟨_, rfl⟩ : Q (.int j s.toks) { s with toks := s.toks + 1 })⟩
    .rw [if_neg hw] at hp; exact hp.elim
   | _ => exact hp.elim
  | _ => cases k <;> exact hp.elim
theorem MQ {bg : F8} (ok : OK bg) (x : Bc U X ρ H s.heap) {o k : V} {o' k' : Value} (vo : AP U ρ o o') (vk : AP U ρ k k') (hp : Ay (AP U) U xc X ρ (CI bg o k H) Q E s) :
  wpAny (model U.prog U.w) A (call (.builtin "str.startswith") [o', k']) Q E s := by
 cases o <;> cases k <;> first | exact hp.elim | skip
 obtain ⟨t, rfl⟩ := vo; obtain ⟨u, rfl⟩ := vk
 rename_i i j
 simp only [CI] at hp
 cases h : bg i j with
 | none => rw [h] at hp; exact hp.elim
 | some b =>
  rw [h] at hp
  exact SC.startswith (A5 (tk := s.toks) hp x (by rw [ok.ok i j b h]; rfl))
theorem Nn {sa : Addr} {ρ : B0} : ∀ {vs : List Value} {ns : List Int}, IntsAre vs ns -> DO sa ρ (ns.map .int) vs
 | _, _, .nil => trivial
 | _, _, .cons i t h => ⟨⟨t, rfl⟩, Nn h⟩
def QP (Q : Value -> Shared -> Prop) (o vl vu : Value) (s : Shared) : Prop := ∃ l items lo hi, o = .ref l /\ s.heap.IsList l items /\ items.size <= sizeLine /\ IsPart vl lo /\ IsPart vu hi /\
 Q (.ref (s.heap.objs.size + 1)) { s with heap := (s.heap.push { cls := .type "slice", data := .fields #[vl, vu, .none] }).push { cls := .type "list", data := .seq (slicePick items lo hi none) } }
theorem Ir (gf : GF U X.G) (x : Bc U X ρ H s.heap) {vl vu : Value} {xs : List V} {ws : List Value} {items : Array Value} (e : items = ws.toArray) (v : DO U.sa ρ xs ws) (hp : Ay (AP U) U xc X ρ (alloc (.list xs) H) Q E s) :
  Q (.ref (s.heap.objs.size + 1)) { s with heap := (s.heap.push { cls := .type "slice", data := .fields #[vl, vu, .none] }).push { cls := .type "list", data := .seq items } } := by
 subst e
 have x' : Bc U X ρ H ({ s with heap := s.heap.push { cls := .type "slice", data := .fields #[vl, vu, .none] } } : Shared).heap := FS.keeps x fun b o e => DT _ e
 obtain ⟨l, N, _, _, k⟩ := FS.made (xc := xc) (Q := Q) (E := E) (s := { s with heap := s.heap.push { cls := .type "slice", data := .fields #[vl, vu, .none] } }) gf x'
 have := k (c := .list xs) (o := { cls := .type "list", data := .seq ws.toArray }) (tk := s.toks) hp (x'.fr.push _) (N.push x'.fr _) ⟨ws, 0, rfl, v.mono (List.prefix_append ..)⟩
 rw [show ({ s with heap := s.heap.push { cls := .type "slice", data := .fields #[vl, vu, .none] } } : Shared).heap.objs.size = s.heap.objs.size + 1 from Heap.size_push ..] at this
 exact this
theorem N0 (gf : GF U X.G) (x : Bc U X ρ H s.heap) {o k : V} {o' k' : Value} (vo : AP U ρ o o') (vk : AP U ρ k k') (hp : Ay (AP U) U xc X ρ (cutTo U.Ab o k H) Q E s) : QP Q o' .none k' s := by
 cases o <;> cases k <;> first | exact hp.elim | skip
 .rename_i l k
  obtain ⟨t, rfl⟩ := vk
  simp only [cutTo] at hp
  obtain ⟨i, c, e, hc, hp⟩ := BC hp
  cases e
  obtain ⟨p, ep, rfl⟩ := vo
  cases c with
  | list xs =>
   dsimp only at hp
   by_cases hk : 0 <= k /\ k <= Bz /\ xs.length <= Bz
   .rw [if_pos hk] at hp
    obtain ⟨a, e1, _, vs, il, Ed⟩ := x.at hc
    rw [e1] at ep; cases ep
    refine ⟨p.1, vs.toArray, none, some k, rfl, il, by rw [List.size_toArray, Ed.length]; exact Cy hk.2.2, .none, .int k t, ?_⟩
    refine Ir gf x (ws := vs.take k.toNat) ?_ (Ed.take _) hp
    have e := slicePick_upto' vs.toArray k.toNat
    rw [Int.toNat_of_nonneg hk.1] at e
    rw [e]
   .rw [if_neg hk] at hp; exact hp.elim
  | _ => exact hp.elim
 .obtain ⟨t, rfl⟩ := vk
  cases vo
  simp only [cutTo] at hp
  rename_i k
  by_cases hk : k = 40
  .subst hk
   rw [if_pos rfl] at hp
   obtain ⟨vs, il, iv, hl⟩ := gf.ext
   refine ⟨U.sa, vs.toArray, none, some 40, rfl, il.at (fun o e => x.fr.keep _ o e), by rw [List.size_toArray]; exact hl, .none, .int 40 t, ?_⟩
   refine Ir gf x (ws := vs.take 40) ?_ ?_ hp
   .have := slicePick_upto' vs.toArray 40
    simpa using this
   .rw [List.map_take]; exact (Nn iv).take 40
  .rw [if_neg hk] at hp; exact hp.elim
theorem K2 (gf : GF U X.G) (x : Bc U X ρ H s.heap) {o k : V} {o' k' : Value} (vo : AP U ρ o o') (vk : AP U ρ k k') (hp : Ay (AP U) U xc X ρ (cutFrom o k H) Q E s) : QP Q o' k' .none s := by
 cases k <;> first | exact hp.elim | skip
 obtain ⟨t, rfl⟩ := vk
 rename_i k
 simp only [cutFrom] at hp
 obtain ⟨i, c, rfl, hc, hp⟩ := BC hp
 obtain ⟨p, ep, rfl⟩ := vo
 cases c with
 | list xs =>
  dsimp only at hp
  by_cases hk : 0 <= k /\ k <= Bz /\ xs.length <= Bz
  .rw [if_pos hk] at hp
   obtain ⟨a, e1, _, vs, il, Ed⟩ := x.at hc
   rw [e1] at ep; cases ep
   refine ⟨p.1, vs.toArray, some k, none, rfl, il, by rw [List.size_toArray, Ed.length]; exact Cy hk.2.2, .int k t, .none, ?_⟩
   refine Ir gf x (ws := vs.drop k.toNat) ?_ (Ed.drop _) hp
   have e := slicePick_from' vs.toArray k.toNat
   rw [Int.toNat_of_nonneg hk.1] at e
   rw [e]
  .rw [if_neg hk] at hp; exact hp.elim
 | _ => exact hp.elim
end
variable {U : Un} {xc : Value} {X X' : Fx} {ρ ρ' ρ0 : B0} {H : MH} {h h' : Heap} {s : Shared} {A : Around} {E Q : Value -> Shared -> Prop} {Ac env : PySem.Env} {n : Nat} {ns : Ft} {Γ : List Str} {vs : Mine.Env} {C : Ef Fn} {np pos apos : Pos} {fa : Fn -> Addr}
abbrev Ft := List (Str × NameKind)
structure AZ (X : Fx) (Ac env : PySem.Env) (ns : Ft) : Prop where
 names : env.scope.names = ns
 kind : env.scope.kind = .function
 glo : env.globals = mainGlobals
 blt : env.builtins = builtinsNs
 frm : env.frame = some X.L
 hc : ∀ y, env.kindOf y = some .cell \/ env.kindOf y = some .free -> (env.cells.lookup y).isSome = true
def Ht (X : Fx) (env : PySem.Env) (x : Str) (y : Value) : Prop :=
 (env.kindOf x = some .local /\ env.locals = X.L /\ X.m x = some y) \/
 ((env.kindOf x = some .cell \/ env.kindOf x = some .free) /\ ∃ c o, env.cells.lookup x = some c /\ (c, o) ∈ X.px /\ o.data = .cell (some y)) \/
 (env.kindOf x = some .local /\ ∃ o m, (env.locals, o) ∈ X.px /\ (∀ h : Heap, h.get? env.locals = some o -> h.Ns env.locals m) /\ m x = some y)
def Se : Option NameKind -> Bool
 | some .local | some .cell | some .free => true
 | _ => false
structure EO (U : Un) (X : Fx) (ρ : B0) (env : PySem.Env) (Γ : List Str) (vs : Mine.Env) : Prop where
 len : vs.length = Γ.length
 get : ∀ (i : Nat) (v : V) (x : Str), vs[i]? = some (some v) -> Γ[i]? = some x -> Se (env.kindOf x) = true -> ∃ y, AP U ρ v y /\ Ht X env x y
theorem EO.mono {U : Un} {X : Fx} {ρ ρ' : B0} {env : PySem.Env} {Γ : List Str} {vs : Mine.Env} (h : ρ <+: ρ') (e : EO U X ρ env Γ vs) : EO U X ρ' env Γ vs :=
 ⟨e.len, fun i v x q r t => let ⟨y, b, c⟩ := e.get i v x q r t; ⟨y, b.mono h, c⟩⟩
def DY (ns : Ft) (x : Str) : Bool := Se (ns.lookup x) && (!(x == ("__debug__" : Str)) && !(x == ("__classdict__" : Str)))
def D3 (ns : Ft) (x : Str) : Bool := ns.lookup x == some .globalImplicit && !(x == ("__debug__" : Str))
theorem FS.news (x : Bc U X ρ H s.heap) : ∃ l, News X.G X.L s.heap l /\ ∀ p ∈ X.px, p ∈ l := by
 obtain ⟨l, N, _, sub, _⟩ := FS.all x
 exact ⟨l, N, sub⟩
theorem JD (ek : AZ X Ac env ns) (x : Bc U X ρ H s.heap) {nm : Str} {y : Value} {pos : Pos} (hn : DY ns nm = true) (l : Ht X env nm y) (h : Q y s) :
  wpAny (model U.prog U.w) A (eval (.Name nm pos) env) Q E s := by
 unfold DY at hn
 rw [Ao, Ao] at hn
 have hd : (nm == ("__debug__" : Str)) = false := by simpa using hn.2.1
 have hc : (nm == ("__classdict__" : Str)) = false := by simpa using hn.2.2
 refine wpAny_Name ?_ hd
 obtain ⟨N, hN, sub⟩ := FS.news x
 rcases l with ⟨hk, hl, hm⟩ | ⟨hk, c, o, hc', hmem, hd'⟩ | ⟨hk, o, m, hmem, Eg, hm⟩
 .exact wpAny_loadName_local ek.kind hk (by rw [hl]; exact x.fr.ns) hm h
 .have hcell : s.heap.IsCell c (some y) := ⟨o, hN.get (sub _ hmem), hd'⟩
  rcases hk with hk | hk
  .exact wpAny_loadName_cell ek.kind hk hc' hcell h
  .exact wpAny_loadName_free ek.kind hk hc' hcell h hc
 .exact wpAny_loadName_local ek.kind hk (Eg _ (hN.get (sub _ hmem))) hm h
theorem DU (ek : AZ X Ac env ns) (gf : GF U X.G) (x : Bc U X ρ H s.heap) {nm : Str} {v : Value} {pos : Pos} (hn : D3 ns nm = true) (e : nsIn U.K mainGlobals nm = some (some v)) (h : Q v s) :
  wpAny (model U.prog U.w) A (eval (.Name nm pos) env) Q E s := by
 unfold D3 at hn
 rw [Ao] at hn
 exact nameG_K x.fr gf.K (topRead_of gf.T) e h ek.glo ek.kind (by unfold PySem.Env.kindOf; rw [ek.names]; exact beq_iff_eq.mp hn.1) (by simpa using hn.2)
theorem Cg (ek : AZ X Ac env ns) (gf : GF U X.G) (x : Bc U X ρ H s.heap) {nm : Str} {v : Value} {pos : Pos} (hn : D3 ns nm = true) (e : nsIn U.K mainGlobals nm = some none) (hv : bootBuiltins nm = some v) (hn' : nm ≠ "__name__") (h : Q v s) :
  wpAny (model U.prog U.w) A (eval (.Name nm pos) env) Q E s := by
 unfold D3 at hn
 rw [Ao] at hn
 refine Name_function_global ek.kind (by unfold PySem.Env.kindOf; rw [ek.names]; exact beq_iff_eq.mp hn.1) ?_ (by simpa using hn.2)
 refine loadGlobal_builtin (by rw [ek.glo]; exact gf.T.g.keeps x.fr.keep) (mg_none_of gf.K gf.T.g e) (by rw [ek.blt]; exact gf.T.b.keeps x.fr.keep) ((gf.T.builtins nm hn').trans hv) h
def SE (U : Un) (xc : Value) (C : Ef Fn) (A : Around) (X : Fx) (env : PySem.Env) (Γ : List Str) (m : ME Fn) (e : PySem.Expr) : Prop :=
 ∀ ρ H s vs Q E, Bc U X ρ H s.heap -> EO U X ρ env Γ vs -> Ay (AP U) U xc X ρ (Aa C m vs H) Q E s -> wpAny (model U.prog U.w) A (eval e env) Q E s
def ST (U : Un) (xc : Value) (C : Ef Fn) (A : Around) (X : Fx) (env : PySem.Env) (Γ : List Str) (m : ME Fn) (e : PySem.Expr) : Prop :=
 ∀ ρ H s vs Q E, Bc U X ρ H s.heap -> EO U X ρ env Γ vs -> Ay (fun _ (t t' : Bool) => t' = t) U xc X ρ (bnd (Aa C m vs) Aw H) Q E s -> wpAny (model U.prog U.w) A (isTrue e env (eval e env)) Q E s
theorem Pe (ek : AZ X Ac env ns) {i : Nat} {nm : Str} {pos : Pos} (h1 : Γ[i]? = some nm) (h2 : DY ns nm = true) : SE U xc C A X env Γ (.var i) (.Name nm pos) := by
 intro ρ H s vs Q E x eo hp
 unfold Aa at hp
 obtain ⟨v, ev, hp⟩ := FY hp
 have : vs[i]? = some (some v) := by
  cases h : vs[i]? with
  | none => rw [h] at ev; cases ev
  | some o => rw [h] at ev; cases o with | none => cases ev | some o => cases ev; rfl
 obtain ⟨y, hy, l⟩ := eo.get i v nm this h1 (by unfold PySem.Env.kindOf; rw [ek.names]; unfold DY at h2; exact (Bool.and_eq_true_iff.mp h2).1)
 exact JD ek x h2 l (BX (tk := s.toks) hp x hy)
def QI : V -> Const -> Bool
 | .none, .none => true
 | .bool b, .bool c => b == c
 | .int i, .int j => i == j
 | .w k, .str t => t == wd k
 | _, _ => false
theorem OP {v : V} {c : Const} {k : Nat} {pos : Pos} (h : QI v c = true) : SE U xc C A X env Γ (.cst v) (.Constant c k pos) := by
 intro ρ H s vs Q E x eo hp
 unfold Aa at hp
 cases v <;> cases c <;> first | (cases h; done) | skip
 .exact wpAny_Constant_none (A5 (tk := s.toks) hp x rfl)
 .rw [show _ = _ from beq_iff_eq.mp h] at hp
  exact wpAny_Constant_bool (A5 (tk := s.toks) hp x rfl)
 .rw [show _ = _ from beq_iff_eq.mp h] at hp
  exact wpAny_Constant_int (A5 hp x ⟨_, rfl⟩)
 .rw [show _ = _ from beq_iff_eq.mp h]
  exact wpAny_Constant_str (A5 hp x ⟨_, rfl⟩)
def AY : PySem.Expr -> Bool
 | .Call (.Name _ _) [] [] _ => false
 | _ => true
theorem Dn {o : PySem.Expr} {a : Str} {env : PySem.Env} {whole : Sem Value} (h : AY o = true) : attributeBase o a env whole = whole := by
 unfold attributeBase
 split
 .cases h
 .rfl
theorem PV (uf : UF U) (cx : Cx U A X Ac n) {m : ME Fn} {e : PySem.Expr} {a : Nat} {pos : Pos} (ha : a ∈ Dg) (hb : AY e = true) (h : SE U xc C A X env Γ m e) : SE U xc C A X env Γ (.attr m a) (.Attribute e (wd a) pos) := by
 intro ρ H s vs Q E x eo hp
 unfold Aa at hp
 refine Attribute_any_ (h ρ H s vs _ E x eo (hp.bnd (rel1 := AP U) fun v H1 ρ1 v' h1 BT _ l1 x1 r1 AR => ?_)) ?_
 .exact Lv uf cx x1 ha r1 AR
 .show (do let o <- attributeBase e (wd a) env (eval e env); _ : Sem Value) = _
  rw [Dn hb]
theorem QV {m i : ME Fn} {e sl : PySem.Expr} {pos : Pos} (h : SE U xc C A X env Γ m e) (h2 : SE U xc C A X env Γ i sl) : SE U xc C A X env Γ (.idx m i) (.Subscript e sl pos) := by
 intro ρ H s vs Q E x eo hp
 unfold Aa at hp
 refine Subscript_ (h ρ H s vs _ E x eo (hp.bnd (rel1 := AP U) fun v H1 ρ1 v' h1 BT _ l1 x1 r1 AR => ?_))
 refine h2 ρ1 H1 _ vs _ E x1 (eo.mono l1) (AR.bnd (rel1 := AP U) fun k H2 ρ2 k' h2 tk2 _ l2 x2 r2 B9 => ?_)
 exact P9 x2 (r1.mono l2) r2 B9
theorem Q9 (cx : Cx U A X Ac n) {a b : ME Fn} {l r : PySem.Expr} {op : RW} {pos : Pos} (h : SE U xc C A X env Γ a l) (h2 : SE U xc C A X env Γ b r) : SE U xc C A X env Γ (.bin op a b) (.BinOp l (Pb op) r pos) := by
 intro ρ H s vs Q E x eo hp
 unfold Aa at hp
 refine wpAny_BinOp (h ρ H s vs _ E x eo (hp.bnd (rel1 := AP U) fun v H1 ρ1 v' h1 BT _ l1 x1 r1 AR => ?_))
 refine h2 ρ1 H1 _ vs _ E x1 (eo.mono l1) (AR.bnd (rel1 := AP U) fun k H2 ρ2 k' h2 tk2 _ l2 x2 r2 B9 => ?_)
 exact P3 cx x2 (r1.mono l2) r2 B9
theorem Rt (cx : Cx U A X Ac n) {a b : ME Fn} {l r : PySem.Expr} {op : R9} {pos : Pos} (hm : behindInMarks (LX op) r = false) (h : SE U xc C A X env Γ a l) (h2 : SE U xc C A X env Γ b r) :
  SE U xc C A X env Γ (.cmp op a b) (.Compare l [LX op] [r] pos) := by
 intro ρ H s vs Q E x eo hp
 unfold Aa at hp
 refine wpAny_Compare1 (h ρ H s vs _ E x eo (hp.bnd (rel1 := AP U) fun v H1 ρ1 v' h1 BT _ l1 x1 r1 AR => ?_)) hm
 refine h2 ρ1 H1 _ vs _ E x1 (eo.mono l1) (AR.bnd (rel1 := AP U) fun k H2 ρ2 k' h2 tk2 _ l2 x2 r2 B9 => ?_)
 refine Pz (xc := xc) cx x2 (r1.mono l2) r2 (B9.bnd (rel1 := So) fun t H3 ρ3 t' h3 tk3 _ l3 x3 r3 hp3 => ?_)
 exact A5 (tk := tk3) hp3 x3 r3
theorem Jf {m : ME Fn} {ρ : B0} {H : MH} {s : Shared} {vs : Mine.Env} {Q : Bool -> Shared -> Prop} {E : Value -> Shared -> Prop} (hp : Ay (fun _ (t t' : Bool) => t' = t) U xc X ρ (bnd (Aa C m vs) Aw H) Q E s) :
  Ay (AP U) U xc X ρ (Aa C m vs H) (fun v s' => ∃ t, v = .bool t /\ Q t s') E s := by
 refine hp.bnd (rel1 := AP U) fun v H1 ρ1 v' h1 BT _ l1 x1 r1 AR => ?_
 cases v <;> first | exact AR.elim | skip
 cases r1
 exact ⟨_, rfl, AR ρ1 _ h1 BT (B8 _) x1 rfl⟩
def HS : PySem.Expr -> Bool
 | .UnaryOp .Not _ _ => false
 | .BoolOp .. => false
 | .IfExp .. => false
 | .Compare .. => false
 | _ => true
theorem KJ {e : PySem.Expr} {env : PySem.Env} {whole : Sem Value} (h : HS e = true) : isTrue e env whole = (do
  let v <- whole
  standAt e.pos
  holding [v] (truthy v)) := by
 cases e <;> first | rfl | (cases h; done) | skip
 rename_i op _ _
 cases op <;> first | rfl | (cases h; done)
theorem Oi {m : ME Fn} {e : PySem.Expr} (hb : HS e = true) (h : SE U xc C A X env Γ m e) : ST U xc C A X env Γ m e := by
 intro ρ H s vs Q E x eo hp
 rw [KJ hb]
 refine Az (wpAny_mono (h ρ H s vs _ E x eo (Jf hp)) (fun v s' hv => ?_) fun _ _ e => e)
 obtain ⟨t, rfl, hq⟩ := hv
 exact Az (wpAny_standAt (wpAny_holding (wpAny_truthy_bool hq)))
abbrev Q6 : B0 -> Bool -> Bool -> Prop := fun _ t t' => t' = t
def IT (b : Bool) : BoolOp := if b then .And else .Or
def m2 (b : Bool) (x y : ME Fn) : ME Fn := if b then .and2 x y else .or2 x y
theorem M0 (t : Bool) (a b : ME Fn) : Aa C (m2 t a b) vs = bnd (Aa C a vs) fun x => bnd (Aw x) fun u => if u = t then Aa C b vs else ret x := by
 cases t
 .show Aa C (.or2 a b) vs = _
  rw [Aa]
  refine congrArg _ (funext fun x => congrArg _ (funext fun u => ?_))
  cases u <;> rfl
 .show Aa C (.and2 a b) vs = _
  rw [Aa]
def Sk (U : Un) (xc : Value) (C : Ef Fn) (A : Around) (X : Fx) (env : PySem.Env) (Γ : List Str) (op : BoolOp) (pos : Pos) (m : ME Fn) (es : List PySem.Expr) : Prop :=
 ∀ ρ H s vs Q E, Bc U X ρ H s.heap -> EO U X ρ env Γ vs -> Ay (AP U) U xc X ρ (Aa C m vs H) Q E s -> wpAny (model U.prog U.w) A (boolOp pos op (evalEach es env)) Q E s
def Ss (U : Un) (xc : Value) (C : Ef Fn) (A : Around) (X : Fx) (env : PySem.Env) (Γ : List Str) (op : BoolOp) (m : ME Fn) (es : List PySem.Expr) : Prop :=
 ∀ ρ H s vs Q E, Bc U X ρ H s.heap -> EO U X ρ env Γ vs -> Ay Q6 U xc X ρ (bnd (Aa C m vs) Aw H) Q E s -> wpAny (model U.prog U.w) A (allTrue op es env) Q E s
theorem M8 {op : BoolOp} {pos : Pos} {m : ME Fn} {e : PySem.Expr} (h : SE U xc C A X env Γ m e) : Sk U xc C A X env Γ op pos m [e] := h
theorem La {op : BoolOp} {pos : Pos} {m : ME Fn} {es : List PySem.Expr} (h : SE U xc C A X env Γ m (.BoolOp op es pos)) : Sk U xc C A X env Γ op pos m es := h
theorem Le {op : BoolOp} {pos : Pos} {m : ME Fn} {es : List PySem.Expr} (h : ST U xc C A X env Γ m (.BoolOp op es pos)) : Ss U xc C A X env Γ op m es := h
theorem MU {t : Bool} {m : ME Fn} {e : PySem.Expr} (h : ST U xc C A X env Γ m e) : Ss U xc C A X env Γ (IT t) m [e] := by
 intro ρ H s vs Q E x eo hp
 show wpAny _ _ (do
  match IT t, <- isTrue e env (eval e env) with
  | .And, false => pure false
  | .Or, true => pure true
  | _, _ => allTrue (IT t) [] env) _ _ _
 refine Az (wpAny_mono (h ρ H s vs _ E x eo hp) (fun v s' hv => ?_) fun _ _ e => e)
 cases t <;> cases v <;> exact BW hv
theorem M2 {t : Bool} {a b : ME Fn} {x y : PySem.Expr} {r : List PySem.Expr} {pos : Pos} (h : SE U xc C A X env Γ a x) (h2 : Sk U xc C A X env Γ (IT t) pos b (y :: r)) :
  SE U xc C A X env Γ (m2 t a b) (.BoolOp (IT t) (x :: y :: r) pos) := by
 intro ρ H s vs Q E hx eo hp
 rw [M0] at hp
 show wpAny _ _ (do
  let v <- eval x env
  standAt pos
  let u <- holding [v] (truthy v)
  match IT t, u with
  | .And, false | .Or, true => pure v
  | _, _ => boolOp pos (IT t) (evalEach (y :: r) env)) _ _ _
 refine Az (wpAny_mono (h ρ H s vs _ E hx eo (hp.bnd (rel1 := AP U) fun v H1 ρ1 v' h1 BT _ l1 x1 r1 AR => ?_)) (fun v s' hv => hv) fun _ _ e => e)
 cases v <;> first | exact AR.elim | skip
 rename_i u _
 cases r1
 refine Az (wpAny_standAt (Az (wpAny_holding (wpAny_truthy_bool ?_))))
 simp only [bnd, Aw, ret] at AR
 by_cases q : u = t
 .rw [if_pos q] at AR
  subst q
  have := h2 ρ1 H1 _ vs _ E x1 (eo.mono l1) AR
  cases u <;> exact this
 .rw [if_neg q] at AR
  have := BX (tk := BT) AR x1 rfl
  cases t <;> cases u <;> first | exact absurd rfl q | exact BW this
theorem OX (t : Bool) (a b : ME Fn) : bnd (Aa C (m2 t a b) vs) Aw H = bnd (Aa C a vs) (fun x => bnd (Aw x) fun u => if u = t then bnd (Aa C b vs) Aw else ret u) H := by
 rw [M0]
 simp only [bnd]
 cases Aa C a vs H with
 | ok x H1 =>
  dsimp only
  cases x <;> first | rfl | skip
  rename_i u
  simp only [Aw, ret]
  by_cases q : u = t
  .rw [if_pos q, if_pos q]; rfl
  .rw [if_neg q, if_neg q]; rfl
 | _ => rfl
theorem M4 {t : Bool} {a b : ME Fn} {x y : PySem.Expr} {r : List PySem.Expr} {pos : Pos} (h : ST U xc C A X env Γ a x) (h2 : Ss U xc C A X env Γ (IT t) b (y :: r)) :
  ST U xc C A X env Γ (m2 t a b) (.BoolOp (IT t) (x :: y :: r) pos) := by
 intro ρ H s vs Q E hx eo hp
 rw [OX] at hp
 show wpAny _ _ (do
  match IT t, <- isTrue x env (eval x env) with
  | .And, false => pure false
  | .Or, true => pure true
  | _, _ => allTrue (IT t) (y :: r) env) _ _ _
 have e : bnd (Aa C a vs) (fun x => bnd (Aw x) fun u => if u = t then bnd (Aa C b vs) Aw else ret u) H = bnd (bnd (Aa C a vs) Aw) (fun u => if u = t then bnd (Aa C b vs) Aw else ret u) H := by
  simp only [bnd]
  cases Aa C a vs H <;> rfl
 rw [e] at hp
 refine Az (wpAny_mono (h ρ H s vs _ E hx eo (hp.bnd (rel1 := Q6) fun u H1 ρ1 v' h1 BT _ l1 x1 r1 AR => ?_)) (fun v s' hv => hv) fun _ _ e => e)
 cases r1
 by_cases q : u = t
 .rw [if_pos q] at AR
  subst q
  have := h2 ρ1 H1 _ vs _ E x1 (eo.mono l1) AR
  cases u <;> exact this
 .rw [if_neg q] at AR
  have := A5 (tk := BT) AR x1 rfl
  cases t <;> cases u <;> first | exact absurd rfl q | exact BW this
theorem Rl {m : ME Fn} {e : PySem.Expr} {pos : Pos} (h : ST U xc C A X env Γ m e) : ST U xc C A X env Γ (.not m) (.UnaryOp .Not e pos) := by
 intro ρ H s vs Q E x eo hp
 have e1 : bnd (Aa C (.not m) vs) Aw H = bnd (bnd (Aa C m vs) Aw) (fun t => ret !t) H := by
  rw [Aa]
  simp only [bnd]
  cases Aa C m vs H with
  | ok v H1 => dsimp only; cases Aw v H1 <;> rfl
  | _ => rfl
 rw [e1] at hp
 show wpAny _ _ (do return !(<- isTrue e env (eval e env))) _ _ _
 refine Az (wpAny_mono (h ρ H s vs _ E x eo (hp.bnd (rel1 := Q6) fun u H1 ρ1 v' h1 BT _ l1 x1 r1 AR => ?_)) (fun v s' hv => BW hv) fun _ _ e => e)
 cases r1
 exact A5 (tk := BT) AR x1 rfl
theorem QU {m : ME Fn} {e : PySem.Expr} {pos : Pos} (h : SE U xc C A X env Γ m e) : SE U xc C A X env Γ (.not m) (.UnaryOp .Not e pos) := by
 intro ρ H s vs Q E x eo hp
 rw [Aa] at hp
 show wpAny _ _ (do let v <- eval e env; standAt pos; holding [v] (unaryOp .Not v)) _ _ _
 refine Az (wpAny_mono (h ρ H s vs _ E x eo (hp.bnd (rel1 := AP U) fun v H1 ρ1 v' h1 BT _ l1 x1 r1 AR => ?_)) (fun v s' hv => hv) fun _ _ e => e)
 cases v <;> first | exact AR.elim | skip
 cases r1
 refine Az (wpAny_standAt (wpAny_holding ?_))
 unfold unaryOp
 refine wpAny_holding ?_
 simp only [beq_self_eq_true, if_true]
 exact Az (wpAny_truthy_bool (BW (A5 (tk := BT) AR x1 rfl)))
theorem Ly (c a b : ME Fn) : Aa C (.ite c a b) vs = bnd (bnd (Aa C c vs) Aw) fun t => if t then Aa C a vs else Aa C b vs := by
 rw [Aa]
 funext H
 simp only [bnd]
 cases Aa C c vs H <;> rfl
theorem Rg {c a b : ME Fn} {ec ea eb : PySem.Expr} {pos : Pos} (hc : ST U xc C A X env Γ c ec) (ha : SE U xc C A X env Γ a ea) (hb : SE U xc C A X env Γ b eb) :
  SE U xc C A X env Γ (.ite c a b) (.IfExp ec ea eb pos) := by
 intro ρ H s vs Q E x eo hp
 rw [Ly] at hp
 refine wpAny_IfExp (hc ρ H s vs _ E x eo (hp.bnd (rel1 := Q6) fun u H1 ρ1 v' h1 BT _ l1 x1 r1 AR => ?_))
 cases r1
 cases u
 .exact hb ρ1 H1 _ vs _ E x1 (eo.mono l1) AR
 .exact ha ρ1 H1 _ vs _ E x1 (eo.mono l1) AR
theorem Rj {c a b : ME Fn} {ec ea eb : PySem.Expr} {pos : Pos} (hc : ST U xc C A X env Γ c ec) (ha : ST U xc C A X env Γ a ea) (hb : ST U xc C A X env Γ b eb) :
  ST U xc C A X env Γ (.ite c a b) (.IfExp ec ea eb pos) := by
 intro ρ H s vs Q E x eo hp
 have e1 : bnd (Aa C (.ite c a b) vs) Aw H = bnd (bnd (Aa C c vs) Aw) (fun t => if t then bnd (Aa C a vs) Aw else bnd (Aa C b vs) Aw) H := by
  rw [Ly]
  simp only [bnd]
  cases Aa C c vs H with
  | ok v H1 => dsimp only; cases Aw v H1 with
   | ok t H2 => dsimp only; cases t <;> rfl
   | _ => rfl
  | _ => rfl
 rw [e1] at hp
 show wpAny _ _ (do
  if <- isTrue ec env (eval ec env) then isTrue ea env (eval ea env) else isTrue eb env (eval eb env)) _ _ _
 refine Az (wpAny_mono (hc ρ H s vs _ E x eo (hp.bnd (rel1 := Q6) fun u H1 ρ1 v' h1 BT _ l1 x1 r1 AR => ?_)) (fun v s' hv => hv) fun _ _ e => e)
 cases r1
 cases u
 .exact hb ρ1 H1 _ vs _ E x1 (eo.mono l1) AR
 .exact ha ρ1 H1 _ vs _ E x1 (eo.mono l1) AR
theorem Qb {k j : Nat} {p pos : Pos} : SE U xc C A X env Γ (.usub k) (.UnaryOp .USub (.Constant (.int k) j p) pos) := by
 intro ρ H s vs Q E x eo hp
 rw [Aa] at hp
 show wpAny _ _ (do let v <- eval (.Constant (.int k) j p) env; standAt pos; holding [v] (unaryOp .USub v)) _ _ _
 refine Az (wpAny_Constant_int ?_)
 refine Az (wpAny_standAt (wpAny_holding ?_))
 exact PyProof.Rows.neg_int (hp ρ _ s.heap _ (B8 _) x ⟨_, rfl⟩)
theorem Qe (ek : AZ X Ac env ns) (gf : GF U X.G) {nm : Str} {t : Tok} {pos : Pos} (hn : D3 ns nm = true) (e : nsIn U.K mainGlobals nm = some (some (.int 1000000 t))) : SE U xc C A X env Γ .gmax (.Name nm pos) := by
 intro ρ H s vs Q E x eo hp
 rw [Aa] at hp
 exact DU ek gf x hn e (A5 (tk := s.toks) hp x ⟨_, rfl⟩)
theorem Mz {v : V} {v' : Value} (h : AP U ρ v v') : (v' = .none ↔ v = .none) := by
 cases v <;> simp only [AP, VR] at h
 all_goals first | (subst h; simp) | (obtain ⟨t, rfl⟩ := h; simp) | (obtain ⟨p, _, rfl⟩ := h; simp)
theorem N5 {neg : Bool} {m : ME Fn} {e : PySem.Expr} {k : Nat} {p pos : Pos} (h : SE U xc C A X env Γ m e) :
  SE U xc C A X env Γ (.isNone neg m) (.Compare e [if neg then .IsNot else .Is] [.Constant .none k p] pos) := by
 intro ρ H s vs Q E x eo hp
 rw [Aa] at hp
 refine wpAny_Compare1 (h ρ H s vs _ E x eo (hp.bnd (rel1 := AP U) fun v H1 ρ1 v' h1 BT _ l1 x1 r1 AR => ?_)) (by cases neg <;> rfl)
 refine wpAny_Constant_none ?_
 have iff := Mz r1
 have fin : Q (.bool (xor neg (decide (v = .none)))) { s with heap := h1, toks := BT } := A5 (tk := BT) AR x1 rfl
 have pl : plainIs v' .none = true := by
  cases v <;> simp only [AP, VR] at r1
  all_goals first | (subst r1; rfl) | (obtain ⟨t, rfl⟩ := r1; rfl) | (obtain ⟨p, _, rfl⟩ := r1; rfl)
 by_cases q : v = .none
 .have : v' = .none := iff.mpr q
  subst this
  cases neg
  .exact wpAny_is_self pl (by simpa [q] using fin)
  .exact wpAny_isNot_self pl (by simpa [q] using fin)
 .have : v' ≠ .none := fun e => q (iff.mp e)
  cases neg
  .exact wpAny_is_other pl this (by simpa [q] using fin)
  .exact wpAny_isNot_other pl this (by simpa [q] using fin)
def As : PySem.Expr -> Bool
 | .Starred .. => false
 | _ => true
theorem AX {e : PySem.Expr} {r : List PySem.Expr} {env : PySem.Env} (h : As e = true) : starEach (e :: r) env = (false, eval e env) :: starEach r env := by
 cases e <;> first | rfl | (cases h; done)
theorem Oh {es : List PySem.Expr} {env : PySem.Env} {pos : Pos} (h : es.all As = true) : (backTo pos (starEach es env)).any (·.1) = false := by
 induction es with
 | nil => rfl
 | cons e r ih =>
  rw [List.all_cons, Ao] at h
  rw [AX h.1]
  show (false || (backTo pos (starEach r env)).any (·.1)) = false
  rw [ih h.2]; rfl
theorem OO {es : List PySem.Expr} {env : PySem.Env} {pos : Pos} (h : es.all As = true) : (backTo pos (starEach es env)).all (!·.1) = true := by
 induction es with
 | nil => rfl
 | cons e r ih =>
  rw [List.all_cons, Ao] at h
  rw [AX h.1]
  show (true && (backTo pos (starEach r env)).all (!·.1)) = true
  rw [ih h.2]; rfl
section
variable {M : Model}
theorem AF {P : Heap -> Prop} {f : Value} {first : List Value} {es : List PySem.Expr} (hes : es.all As = true) (hk : ∀ h, P h -> ∃ k, (k = Keeper.frame \/ k = Keeper.machine \/ k = Keeper.boundFrame) /\ Looks M h (keeperOf f) k)
  (h : wpAny M A (spliced (backTo pos (starEach es env))) (fun vs s₁ => P s₁.heap /\ wpAny M A (call f (first ++ vs)) Q E s₁) E s) :
  wpAny M A (callWith pos f first (backTo pos (starEach es env)) []) Q E s := by
 refine callWith_of (P := P) (by rw [Oh hes]; rfl) hk ?_
 cases es with
 | nil =>
  unfold evalArgs
  show wpAny M A (spliced [] >>= _) _ E s
  refine Az (wpAny_mono h (fun vs s₁ h₁ => ?_) fun _ _ x => x)
  refine Az (BW ?_)
  refine wpAny_holding ?_
  exact Az (BW (Az (BW (BW h₁))))
 | cons e r =>
  rw [List.all_cons, Ao] at hes
  rw [AX hes.1] at h ⊢
  exact evalArgs_plain h
theorem D1 {T : String} (h : Heap) (_ : True) : ∃ k, (k = Keeper.frame \/ k = Keeper.machine \/ k = Keeper.boundFrame) /\ Looks M h (keeperOf (.type T)) k := ⟨.machine, .inr (.inl rfl), Looks.of_pure rfl⟩
theorem CW {T : String} (h : Heap) (_ : True) : ∃ k, (k = Keeper.frame \/ k = Keeper.machine \/ k = Keeper.boundFrame) /\ Looks M h (keeperOf (.builtin T)) k := ⟨.machine, .inr (.inl rfl), Looks.of_pure rfl⟩
theorem Da {o : PySem.Expr} {name : Str} {es : List PySem.Expr} (hb : AY o = true) (hes : es.all As = true) (hn : es.length < 30) (hl : (apos.endLine == pos.line) = true)
  (h : wpAny M A (eval o env) (fun ov s₁ => ∀ pl, wpAny M A (getMethod ov name pl) (fun fx s₂ => wpAny M A (callWith pos fx.1 fx.2 (backTo pos (starEach es env)) []) Q E s₂) E s₁) E s) :
  wpAny M A (eval (.Call (.Attribute o name apos) es [] pos) env) Q E s := by
 show wpAny M A (do
  let ov <- attributeBase o name env (eval o env)
  standAt apos.atName
  methodCall o name apos pos env ov (es.length + 0) (backTo pos (starEach es env)) []) Q E s
 rw [Dn hb]
 refine Az (wpAny_mono h (fun ov s₁ h₁ => Az (wpAny_standAt ?_)) fun _ _ x => x)
 have hf : methodCallForm (es.length + 0) (backTo pos (starEach es env)) ([] : List (Option Str × Sem Value)) = true := by
  unfold methodCallForm
  rw [OO hes]
  simp; omega
 unfold methodCall
 rw [hf]
 unfold calleeOf
 refine Az (wpAny_holding ?_)
 simp only [if_true]
 refine wpAny_mono (h₁ _) (fun fx s₂ h₂ => ?_) fun _ _ x => x
 have hp : methodCallPos true o env apos pos = pure pos := by
  unfold methodCallPos
  rw [hl]; rfl
 rw [hp]
 exact Az (BW h₂)
theorem B5 {np : Pos} {nm : Str} {es : List PySem.Expr} (h : wpAny M A (eval (.Name nm np) env) (fun f s₁ => wpAny M A (callWith pos f [] (backTo pos (starEach es env)) []) Q E s₁) E s) : wpAny M A (eval (.Call (.Name nm np) es [] pos) env) Q E s :=
 wpAny_Call_ofName h
end
abbrev MC (U : Un) : B0 -> List V -> List Value -> Prop := DO U.sa
def Px (U : Un) (xc : Value) (C : Ef Fn) (A : Around) (X : Fx) (env : PySem.Env) (Γ : List Str) (ms : List (ME Fn)) (es : List PySem.Expr) : Prop :=
 ∀ pos ρ H s vs Q E, Bc U X ρ H s.heap -> EO U X ρ env Γ vs -> Ay (MC U) U xc X ρ (Ap C ms vs H) Q E s -> wpAny (model U.prog U.w) A (spliced (backTo pos (starEach es env))) Q E s
theorem KE : Px U xc C A X env Γ [] [] := by
 intro pos ρ H s vs Q E x eo hp
 rw [Ap] at hp
 exact wpAny_items_nil (hp ρ [] s.heap s.toks (B8 _) x trivial)
theorem Jl {m : ME Fn} {ms : List (ME Fn)} {e : PySem.Expr} {es : List PySem.Expr} (hs : As e = true) (h : SE U xc C A X env Γ m e) (h2 : Px U xc C A X env Γ ms es) : Px U xc C A X env Γ (m :: ms) (e :: es) := by
 intro pos ρ H s vs Q E x eo hp
 rw [Ap] at hp
 refine spliced_more (h ρ H s vs _ E x eo (hp.bnd (rel1 := AP U) fun v H1 ρ1 v' h1 BT _ l1 x1 r1 AR => ?_)) (AX hs)
 refine h2 pos ρ1 H1 _ vs _ E x1 (eo.mono l1) (AR.bnd (rel1 := MC U) fun k H2 ρ2 k' h2 tk2 _ l2 x2 r2 B9 => ?_)
 exact B9 ρ2 (v' :: k') h2 tk2 (B8 _) x2 ⟨r1.mono l2, r2⟩
theorem RJ (gf : GF U X.G) {ms : List (ME Fn)} {es : List PySem.Expr} {pos : Pos} (h : Px U xc C A X env Γ ms es) : SE U xc C A X env Γ (.lst ms) (.List es pos) := by
 intro ρ H s vs Q E x eo hp
 rw [Aa] at hp
 refine List_ (h pos ρ H s vs _ E x eo (hp.bnd (rel1 := MC U) fun v H1 ρ1 v' h1 BT _ l1 x1 r1 AR => ?_))
 by_cases hl : v.length <= Bz
 .rw [if_pos hl] at AR
  exact Qp gf x1 r1 hl AR
 .rw [if_neg hl] at AR; exact AR.elim
theorem RA (gf : GF U X.G) {ms : List (ME Fn)} {es : List PySem.Expr} {k : Nat} {pos : Pos} (h : Px U xc C A X env Γ ms es) : SE U xc C A X env Γ (.tup ms) (.Tuple es k pos) := by
 intro ρ H s vs Q E x eo hp
 rw [Aa] at hp
 refine Tuple_ (h pos ρ H s vs _ E x eo (hp.bnd (rel1 := MC U) fun v H1 ρ1 v' h1 BT _ l1 x1 r1 AR => ?_))
 by_cases hl : v.length <= Bz
 .rw [if_pos hl] at AR
  exact Qm gf x1 r1 hl AR
 .rw [if_neg hl] at AR; exact AR.elim
theorem PE (gf : GF U X.G) {pos : Pos} : SE U xc C A X env Γ .dct0 (.Dict [] [] pos) := by
 intro ρ H s vs Q E x eo hp
 rw [Aa] at hp
 exact O2 gf x hp
theorem Pj (gf : GF U X.G) {pos : Pos} : SE U xc C A X env Γ .dct0I (.Dict [] [] pos) := by
 intro ρ H s vs Q E x eo hp
 rw [Aa] at hp
 exact N6 gf x hp
theorem CT {α β : Type} {rel : B0 -> α -> β -> Prop} {Q : β -> Shared -> Prop} {v : V} {c : An} {f : Unit -> M α} (hp : Ay rel U xc X ρ (bnd (stays v c) f H) Q E s) : ∃ i, v = .ref i /\ H[i]? = some c /\ Ay rel U xc X ρ (f () H) Q E s := by
 unfold bnd stays bnd AJ at hp
 cases v <;> first | exact hp.elim | skip
 rename_i i
 dsimp only at hp
 cases e : H[i]? with
 | none => rw [e] at hp; exact hp.elim
 | some c' =>
  rw [e] at hp
  dsimp only at hp
  by_cases q : c' = c
  .rw [if_pos q] at hp
   exact ⟨i, rfl, by rw [e, q], hp⟩
  .rw [if_neg q] at hp; exact hp.elim
theorem Qs (gf : GF U X.G) {k : Nat} {m : ME Fn} {e : PySem.Expr} {j : Nat} {p pos : Pos} (h : SE U xc C A X env Γ m e) : SE U xc C A X env Γ (.dct1 k m) (.Dict [some (.Constant (.str (wd k)) j p)] [e] pos) := by
 intro ρ H s vs Q E x eo hp
 rw [Aa] at hp
 refine wpAny_Dict_pairs (knd := PySem.strKind U.prog U.w) (pairs := [(eval (.Constant (.str (wd k)) j p) env, do let x <- eval e env; standAt pos; pure x)]) rfl (by simp) (by simp) ?_
 obtain ⟨l, N, _, _, kk⟩ := FS.made (xc := xc) (E := E) (Q := fun v s₁ => v = .ref s.heap.objs.size -> wpAny (model U.prog U.w) A (evalPairs [(eval (.Constant (.str (wd k)) j p) env, do let x <- eval e env; standAt pos; pure x)]) (fun vs s₁ => ∃ kvs, Carries (PySem.strKind U.prog U.w) vs kvs /\ s₁.heap.DictOf (PySem.strKind U.prog U.w) s.heap.objs.size [] /\
   ∀ h', h'.DictOf (PySem.strKind U.prog U.w) s.heap.objs.size (merged [] kvs) -> Heap.SameBut s.heap.objs.size s₁.heap h' -> Q (.ref s.heap.objs.size) { s₁ with heap := h', toks := s₁.toks + vs.length }) E s₁) gf x
 refine kk (o := { cls := .type "dict", data := .dict #[] }) (tk := s.toks) (hp.bnd (rel1 := AP U) fun d H1 ρ1 d' h1 BT ha l1 x1 r1 AR => ?_) (x.fr.push _) (N.push x.fr _) ?_ rfl
 .rintro rfl
  refine evalPairs_cons (wpAny_Constant_str ?_)
  refine Az (h ρ1 H1 _ vs _ E x1 (eo.mono l1) (AR.bnd (rel1 := AP U) fun v H2 ρ2 v' h2 tk2 _ l2 x2 r2 B9 => ?_))
  refine Az (wpAny_standAt (BW (evalPairs_nil ?_)))
  obtain ⟨i, rfl, hc, hp3⟩ := CT B9
  obtain ⟨a, o, news, g, e1, lo, ⟨o₂, es, e2, hd, vd⟩, N2, hm, up, back⟩ := FS.oneCell (s := { s with heap := h2, toks := tk2 }) x2 hc (fun _ _ => by simp)
  cases e2
  have hes : es = [] := by cases es with | nil => rfl | cons _ _ => exact vd.elim
  subst hes
  obtain ⟨pp, e3, e4⟩ := r1
  have e5 : ρ2[i]? = some pp := DJ l2 e3
  rw [e1] at e5
  cases e5
  have e6 : s.heap.objs.size = a.1 := Value.ref.inj e4
  obtain ⟨pre, post, rfl, hg, a1, b1⟩ := up.split
  have hmem := N2 (a.1, o) (DK _ (.head _))
  refine ⟨[(wd k, v')], ⟨strKind_is _ _ _ _, rfl, trivial⟩, by rw [e6]; exact Heap.dictOf_iff.mpr ⟨o, hmem.1, hd⟩, fun h' hD hs => ?_⟩
  rw [e6] at hD hs ⊢
  obtain ⟨o', ho', hd'⟩ := Heap.dictOf_iff.mp hD
  refine hp3 ρ2 (.ref a.1) h' _ (B8 _) (back (.dictW [(k, v)]) o' h' ⟨o', [(wd k, v')], rfl, hd', rfl, r2, trivial⟩ (x2.fr.change hs hmem.2.1 hmem.2.2) (hg o' ▸ N2.setIn a1 b1 hs ho')) ⟨a, e1, rfl⟩
 .refine ⟨_, [], rfl, ?_, trivial⟩
  obtain ⟨o, ho, hd⟩ := Heap.dictOf_iff.mp (Heap.DictOf.new (knd := PySem.strKind U.prog U.w) s.heap)
  rw [Heap.get?_push_size _ rfl] at ho
  cases ho
  exact hd
def EV : List String := ["len", "isinstance", "max", "range", "list", "dict", "str", "int"]
def Hq : Pv -> String
 | .null => "Null" | .vector => "Vector"
structure UB (U : Un) : Prop where
 blt : ∀ nm, nm ∈ EV -> nsIn U.K mainGlobals (Str.ofString nm) = some none
 cls : ∀ c, nsIn U.K mainGlobals (Str.ofString (Hq c)) = some (some (.ref (U.cls c)))
abbrev Rx (f : Value) : Prop := ∀ (M : Model) (h : Heap), True -> ∃ k, (k = Keeper.frame \/ k = Keeper.machine \/ k = Keeper.boundFrame) /\ Looks M h (keeperOf f) k
theorem Hn (ek : AZ X Ac env ns) (gf : GF U X.G) (ub : UB U) {nm : String} (hm : nm ∈ EV) {f : Value} (hn : D3 ns (Str.ofString nm) = true) (hv : bootBuiltins (Str.ofString nm) = some f) (hn' : Str.ofString nm ≠ "__name__") (kp : Rx f)
  {m mm : ME Fn} {e : PySem.Expr} (hs : As e = true) {op : V -> M V} (he : ∀ vs, Aa C mm vs = bnd (Aa C m vs) op) (h : SE U xc C A X env Γ m e)
  (hop : ∀ ρ H s v v' Q E, Bc U X ρ H s.heap -> AP U ρ v v' -> Ay (AP U) U xc X ρ (op v H) Q E s -> wpAny (model U.prog U.w) A (call f [v']) Q E s) :
  SE U xc C A X env Γ mm (.Call (.Name (Str.ofString nm) np) [e] [] pos) := by
 intro ρ H s vs Q E x eo hp
 rw [he] at hp
 refine B5 (Cg ek gf x hn (ub.blt nm hm) hv hn' ?_)
 refine AF (P := fun _ => True) (by simp [hs]) (kp _) ?_
 refine Jl hs h KE pos ρ H _ vs _ E x eo ?_
 show Ay (MC U) U xc X ρ (Ap C [m] vs H) _ E s
 rw [Ap, Ap]
 unfold Ay at hp ⊢
 simp only [bnd] at hp ⊢
 cases q : Aa C m vs H with
 | ok v H1 =>
  rw [q] at hp
  dsimp only at hp ⊢
  intro ρ1 l h1 BT l1 x1 r1
  obtain ⟨y, rfl⟩ : ∃ y, l = [y] := by
   cases l with
   | nil => exact r1.elim
   | cons y r => cases r with | nil => exact ⟨y, rfl⟩ | cons _ _ => exact r1.2.elim
  refine ⟨trivial, hop ρ1 H1 { s with heap := h1, toks := BT } v y Q E x1 r1.1 ?_⟩
  unfold Ay
  cases q2 : op v H1 with
  | ok a H2 => rw [q2] at hp; exact fun ρ' v' h' C3 l' => hp ρ' v' h' C3 (l1.trans l')
  | exc e H2 => rw [q2] at hp; exact fun ρ' v' h' C3 l' => hp ρ' v' h' C3 (l1.trans l')
  | bad => rw [q2] at hp; exact hp
 | exc e H1 => rw [q] at hp; exact hp
 | bad => rw [q] at hp; exact hp
theorem QF {m1 m2 : ME Fn} {e1 e2 : PySem.Expr} {op : V -> V -> M V} (s1 : As e1 = true) (s2 : As e2 = true) (h1 : SE U xc C A X env Γ m1 e1) (h2 : SE U xc C A X env Γ m2 e2) {f : Value} {first : List Value}
  (x : Bc U X ρ H s.heap) (eo : EO U X ρ env Γ vs) (hp : Ay (AP U) U xc X ρ (bnd (Aa C m1 vs) (fun x => bnd (Aa C m2 vs) fun y => op x y) H) Q E s)
  (hop : ∀ ρ' H s v1 v2 v1' v2' Q E, ρ <+: ρ' -> Bc U X ρ' H s.heap -> AP U ρ' v1 v1' -> AP U ρ' v2 v2' -> Ay (AP U) U xc X ρ' (op v1 v2 H) Q E s -> wpAny (model U.prog U.w) A (call f (first ++ [v1', v2'])) Q E s) :
  wpAny (model U.prog U.w) A (spliced (backTo pos (starEach [e1, e2] env))) (fun vs s₁ => True /\ wpAny (model U.prog U.w) A (call f (first ++ vs)) Q E s₁) E s := by
 refine spliced_more (h1 ρ H s vs _ E x eo (hp.bnd (rel1 := AP U) fun v H1 ρ1 v' h1 BT _ l1 x1 r1 AR => ?_)) (AX s1)
 refine spliced_more (h2 ρ1 H1 _ vs _ E x1 (eo.mono l1) (AR.bnd (rel1 := AP U) fun w H2 ρ2 w' h2 tk2 _ l2 x2 r2 B9 => ?_)) (AX s2)
 exact wpAny_items_nil ⟨trivial, hop ρ2 H2 _ v w v' w' Q E (l1.trans l2) x2 (r1.mono l2) r2 B9⟩
theorem Na {m1 : ME Fn} {e1 : PySem.Expr} {op : V -> M V} (s1 : As e1 = true) (h1 : SE U xc C A X env Γ m1 e1) {f : Value} {first : List Value}
  (x : Bc U X ρ H s.heap) (eo : EO U X ρ env Γ vs) (hp : Ay (AP U) U xc X ρ (bnd (Aa C m1 vs) op H) Q E s)
  (hop : ∀ ρ' H s v1 v1' Q E, ρ <+: ρ' -> Bc U X ρ' H s.heap -> AP U ρ' v1 v1' -> Ay (AP U) U xc X ρ' (op v1 H) Q E s -> wpAny (model U.prog U.w) A (call f (first ++ [v1'])) Q E s) :
  wpAny (model U.prog U.w) A (spliced (backTo pos (starEach [e1] env))) (fun vs s₁ => True /\ wpAny (model U.prog U.w) A (call f (first ++ vs)) Q E s₁) E s := by
 refine spliced_more (h1 ρ H s vs _ E x eo (hp.bnd (rel1 := AP U) fun v H1 ρ1 v' h1 BT _ l1 x1 r1 AR => ?_)) (AX s1)
 exact wpAny_items_nil ⟨trivial, hop ρ1 H1 _ v v' Q E l1 x1 r1 AR⟩
theorem Dj {nm : String} (hm : nm ∈ EV) : Str.ofString nm ≠ "__name__" := by
 simp only [EV, List.mem_cons, List.not_mem_nil, or_false] at hm
 rcases hm with rfl | rfl | rfl | rfl | rfl | rfl | rfl | rfl <;> decide
theorem Rb (ek : AZ X Ac env ns) (gf : GF U X.G) (ub : UB U) (hn : D3 ns "len" = true) {m : ME Fn} {e : PySem.Expr} (hs : As e = true) (h : SE U xc C A X env Γ m e) :
  SE U xc C A X env Γ (.len m) (.Call (.Name "len" np) [e] [] pos) :=
 Hn ek gf ub (nm := "len") (by decide) hn rfl (Dj (by decide)) (fun _ => CW) hs (op := MA) (fun vs => by rw [Aa]) h (fun ρ H s v v' Q E x hv hp => PF x hv hp)
theorem NI (ek : AZ X Ac env ns) (gf : GF U X.G) (ub : UB U) (hn : D3 ns "list" = true) {m : ME Fn} {e : PySem.Expr} (hs : As e = true) (h : SE U xc C A X env Γ m e) :
  SE U xc C A X env Γ (.listOf m) (.Call (.Name "list" np) [e] [] pos) :=
 Hn ek gf ub (nm := "list") (by decide) hn rfl (Dj (by decide)) (fun _ => D1) hs (op := LJ) (fun vs => by rw [Aa]) h (fun ρ H s v v' Q E x hv hp => MO gf x hv hp)
theorem NJ (ek : AZ X Ac env ns) (gf : GF U X.G) (ub : UB U) (hn : D3 ns "dict" = true) {m : ME Fn} {e : PySem.Expr} (hs : As e = true) (h : SE U xc C A X env Γ m e) :
  SE U xc C A X env Γ (.dictOf m) (.Call (.Name "dict" np) [e] [] pos) :=
 Hn ek gf ub (nm := "dict") (by decide) hn rfl (Dj (by decide)) (fun _ => D1) hs (op := IN) (fun vs => by rw [Aa]) h (fun ρ H s v v' Q E x hv hp => L8 gf x hv hp)
theorem Ow (ek : AZ X Ac env ns) (gf : GF U X.G) (ub : UB U) (hn : D3 ns "str" = true) {m : ME Fn} {e : PySem.Expr} (hs : As e = true) (h : SE U xc C A X env Γ m e) :
  SE U xc C A X env Γ (.strOf m) (.Call (.Name "str" np) [e] [] pos) :=
 Hn ek gf ub (nm := "str") (by decide) hn rfl (Dj (by decide)) (fun _ => D1) hs (op := OS) (fun vs => by rw [Aa]) h (fun ρ H s v v' Q E x hv hp => P0 x hv hp)
theorem Qi (cx : Cx U A X Ac n) (ek : AZ X Ac env ns) (ub : UB U) (hn : D3 ns "max" = true) {m1 m2 : ME Fn} {e1 e2 : PySem.Expr} (s1 : As e1 = true) (s2 : As e2 = true) (h1 : SE U xc C A X env Γ m1 e1) (h2 : SE U xc C A X env Γ m2 e2) :
  SE U xc C A X env Γ (.max2 m1 m2) (.Call (.Name "max" np) [e1, e2] [] pos) := by
 intro ρ H s vs Q E x eo hp
 rw [Aa] at hp
 refine B5 (Cg ek cx.gf x hn (ub.blt "max" (by decide)) rfl (Dj (nm := "max") (by decide)) ?_)
 refine AF (P := fun _ => True) (by simp [s1, s2]) CW ?_
 exact QF s1 s2 h1 h2 (first := []) x eo hp fun ρ' H s v1 v2 v1' v2' Q E _ x r1 r2 hp => PG cx x r1 r2 hp
theorem Ic {nm : Str} {v : Value} {m : ME Fn} {e : PySem.Expr} {op : V -> M V} {p2 : Pos} (s1 : As e = true) (h1 : SE U xc C A X env Γ m e)
  (x : Bc U X ρ H s.heap) (eo : EO U X ρ env Γ vs) (hp : Ay (AP U) U xc X ρ (bnd (Aa C m vs) op H) Q E s)
  (h2 : ∀ ρ' H s Q, Bc U X ρ' H s.heap -> Q v s -> wpAny (model U.prog U.w) A (eval (.Name nm p2) env) Q E s)
  (hop : ∀ ρ' H s v1 v1' Q, Bc U X ρ' H s.heap -> AP U ρ' v1 v1' -> Ay (AP U) U xc X ρ' (op v1 H) Q E s -> wpAny (model U.prog U.w) A (call (.builtin "isinstance") [v1', v]) Q E s) :
  wpAny (model U.prog U.w) A (spliced (backTo pos (starEach [e, .Name nm p2] env))) (fun vs s₁ => True /\ wpAny (model U.prog U.w) A (call (.builtin "isinstance") ([] ++ vs)) Q E s₁) E s := by
 refine spliced_more (h1 ρ H s vs _ E x eo (hp.bnd (rel1 := AP U) fun v H1 ρ1 v' h1 BT _ l1 x1 r1 AR => ?_)) (AX s1)
 refine spliced_more (h2 ρ1 H1 _ _ x1 ?_) (AX rfl)
 exact wpAny_items_nil ⟨trivial, hop ρ1 H1 _ v v' Q x1 r1 AR⟩
theorem Rv (gf : GF U X.G) (ek : AZ X Ac env ns) (ub : UB U) (hn : D3 ns "isinstance" = true) (hn2 : D3 ns "Vector" = true) {m : ME Fn} {e : PySem.Expr} {p2 : Pos} (hs : As e = true) (h : SE U xc C A X env Γ m e) :
  SE U xc C A X env Γ (.isV m) (.Call (.Name "isinstance" np) [e, .Name "Vector" p2] [] pos) := by
 intro ρ H s vs Q E x eo hp
 rw [Aa] at hp
 refine B5 (Cg ek gf x hn (ub.blt "isinstance" (by decide)) rfl (Dj (nm := "isinstance") (by decide)) ?_)
 refine AF (P := fun _ => True) (by rw [List.all_cons, hs]; rfl) CW ?_
 exact Ic hs h x eo hp (fun ρ' H s Q x hq => DU ek gf x hn2 (ub.cls .vector) hq) fun ρ' H s v1 v1' Q x r hp => PP x gf r hp
theorem QZ (uf : UF U) (ug : UG U) (gf : GF U X.G) (ek : AZ X Ac env ns) (ub : UB U) {t : Ty} (hn : D3 ns "isinstance" = true) (hn2 : D3 ns (Str.ofString (IU t)) = true) {m : ME Fn} {e : PySem.Expr} {p2 : Pos} (hs : As e = true) (h : SE U xc C A X env Γ m e) :
  SE U xc C A X env Γ (.isT m t) (.Call (.Name "isinstance" np) [e, .Name (Str.ofString (IU t)) p2] [] pos) := by
 intro ρ H s vs Q E x eo hp
 rw [Aa] at hp
 refine B5 (Cg ek gf x hn (ub.blt "isinstance" (by decide)) rfl (Dj (nm := "isinstance") (by decide)) ?_)
 refine AF (P := fun _ => True) (by rw [List.all_cons, hs]; rfl) CW ?_
 refine Ic (v := .type (IU t)) hs h x eo hp (fun ρ' H s Q x hq => ?_) fun ρ' H s v1 v1' Q x r hp => P6 ug x uf gf r hp
 cases t
 .exact Cg ek gf x hn2 (ub.blt "str" (by decide)) rfl (Dj (nm := "str") (by decide)) hq
 .exact Cg ek gf x hn2 (ub.blt "int" (by decide)) rfl (Dj (nm := "int") (by decide)) hq
 .exact Cg ek gf x hn2 (ub.blt "list" (by decide)) rfl (Dj (nm := "list") (by decide)) hq
theorem PJ {α β : Type} {rel : B0 -> α -> β -> Prop} {Q : β -> Shared -> Prop} {v : V} {f : Unit -> M α} (hp : Ay rel U xc X ρ (bnd (LY v) f H) Q E s) : ∃ i xs, v = .ref i /\ H[i]? = some (.list xs) /\ Ay rel U xc X ρ (f () H) Q E s := by
 unfold bnd LY bnd AJ at hp
 cases v <;> first | exact hp.elim | skip
 rename_i i
 dsimp only at hp
 cases e : H[i]? with
 | none => rw [e] at hp; exact hp.elim
 | some c' =>
  rw [e] at hp
  cases c' <;> first | exact hp.elim | exact ⟨i, _, rfl, by rw [e], hp⟩
theorem Nk {α β : Type} {rel : B0 -> α -> β -> Prop} {Q : β -> Shared -> Prop} {v : V} {f : Unit -> M α} (hp : Ay rel U xc X ρ (bnd (N9 v) f H) Q E s) : ∃ i xs, v = .ref i /\ H[i]? = some (.dictW xs) /\ Ay rel U xc X ρ (f () H) Q E s := by
 unfold bnd N9 bnd AJ at hp
 cases v <;> first | exact hp.elim | skip
 rename_i i
 dsimp only at hp
 cases e : H[i]? with
 | none => rw [e] at hp; exact hp.elim
 | some c' =>
  rw [e] at hp
  cases c' <;> first | exact hp.elim | exact ⟨i, _, rfl, by rw [e], hp⟩
theorem PK {α β : Type} {rel : B0 -> α -> β -> Prop} {Q : β -> Shared -> Prop} {v : V} {f : Bool -> M α} (hp : Ay rel U xc X ρ (bnd (P7 v) f H) Q E s) : ∃ i t xs, v = .ref i /\ H[i]? = some (if t then .tup xs else .list xs) /\ Ay rel U xc X ρ (f t H) Q E s := by
 unfold bnd P7 bnd AJ at hp
 cases v <;> first | exact hp.elim | skip
 rename_i i
 dsimp only at hp
 cases e : H[i]? with
 | none => rw [e] at hp; exact hp.elim
 | some c' =>
  rw [e] at hp
  cases c' <;> first | exact hp.elim | skip
  .exact ⟨i, false, _, rfl, by rw [e]; rfl, hp⟩
  .exact ⟨i, true, _, rfl, by rw [e]; rfl, hp⟩
theorem Ql {α β : Type} {rel : B0 -> α -> β -> Prop} {Q : β -> Shared -> Prop} {v : V} {f : Unit -> M α} (hp : Ay rel U xc X ρ (bnd (JH v) f H) Q E s) : ∃ i, v = .w i /\ Ay rel U xc X ρ (f () H) Q E s := by
 unfold bnd JH at hp
 cases v <;> first | exact hp.elim | exact ⟨_, rfl, hp⟩
theorem IQ (x : Bc U X ρ H s.heap) {i : Nat} {xs : List V} {v' : Value} (hc : H[i]? = some (.list xs)) (hv : AP U ρ (.ref i) v') {name : Str} {id : String} (slot : Slot "list" name id) (hty : typeOf (.builtin id) = pure (.type "method_descriptor")) {pl : Sem Bool} {Q : Value × List Value -> Shared -> Prop}
  (h : Q (.builtin id, [v']) s) : wpAny (model U.prog U.w) A (getMethod v' name pl) Q E s := by
 obtain ⟨a, vs, n, news, e1, Ed, N, hm, _⟩ := FS.listCell x hc
 obtain ⟨p, ep, rfl⟩ := hv
 rw [e1] at ep; cases ep
 exact kl_method N hm slot hty h
theorem LN (x : Bc U X ρ H s.heap) {i : Nat} {xs : List (Nat × V)} {v' : Value} (hc : H[i]? = some (.dictW xs)) (hv : AP U ρ (.ref i) v') {pl : Sem Bool} {Q : Value × List Value -> Shared -> Prop}
  (h : Q (.builtin "dict.get", [v']) s) : wpAny (model U.prog U.w) A (getMethod v' "get" pl) Q E s := by
 obtain ⟨a, o, news, g, e1, lo, ⟨o₂, es, e2, hd, vd⟩, N, hm, up, back⟩ := FS.oneCell x hc (fun _ _ => by simp)
 cases e2
 obtain ⟨p, ep, rfl⟩ := hv
 rw [e1] at ep; cases ep
 exact kdg_method (knd := PySem.strKind U.prog U.w) N hm hd h
theorem LQ (op : V -> V -> M V) {name : Str} {id : String} (slot : Slot "list" name id) (hty : typeOf (.builtin id) = pure (.type "method_descriptor"))
  {m1 m2 mm : ME Fn} {o e : PySem.Expr} (hb : AY o = true) (hl : (apos.endLine == pos.line) = true) (s2 : As e = true) (he : ∀ vs, Aa C mm vs = bnd (Aa C m1 vs) fun x => bnd (LY x) fun _ => bnd (Aa C m2 vs) fun y => op x y)
  (h1 : SE U xc C A X env Γ m1 o) (h2 : SE U xc C A X env Γ m2 e)
  (hop : ∀ ρ' H s v1 v2 v1' v2' Q E, Bc U X ρ' H s.heap -> AP U ρ' v1 v1' -> AP U ρ' v2 v2' -> Ay (AP U) U xc X ρ' (op v1 v2 H) Q E s -> wpAny (model U.prog U.w) A (call (.builtin id) [v1', v2']) Q E s) :
  SE U xc C A X env Γ mm (.Call (.Attribute o name apos) [e] [] pos) := by
 intro ρ H s vs Q E x eo hp
 rw [he] at hp
 refine Da hb (by simp [s2]) (by simp) hl ?_
 refine h1 ρ H s vs _ E x eo (hp.bnd (rel1 := AP U) fun v H1 ρ1 v' h1 BT _ l1 x1 r1 AR => ?_)
 intro pl
 obtain ⟨i, xs, rfl, hc, B9⟩ := PJ AR
 refine IQ (s := { s with heap := h1, toks := BT }) x1 hc r1 slot hty ?_
 refine AF (P := fun _ => True) (by simp [s2]) CW ?_
 exact Na s2 h2 (first := [v']) x1 (eo.mono l1) B9 fun ρ' H s v2 v2' Q E l x r2 hp => hop ρ' H s _ v2 v' v2' Q E x (r1.mono l) r2 hp
theorem K4 (op : V -> M V) {name : Str} {id : String} (slot : Slot "list" name id) (hty : typeOf (.builtin id) = pure (.type "method_descriptor"))
  {m1 mm : ME Fn} {o : PySem.Expr} (hb : AY o = true) (hl : (apos.endLine == pos.line) = true) (he : ∀ vs, Aa C mm vs = bnd (Aa C m1 vs) op) (hlist : ∀ v H, (∀ i xs, v = .ref i -> H[i]? ≠ some (.list xs)) -> op v H = .bad)
  (h1 : SE U xc C A X env Γ m1 o)
  (hop : ∀ ρ' H s v1 v1' Q E, Bc U X ρ' H s.heap -> AP U ρ' v1 v1' -> Ay (AP U) U xc X ρ' (op v1 H) Q E s -> wpAny (model U.prog U.w) A (call (.builtin id) [v1']) Q E s) :
  SE U xc C A X env Γ mm (.Call (.Attribute o name apos) [] [] pos) := by
 intro ρ H s vs Q E x eo hp
 rw [he] at hp
 refine Da hb rfl (by simp) hl ?_
 refine h1 ρ H s vs _ E x eo (hp.bnd (rel1 := AP U) fun v H1 ρ1 v' h1 BT _ l1 x1 r1 AR => ?_)
 intro pl
 by_cases q : ∃ i xs, v = .ref i /\ H1[i]? = some (.list xs)
 .obtain ⟨i, xs, rfl, hc⟩ := q
  refine IQ (s := { s with heap := h1, toks := BT }) x1 hc r1 slot hty ?_
  refine AF (P := fun _ => True) rfl CW ?_
  exact wpAny_items_nil ⟨trivial, hop ρ1 H1 _ _ v' Q E x1 r1 AR⟩
 .rw [hlist v H1 fun i xs e e2 => q ⟨i, xs, e, e2⟩] at AR
  exact AR.elim
theorem Ob {m1 m2 : ME Fn} {o e : PySem.Expr} (hb : AY o = true) (hl : (apos.endLine == pos.line) = true) (s2 : As e = true) (h1 : SE U xc C A X env Γ m1 o) (h2 : SE U xc C A X env Γ m2 e) :
  SE U xc C A X env Γ (.append m1 m2) (.Call (.Attribute o "append" apos) [e] [] pos) :=
 LQ E3 slot_list_append (by first | exact PySem.F.type_list_append | exact type_list_append) hb hl s2 (fun vs => by rw [Aa]) h1 h2 fun ρ' H s v1 v2 v1' v2' Q E x r1 r2 hp => Ma x r1 r2 hp
theorem NM {m1 m2 : ME Fn} {o e : PySem.Expr} (hb : AY o = true) (hl : (apos.endLine == pos.line) = true) (s2 : As e = true) (h1 : SE U xc C A X env Γ m1 o) (h2 : SE U xc C A X env Γ m2 e) :
  SE U xc C A X env Γ (.extend m1 m2) (.Call (.Attribute o "extend" apos) [e] [] pos) :=
 LQ Ds PySem.F.slot_list_extend PySem.F.type_list_extend hb hl s2 (fun vs => by rw [Aa]) h1 h2 fun ρ' H s v1 v2 v1' v2' Q E x r1 r2 hp => Mq x r1 r2 hp
theorem Ro {m1 : ME Fn} {o : PySem.Expr} (hb : AY o = true) (hl : (apos.endLine == pos.line) = true) (h1 : SE U xc C A X env Γ m1 o) :
  SE U xc C A X env Γ (.pop m1) (.Call (.Attribute o "pop" apos) [] [] pos) :=
 K4 MB PySem.F.slot_list_pop PySem.F.type_list_pop hb hl (fun vs => by rw [Aa]) (fun v H hn => by
  unfold MB bnd AJ
  cases v <;> first | rfl | skip
  rename_i i
  dsimp only
  cases e : H[i]? with
  | none => rfl
  | some c => cases c <;> first | rfl | exact absurd e (hn i _ rfl)) h1 fun ρ' H s v1 v1' Q E x r1 hp => PD x r1 hp
theorem L5 {m1 : ME Fn} {o : PySem.Expr} (hb : AY o = true) (hl : (apos.endLine == pos.line) = true) (h1 : SE U xc C A X env Γ m1 o) :
  SE U xc C A X env Γ (.reverse m1) (.Call (.Attribute o "reverse" apos) [] [] pos) :=
 K4 EU PySem.F.slot_list_reverse PySem.F.type_list_reverse hb hl (fun vs => by rw [Aa]) (fun v H hn => by
  unfold EU bnd AJ
  cases v <;> first | rfl | skip
  rename_i i
  dsimp only
  cases e : H[i]? with
  | none => rfl
  | some c => cases c <;> first | rfl | exact absurd e (hn i _ rfl)) h1 fun ρ' H s v1 v1' Q E x r1 hp => Lq x r1 hp
theorem OF {m1 m2 : ME Fn} {o e : PySem.Expr} (hb : AY o = true) (hl : (apos.endLine == pos.line) = true) (s2 : As e = true) (h1 : SE U xc C A X env Γ m1 o) (h2 : SE U xc C A X env Γ m2 e) :
  SE U xc C A X env Γ (.index m1 m2) (.Call (.Attribute o "index" apos) [e] [] pos) := by
 intro ρ H s vs Q E x eo hp
 rw [Aa] at hp
 refine Da hb (by simp [s2]) (by simp) hl ?_
 refine h1 ρ H s vs _ E x eo (hp.bnd (rel1 := AP U) fun v H1 ρ1 v' h1 BT _ l1 x1 r1 AR => ?_)
 intro pl
 obtain ⟨i, t, xs, rfl, hc, B9⟩ := PK AR
 have go : wpAny (model U.prog U.w) A (callWith pos (.builtin (if t then "tuple.index" else "list.index")) [v'] (backTo pos (starEach [e] env)) []) Q E { s with heap := h1, toks := BT } := by
  refine AF (P := fun _ => True) (by simp [s2]) CW ?_
  exact Na s2 h2 (first := [v']) x1 (eo.mono l1) B9 fun ρ' H s v2 v2' Q E l x r2 hp => NV x (r1.mono l) r2 hp
 cases t with
 | false => exact IQ (s := { s with heap := h1, toks := BT }) x1 hc r1 PySem.F.slot_list_index PySem.F.type_list_index go
 | true =>
  obtain ⟨a, o, news, g, e1, lo, ⟨ws, e2, hws⟩, N, hm, up, back⟩ := FS.oneCell (s := { s with heap := h1, toks := BT }) x1 hc (fun _ _ => by simp)
  cases e2
  obtain ⟨p, ep, rfl⟩ := r1
  rw [e1] at ep; cases ep
  exact getMethod_builtin ⟨_, (N _ hm).1, rfl⟩ PySem.F.plainAttrs_tuple PySem.F.slot_tuple_index PySem.F.type_tuple_index (fun a e => by cases e; exact ⟨_, (N _ hm).1, rfl⟩) go
theorem PL {m1 m2 : ME Fn} {o e : PySem.Expr} (hb : AY o = true) (hl : (apos.endLine == pos.line) = true) (s2 : As e = true) (h1 : SE U xc C A X env Γ m1 o) (h2 : SE U xc C A X env Γ m2 e) :
  SE U xc C A X env Γ (.get1 m1 m2) (.Call (.Attribute o "get" apos) [e] [] pos) := by
 intro ρ H s vs Q E x eo hp
 rw [Aa] at hp
 refine Da hb (by simp [s2]) (by simp) hl ?_
 refine h1 ρ H s vs _ E x eo (hp.bnd (rel1 := AP U) fun v H1 ρ1 v' h1 BT _ l1 x1 r1 AR => ?_)
 intro pl
 obtain ⟨i, xs, rfl, hc, B9⟩ := Nk AR
 refine LN (s := { s with heap := h1, toks := BT }) x1 hc r1 ?_
 refine AF (P := fun _ => True) (by simp [s2]) CW ?_
 exact Na s2 h2 (first := [v']) x1 (eo.mono l1) B9 fun ρ' H s v2 v2' Q E l x r2 hp => Oy x (r1.mono l) r2 hp
theorem Qd {m1 m2 m3 : ME Fn} {o e e3 : PySem.Expr} (hb : AY o = true) (hl : (apos.endLine == pos.line) = true) (s2 : As e = true) (s3 : As e3 = true) (h1 : SE U xc C A X env Γ m1 o) (h2 : SE U xc C A X env Γ m2 e) (h3 : SE U xc C A X env Γ m3 e3) :
  SE U xc C A X env Γ (.get2 m1 m2 m3) (.Call (.Attribute o "get" apos) [e, e3] [] pos) := by
 intro ρ H s vs Q E x eo hp
 rw [Aa] at hp
 refine Da hb (by simp [s2, s3]) (by simp) hl ?_
 refine h1 ρ H s vs _ E x eo (hp.bnd (rel1 := AP U) fun v H1 ρ1 v' h1 BT _ l1 x1 r1 AR => ?_)
 intro pl
 obtain ⟨i, xs, rfl, hc, B9⟩ := Nk AR
 refine LN (s := { s with heap := h1, toks := BT }) x1 hc r1 ?_
 refine AF (P := fun _ => True) (by simp [s2, s3]) CW ?_
 exact QF s2 s3 h2 h3 (first := [v']) x1 (eo.mono l1) B9 fun ρ' H s v2 v3 v2' v3' Q E l x r2 r3 hp => OW x (r1.mono l) r2 r3 hp
theorem N4 (ok : OK C.bg) {m1 m2 : ME Fn} {o e : PySem.Expr} (hb : AY o = true) (hl : (apos.endLine == pos.line) = true) (s2 : As e = true) (h1 : SE U xc C A X env Γ m1 o) (h2 : SE U xc C A X env Γ m2 e) :
  SE U xc C A X env Γ (.starts m1 m2) (.Call (.Attribute o "startswith" apos) [e] [] pos) := by
 intro ρ H s vs Q E x eo hp
 rw [Aa] at hp
 refine Da hb (by simp [s2]) (by simp) hl ?_
 refine h1 ρ H s vs _ E x eo (hp.bnd (rel1 := AP U) fun v H1 ρ1 v' h1 BT _ l1 x1 r1 AR => ?_)
 intro pl
 obtain ⟨i, rfl, B9⟩ := Ql AR
 obtain ⟨t, rfl⟩ := r1
 refine GM.startswith ?_
 refine AF (P := fun _ => True) (by simp [s2]) CW ?_
 exact Na s2 h2 (first := [.str (wd i) t]) x1 (eo.mono l1) B9 fun ρ' H s v2 v2' Q E l x r2 hp => MQ ok x (o := .w i) ⟨t, rfl⟩ r2 hp
theorem Kc {nm : Str} {p : Pos} : ∀ o r, letTemporaryGo (.Name nm p) o r = pure () := fun _ _ => rfl
theorem OZ (sc : C.Ab = U.Ab) (gf : GF U X.G) {m1 m2 : ME Fn} {nm : Str} {p1 p2 : Pos} {k : PySem.Expr} (h1 : SE U xc C A X env Γ m1 (.Name nm p1)) (h2 : SE U xc C A X env Γ m2 k) :
  SE U xc C A X env Γ (.cutTo m1 m2) (.Subscript (.Name nm p1) (.Slice none (some k) none p2) pos) := by
 intro ρ H s vs Q E x eo hp
 rw [Aa, sc] at hp
 refine wpAny_Subscript_list_slice (h1 ρ H s vs _ E x eo (hp.bnd (rel1 := AP U) fun v H1 ρ1 v' h1 BT _ l1 x1 r1 AR => ?_)) Kc
 refine BW ?_
 refine h2 ρ1 H1 _ vs _ E x1 (eo.mono l1) (AR.bnd (rel1 := AP U) fun w H2 ρ2 w' h2 tk2 _ l2 x2 r2 B9 => ?_)
 exact N0 (s := { s with heap := h2, toks := tk2 }) gf x2 (r1.mono l2) r2 B9
theorem L9 (gf : GF U X.G) {m1 m2 : ME Fn} {nm : Str} {p1 p2 : Pos} {k : PySem.Expr} (h1 : SE U xc C A X env Γ m1 (.Name nm p1)) (h2 : SE U xc C A X env Γ m2 k) :
  SE U xc C A X env Γ (.cutFrom m1 m2) (.Subscript (.Name nm p1) (.Slice (some k) none none p2) pos) := by
 intro ρ H s vs Q E x eo hp
 rw [Aa] at hp
 refine wpAny_Subscript_list_slice (h1 ρ H s vs _ E x eo (hp.bnd (rel1 := AP U) fun v H1 ρ1 v' h1 BT _ l1 x1 r1 AR => ?_)) Kc
 refine h2 ρ1 H1 _ vs _ E x1 (eo.mono l1) (AR.bnd (rel1 := AP U) fun w H2 ρ2 w' h2 tk2 _ l2 x2 r2 B9 => ?_)
 refine BW ?_
 exact K2 (s := { s with heap := h2, toks := tk2 }) gf x2 (r1.mono l2) r2 B9
def Oq (f : Fn) : Str := Str.ofString (RE f)
def Ky : Fn -> Bool
 | .CA | .BI | .A3 => true
 | _ => false
structure UC (U : Un) (fa : Fn -> Addr) : Prop where
 glo : ∀ f, Ky f = false -> nsIn U.K mainGlobals (Oq f) = some (some (.ref (fa f)))
 keep : ∀ f, keepIn U.K (.ref (fa f)) = true
theorem Kq (ws : List Nat) : Ap C (ws.map fun k => .cst (.w k)) vs H = .ok (ws.map .w) H := by
 induction ws with
 | nil => rw [List.map_nil, Ap]; rfl
 | cons k r ih =>
  rw [List.map_cons, Ap, Aa]
  simp only [bnd, ret, ih, List.map_cons]
theorem Kb (i : Nat) : ∀ ws : List Nat, (ws.map V.w).any (Fz i) = ws.contains i
 | [] => rfl
 | a :: r => by
  rw [List.map_cons, List.any_cons, Kb i r, List.contains_cons]
  congr 1
  by_cases h : a = i
  .subst h; simp [Fz]
  .have : i ≠ a := fun e => h e.symm
   simp [Fz, h, this]
theorem Q0 {neg : Bool} {m : ME Fn} {e : PySem.Expr} {ws : List Nat} {es : List PySem.Expr} {k : Nat} {p : Pos} (hws : ws.length <= 100) (h : SE U xc C A X env Γ m e) (h2 : Px U xc C A X env Γ (ws.map fun k => .cst (.w k)) es) :
  SE U xc C A X env Γ (.inW neg m ws) (.Compare e [if neg then .NotIn else .In] [.Tuple es k p] pos) := by
 intro ρ H s vs Q E x eo hp
 rw [Aa] at hp
 refine wpAny_Compare1 (h ρ H s vs _ E x eo (hp.bnd (rel1 := AP U) fun v H1 ρ1 v' h1 BT _ l1 x1 r1 AR => ?_)) (by cases neg <;> rfl)
 cases v <;> first | exact AR.elim | skip
 rename_i i _
 obtain ⟨t, rfl⟩ := r1
 refine Tuple_ (h2 p ρ1 H1 _ vs _ E x1 (eo.mono l1) ?_)
 rw [Kq]
 intro ρ2 vals h2 tk2 l2 x2 r2
 have go : ∀ s' : Shared, s' = { s with heap := h2.push (N1 vals), toks := tk2 } -> wpAny (model U.prog U.w) A (compareOp (if neg then .NotIn else .In) (.str (wd i) t) (.ref h2.objs.size)) Q E s' := by
  rintro s' rfl
  have il : (h2.push (N1 vals)).IsTuple h2.objs.size vals.toArray := ⟨_, Heap.get?_push_size _ rfl, rfl, _, rfl⟩
  have hw : (ws.map V.w).all wn = true := by simp [wn]
  obtain ⟨i1, i2⟩ := ET (k := i) (t := t) (A := A.in1) (s := { s with heap := h2.push (N1 vals), toks := tk2 }) r2 hw
  have e : vals.toArray.any (isStrOf (wd i)) = ws.contains i := by
   rw [List.any_toArray, any_map, i2, <- any_map, Kb]
  have x3 : Bc U X ρ2 H1 (h2.push (N1 vals)) := FS.keeps x2 fun b o e => DT _ e
  have fin : Q (.bool (xor neg (ws.contains i))) { s with heap := h2.push (N1 vals), toks := tk2 } := AR ρ2 _ _ tk2 l2 x3 rfl
  cases neg
  .refine in_tupleAt (isStrOf (wd i)) il (fun y hy => i1 y (by simpa using hy)) ?_
   rw [e]; simpa using fin
  .refine notIn_tupleAt (isStrOf (wd i)) il (fun y hy => i1 y (by simpa using hy)) ?_
   rw [e]; simpa using fin
 refine wpAny_newObj_type (go _ rfl) ?_
 show vals.toArray.size <= sizeLine
 rw [List.size_toArray, r2.length, List.length_map, sizeLine_eq]
 omega
def MZ : Fn -> Bool
 | .Bq => true
 | _ => false
def Hx (U : Un) (xc : Value) (fa : Fn -> Addr) (n : Nat) (cl : Fn -> List V -> M V) : Prop :=
 ∀ f A X Ac ρ H s vs vs' (R : Result -> Shared -> Prop), MZ f = false -> Cx U A X Ac n -> Bc U X ρ H s.heap -> DO U.sa ρ vs vs' -> Ay (AP U) U xc X ρ (cl f vs H) (fun v s' => R (.ok (.ret v)) s') (fun e s' => R (.error e) s') s ->
  codeAny (model U.prog U.w) A (.call (.ref (fa f)) ⟨vs', []⟩) R s
theorem PT (uc : UC U fa) (cx : Cx U A X Ac n) (ek : AZ X Ac env ns) (ok : Hx U xc fa n C.call) {f : Fn} {ms : List (ME Fn)} {es : List PySem.Expr} (hn : D3 ns (Oq f) = true) (hm : Ky f = false) (hf : MZ f = false) (hs : es.all As = true)
  (h : Px U xc C A X env Γ ms es) : SE U xc C A X env Γ (.call f ms) (.Call (.Name (Oq f) np) es [] pos) := by
 intro ρ H s vs Q E x eo hp
 rw [Aa] at hp
 refine B5 (DU ek cx.gf x hn (uc.glo f hm) ?_)
 refine AF (P := U.K.In) hs (fun h X => keeps_K (uc.keep f) h X) ?_
 refine h pos ρ H _ vs _ E x eo (hp.bnd (rel1 := MC U) fun v H1 ρ1 v' h1 BT _ l1 x1 r1 AR => ?_)
 exact ⟨cx.gf.K.keeps x1.fr.keep, wpAny_call (ok f A X Ac ρ1 H1 _ v v' _ hf cx x1 r1 AR)⟩
theorem Qv (k : Nat) : wd k ≠ "copy" := by
 by_cases h : k < 38
 .intro e
  have : ∀ k, k < 38 -> wd k ≠ "copy" := by decide +kernel
  exact this k h e
 .rw [IM k h]
  intro e
  have := congrArg PySem.Str.cps e
  have h2 : (PySem.Str.ofString "copy").cps = #[99, 111, 112, 121] := by decide +kernel
  rw [h2] at this
  have := congrArg Array.size this
  simp at this
theorem KZ.copy {sa : Addr} {ρ : B0} : ∀ {fs : List (Nat × V)} {es : List DictEntry}, KZ sa ρ fs es -> getL "copy" es = Option.some Option.none
 | [], [], _ => rfl
 | [], _ :: _, h => h.elim
 | _ :: _, [], h => h.elim
 | p :: r, e :: es, ⟨⟨t, hk⟩, hv, hr⟩ => by
  have ih := hr.copy
  unfold getL at ih ⊢
  rw [List.find?_cons, List.any_cons]
  have hs : e.key.isStr "copy" = false := by
   rw [hk]
   show (wd p.1 == _) = false
   exact beq_eq_false_iff_ne.mpr (Qv _)
  have hr : e.refKey = false := by simp [DictEntry.refKey, hk]
  rw [hs, hr]
  exact ih
structure UM (U : Un) (fa : Fn -> Addr) : Prop where
 copyG : plainGet U.K (U.cls .vector) "copy" = true
 copyF : findIn U.K (.ref (U.cls .vector)) "copy" = some (some (.ref (fa .A3)))
 isFn : ∀ f, isFn U.K (.ref (fa f)) = true
 makes : ∀ c, makesIn U.K (U.cls c) = true
 init : ∀ c, findIn U.K (.ref (U.cls c)) "__init__" = some (some (.ref (fa (initOf c))))
 high : 3 < U.cls .null /\ (U.K.lookup (U.cls .null)).isSome = true
 keepC : ∀ c, keepIn U.K (.ref (U.cls c)) = true
theorem Pc {α β : Type} {rel : B0 -> α -> β -> Prop} {Q : β -> Shared -> Prop} {v : V} {f : V -> M α} (hp : Ay rel U xc X ρ (bnd (FF v) f H) Q E s) : ∃ i fs b, v = .ref i /\ H[i]? = some (.inst .vector fs) /\ Ay rel U xc X ρ (f b H) Q E s := by
 unfold bnd FF bnd AJ at hp
 cases v <;> first | exact hp.elim | skip
 rename_i i
 dsimp only at hp
 cases e : H[i]? with
 | none => rw [e] at hp; exact hp.elim
 | some c' =>
  rw [e] at hp
  cases c' <;> first | exact hp.elim | skip
  rename_i k _
  cases k <;> first | exact hp.elim | exact ⟨i, _, _, rfl, by rw [e], hp⟩
theorem Qw (uc : UC U fa) (um : UM U fa) (cx : Cx U A X Ac n) (ok : Hx U xc fa n C.call) {m1 : ME Fn} {o : PySem.Expr} (hb : AY o = true) (hl : (apos.endLine == pos.line) = true) (h1 : SE U xc C A X env Γ m1 o) :
  SE U xc C A X env Γ (.mcall m1 .A3) (.Call (.Attribute o "copy" apos) [] [] pos) := by
 intro ρ H s vs Q E x eo hp
 rw [Aa] at hp
 refine Da hb rfl (by simp) hl ?_
 refine h1 ρ H s vs _ E x eo (hp.bnd (rel1 := AP U) fun v H1 ρ1 v' h1 BT _ l1 x1 r1 AR => ?_)
 intro pl
 obtain ⟨i, fs, b, rfl, hc, B9⟩ := Pc AR
 obtain ⟨ad, nn, pre, post, e1, ⟨es, nd, rfl, hw⟩, N, D, lo, _⟩ := FS.cell x1 hc
 have r1' := r1
 obtain ⟨p, ep, rfl⟩ := r1
 rw [e1] at ep; cases ep
 have m1 : (ad.1, instObj (U.cls .vector) ad.2) ∈ pre ++ [(ad.1, instObj (U.cls .vector) ad.2), (ad.2, W.dictOf es nd)] ++ post := by simp
 have m2 : (ad.2, W.dictOf es nd) ∈ pre ++ [(ad.1, instObj (U.cls .vector) ad.2), (ad.2, W.dictOf es nd)] ++ post := by simp
 refine method_inst (s := { s with heap := h1, toks := BT }) x1.fr cx.gf.K (W.InstAt.of_news N m1 m2) um.copyG um.copyF (um.isFn _) hw.copy ?_
 refine AF (P := U.K.In) rfl (fun h X => keeps_K (uc.keep _) h X) ?_
 exact wpAny_items_nil ⟨cx.gf.K.keeps x1.fr.keep, wpAny_call (ok _ A X Ac ρ1 H1 _ [_] [_] _ rfl cx x1 ⟨r1', trivial⟩ B9)⟩
def DN (A : Around) (n k : Nat) : Prop := A.depth + 8 * n + 8 + k < recursionLimit /\ A.units + 200 * n + 800 + 20 * k < cLine
def HT (L : Addr) (h : Heap) : List (Addr × Obj) := (List.range h.objs.size).filterMap fun b => if b = L then none else (h.get? b).map (b, ·)
theorem IV {L : Addr} {h : Heap} {b : Addr} {o : Obj} (e : h.get? b = some o) (hb : b ≠ L) : (b, o) ∈ HT L h := by
 unfold HT
 refine List.mem_filterMap.mpr ⟨b, List.mem_range.mpr (Heap.lt_size e), ?_⟩
 rw [if_neg hb, e]; rfl
theorem Kk {L : Addr} {h : Heap} {p : Addr × Obj} (e : p ∈ HT L h) : h.get? p.1 = some p.2 /\ p.1 ≠ L := by
 unfold HT at e
 obtain ⟨b, _, hb⟩ := List.mem_filterMap.mp e
 split at hb
 .cases hb
 .rename_i Ex
  cases q : h.get? b with
  | none => rw [q] at hb; cases hb
  | some o => rw [q] at hb; cases hb; exact ⟨q, Ex⟩
def HB : Heap := { objs := #[] }
theorem Jm (b : Addr) : HB.get? b = none := by
 cases e : HB.get? b with
 | none => rfl
 | some o => exact absurd (Heap.lt_size e) (Nat.not_lt_zero _)
theorem QS {G h : Heap} {L : Addr} {m : Str -> Option Value} (F : Fr G L h m) : Fr HB L h m /\ News HB L h (HT L h) :=
 ⟨⟨F.ns, fun b o e => by rw [Jm] at e; (cases e), Nat.zero_le _⟩, fun p hp => ⟨(Kk hp).1, (Kk hp).2, Jm _⟩⟩
theorem Qz {G h h' : Heap} {L : Addr} {m m' : Str -> Option Value} {n : List (Addr × Obj)} (F : Fr G L h m) (F' : Fr HB L h' m') (N' : News HB L h' (n ++ HT L h)) : Fr G L h' m' /\ ∀ b o, b ≠ L -> h.get? b = some o -> h'.get? b = some o := by
 have k : ∀ b o, b ≠ L -> h.get? b = some o -> h'.get? b = some o := fun b o hb e => (N' _ (DK _ (IV e hb))).1
 exact ⟨⟨F'.ns, fun b o e => k b o (fun q => by subst q; exact absurd (Nat.lt_of_lt_of_le (Heap.lt_size e) F.above) (Nat.lt_irrefl _)) (F.keep b o e), F.above⟩, k⟩
theorem Cx.under (cx : Cx U A X Ac n) (hr : DN A n 1) (c : Addr) (vals : List Value) : Cx U (A.under (.builtin "type.__call__" ⟨.ref c :: vals, []⟩)) X Ac n where
 B := cx.B
 hA := by
  have : (A.under (.builtin "type.__call__" ⟨.ref c :: vals, []⟩)).frames = A.frames := by
   obtain ⟨hd, d, fr, gs, u⟩ := A
   show pushEnvs [] fr = fr
   rfl
  rw [this]; exact cx.hA
 hf := cx.hf
 hk := cx.hk
 hh := cx.hh
 hd := by rw [depth_under_make]; have := hr.1; omega
 hu := by rw [units_under_make]; have := hr.2; omega
 gf := cx.gf
theorem R0 (um : UM U fa) (ub : UB U) (cx : Cx U A X Ac n) (hr : DN A n 1) (ek : AZ X Ac env ns) (ok : Hx U xc fa n C.call) (hi : C.initOf = initOf) {c : Pv} {ms : List (ME Fn)} {es : List PySem.Expr}
  (hn : D3 ns (Str.ofString (Hq c)) = true) (hs : es.all As = true)
  (h : Px U xc C A X env Γ ms es) : SE U xc C A X env Γ (.mk c ms) (.Call (.Name (Str.ofString (Hq c)) np) es [] pos) := by
 intro ρ H s vs Q E x eo hp
 rw [Aa] at hp
 refine B5 (DU ek cx.gf x hn (ub.cls c) ?_)
 refine AF (P := U.K.In) hs (fun h X => keeps_K (um.keepC c) h X) ?_
 refine h pos ρ H _ vs _ E x eo (hp.bnd (rel1 := MC U) fun v H1 ρ1 v' h1 BT _ l1 x1 r1 AR => ?_)
 have X1 := cx.gf.K.keeps x1.fr.keep
 refine ⟨X1, wpAny_call ?_⟩
 obtain ⟨FA, NA⟩ := QS x1.fr
 refine make_K (s := { s with heap := h1, toks := BT }) (K := U.K) FA NA X1 (um.makes c) (um.init c) (beq_iff_eq.mp (um.isFn _)) fun xa dx h' F' N' lt1 lt2 => ?_
 obtain ⟨F2, k⟩ := Qz (n := [(xa, instObj (U.cls c) dx), (dx, emptyDict)]) x1.fr F' N'
 obtain ⟨l, N, D, sub, back⟩ := FS.all x1
 have k' : ∀ q ∈ l, h'.get? q.1 = some q.2 := fun q hq => k _ _ (N q hq).2.1 (N q hq).1
 have lt3 : ∀ b o, b ≠ X.L -> h1.get? b = some o -> b < dx := fun b o hb e => lt1 _ (IV e hb)
 have high : 3 < dx := by
  obtain ⟨o, ho⟩ := Option.isSome_iff_exists.mp um.high.2
  have e : X.G.get? (U.cls .null) = some o := cx.gf.K _ _ ho
  exact Nat.lt_trans um.high.1 (lt3 _ o (fun q => absurd (Nat.lt_of_lt_of_le (Heap.lt_size e) x1.fr.above) (by rw [q]; exact Nat.lt_irrefl _)) (x1.fr.keep _ _ e))
 have fresh : ∀ b, (∃ o, h'.get? b = some o) -> dx <= b -> b ≠ X.L -> X.G.get? b = none := fun b _ hb hL => by
  cases q : X.G.get? b with
  | none => rfl
  | some o => exact absurd (lt3 b o hL (x1.fr.keep _ _ q)) (Nat.not_lt.mpr hb)
 have nx := N' (xa, instObj (U.cls c) dx) (.head _)
 have nd := N' (dx, emptyDict) (.tail _ (.head _))
 have N2 : News X.G X.L h' ([(xa, instObj (U.cls c) dx), (dx, emptyDict)] ++ l) := by
  intro p hp
  rcases List.mem_append.mp hp with hp | hp
  .rcases List.mem_cons.mp hp with rfl | hp
   .exact ⟨nx.1, nx.2.1, fresh _ ⟨_, nx.1⟩ (Nat.le_of_lt lt2) nx.2.1⟩
   .rw [List.mem_singleton.mp hp]
    exact ⟨nd.1, nd.2.1, fresh _ ⟨_, nd.1⟩ (Nat.le_refl _) nd.2.1⟩
  .exact ⟨k' p hp, (N p hp).2⟩
 have x2 : Bc U X (ρ1 ++ [(xa, dx)]) (H1 ++ [.inst c []]) h' := back (.inst c []) (xa, dx) [(xa, instObj (U.cls c) dx), (dx, emptyDict)] h' F2 N2 (fun p hp q hq => by
   have : q.1 < dx := lt3 _ _ (N q hq).2.1 (N q hq).1
   rcases List.mem_cons.mp hp with rfl | hp
   .exact Nat.lt_trans this lt2
   .rw [List.mem_singleton.mp hp]; exact this) (by
   unfold B4
   simp only [List.map_cons, List.map_nil, List.nodup_cons, List.mem_singleton, List.not_mem_nil, not_false_eq_true, List.nodup_nil, and_true]
   exact Nat.ne_of_gt lt2) (fun p hp => by
   rcases List.mem_cons.mp hp with rfl | hp
   .exact Nat.lt_trans high lt2
   .rw [List.mem_singleton.mp hp]; exact high) ⟨[], 0, rfl, trivial⟩
 have BN := FS.len x1
 have rx : AP U (ρ1 ++ [(xa, dx)]) (.ref H1.length) (.ref xa) := ⟨(xa, dx), by rw [<- BN]; simp, rfl⟩
 have e0 : alloc (.inst c []) H1 = .ok (.ref H1.length) (H1 ++ [.inst c []]) := rfl
 unfold Ay bnd at AR
 rw [e0] at AR
 dsimp only at AR
 rw [hi] at AR
 refine ok (initOf c) _ X Ac (ρ1 ++ [(xa, dx)]) (H1 ++ [.inst c []]) _ (.ref H1.length :: v) (.ref xa :: v') _ (by cases c <;> rfl) (cx.under hr _ _) x2 ⟨rx, r1.mono (List.prefix_append ..)⟩ ?_
 unfold Ay
 unfold still at AR
 cases q : C.call (initOf c) (.ref H1.length :: v) (H1 ++ [.inst c []]) with
 | ok w H2 =>
  rw [q] at AR
  dsimp only at AR ⊢
  by_cases hw : w = .none
  .rw [if_pos hw] at AR
   subst hw
   intro ρ3 w' h3 tk3 l3 x3 r3
   cases r3
   exact ⟨rfl, AR ρ3 (.ref xa) h3 tk3 ((List.prefix_append ..).trans l3) x3 (rx.mono l3)⟩
  .rw [if_neg hw] at AR; exact AR.elim
 | exc e H2 => rw [q] at AR; exact AR.elim
 | bad => rw [q] at AR; exact AR.elim
section
variable {ex : List (Addr × Obj)} {a : Addr} {o o' : Obj}
abbrev Fx.withEx (X : Fx) (ex : List (Addr × Obj)) : Fx := { X with ex := ex }
theorem FS.setEx {pre post : List (Addr × Obj)} (x : Bc U X ρ H h) (e : X.ex = pre ++ (a, o) :: post) (hs : Heap.SameBut a h h') (ho : h'.get? a = some o') : Bc U (X.withEx (pre ++ (a, o') :: post)) ρ H h' := by
 obtain ⟨F, ps, p, N, D, lo⟩ := x
 have w : X.px ++ ps.flatten = (X.own ++ pre) ++ (a, o) :: (post ++ ps.flatten) := by simp [Fx.px, e]
 rw [w] at N D
 obtain ⟨h1, h2⟩ : (∀ q ∈ X.own ++ pre, q.1 ≠ a) /\ ∀ q ∈ post ++ ps.flatten, q.1 ≠ a := by
  unfold B4 at D
  rw [List.map_append, List.map_cons] at D
  have d2 := (List.nodup_append.mp D)
  refine ⟨fun q hq => d2.2.2 q.1 (List.mem_map_of_mem hq) a (.head _), fun q hq e => ?_⟩
  have := (List.nodup_cons.mp d2.2.1).1
  exact this (e ▸ List.mem_map_of_mem (f := (·.1)) hq)
 have z := N (a, o) (DK _ (.head _))
 refine ⟨F.change hs z.2.1 z.2.2, ps, p, ?_, ?_, lo⟩
 .have := N.setAt h1 h2 hs ho
  simpa [Fx.px,  e] using this
 .have := HN (o' := o') D
  simpa [Fx.px] using this
theorem FS.addEx (x : Bc U X ρ H h) (k : ∀ b o, h.get? b = some o -> h'.get? b = some o) (ho : h'.get? a = some o) (ha : h.objs.size <= a) : Bc U (X.withEx ((a, o) :: X.ex)) ρ H h' := by
 obtain ⟨F, ps, p, N, D, lo⟩ := x
 have hL : X.L < a := Nat.lt_of_lt_of_le F.ns.lt ha
 have hG : X.G.get? a = none := by
  cases q : X.G.get? a with
  | none => rfl
  | some o => exact absurd (Heap.lt_size q) (Nat.not_lt.mpr (Nat.le_trans F.above (Nat.le_of_lt hL)))
 refine ⟨F.keeps k, ps, p, ?_, ?_, lo⟩
 .intro q hq
  simp only [Fx.px,  List.append_assoc, List.cons_append, List.mem_append, List.mem_cons] at hq
  rcases hq with hq | rfl | hq | hq
  .exact (N.grown k) q (by simp [Fx.px, hq])
  .exact ⟨ho, Nat.ne_of_gt hL, hG⟩
  .exact (N.grown k) q (by simp [Fx.px, hq])
  .exact (N.grown k) q (DK _ hq)
 .have : B4 ((a, o) :: (X.px ++ ps.flatten)) := by
   unfold B4 at D ⊢
   rw [List.map_cons, List.nodup_cons]
   refine ⟨fun hm => ?_, D⟩
   obtain ⟨q, hq, e⟩ := List.mem_map.mp hm
   exact absurd (Heap.lt_size (N q hq).1) (Nat.not_lt.mpr (by rw [e]; exact ha))
  refine Cj ?_ this
  simp only [Fx.px,  List.append_assoc, List.cons_append]
  exact List.perm_middle.symm
theorem FS.dropEx (x : Bc U (X.withEx ((a, o) :: ex)) ρ H h) (hs : Heap.ExtBut a h h') : Bc U (X.withEx ex) ρ H h' := by
 obtain ⟨F, ps, p, N, D, lo⟩ := x
 have w : (X.withEx ((a, o) :: ex)).px ++ ps.flatten = X.own ++ (a, o) :: (ex ++ ps.flatten) := by simp [Fx.px]
 rw [w] at N D
 obtain ⟨h1, h2⟩ : (∀ q ∈ X.own, q.1 ≠ a) /\ ∀ q ∈ ex ++ ps.flatten, q.1 ≠ a := by
  unfold B4 at D
  rw [List.map_append, List.map_cons] at D
  have d2 := (List.nodup_append.mp D)
  refine ⟨fun q hq => d2.2.2 q.1 (List.mem_map_of_mem hq) a (.head _), fun q hq e => ?_⟩
  have := (List.nodup_cons.mp d2.2.1).1
  exact this (e ▸ List.mem_map_of_mem (f := (·.1)) hq)
 have z := N (a, o) (DK _ (.head _))
 have hL : X.L ≠ a := Ne.symm z.2.1
 refine ⟨⟨F.ns.extBut hs hL, fun b o e => hs b o (fun q => ?_) (F.keep b o e), F.above⟩, ps, p, ?_, ?_, lo⟩
 .subst q; have := z.2.2; dsimp only at e; rw [e] at this; cases this
 .intro q hq
  have hq' : q ∈ X.own \/ q ∈ ex ++ ps.flatten := by simpa [Fx.px,  or_assoc] using hq
  rcases hq' with hq' | hq'
  .have y := N q (DW _ hq')
   exact ⟨hs _ _ (h1 q hq') y.1, y.2⟩
  .have y := N q (DK _ (.tail _ hq'))
   exact ⟨hs _ _ (h2 q hq') y.1, y.2⟩
 .have := Cj (List.perm_middle (l₁ := X.own) (a := (a, o)) (l₂ := ex ++ ps.flatten)) D
  have d3 : B4 (X.own ++ (ex ++ ps.flatten)) := by
   unfold B4 at this ⊢
   rw [List.map_cons, List.nodup_cons] at this
   exact this.2
  simpa [Fx.px] using d3
theorem FS.dropEx0 (x : Bc U (X.withEx ((a, o) :: ex)) ρ H h) : Bc U (X.withEx ex) ρ H h := x.dropEx fun _ _ _ e => e
theorem FS.adopt {c : An} (x : Bc U (X.withEx ((a, o) :: ex)) ρ H h) (y : CR U (ρ ++ [(a, a)]) c (a, a) [(a, o)]) (ha : 3 < a) : Bc U (X.withEx ex) (ρ ++ [(a, a)]) (H ++ [c]) h := by
 obtain ⟨F, ps, p, N, D, lo⟩ := x
 have pm : ((X.withEx ((a, o) :: ex)).px ++ ps.flatten).Perm ((X.withEx ex).px ++ (ps ++ [[(a, o)]]).flatten) := by
  have e1 : (X.withEx ((a, o) :: ex)).px ++ ps.flatten = X.own ++ (a, o) :: (ex ++ ps.flatten) := by simp [Fx.px]
  have e2 : (X.withEx ex).px ++ (ps ++ [[(a, o)]]).flatten = (X.own ++ (ex ++ ps.flatten)) ++ [(a, o)] := by simp [Fx.px]
  rw [e1, e2]
  exact (List.perm_middle (l₁ := X.own) (a := (a, o)) (l₂ := ex ++ ps.flatten)).trans (List.perm_append_comm (l₁ := [(a, o)]) (l₂ := X.own ++ (ex ++ ps.flatten)))
 refine ⟨F, ps ++ [[(a, o)]], (p.mono (List.prefix_append ..)).push y, ?_, Cj pm D, ?_⟩
 .exact D5 N fun q hq => pm.symm.subset hq
 .intro q hq
  simp only [List.flatten_append, List.flatten_cons, List.flatten_nil, List.append_nil, List.mem_append, List.mem_singleton] at hq
  rcases hq with hq | rfl
  .exact lo q hq
  .exact ha
theorem FS.exGet (x : Bc U X ρ H h) {p : Addr × Obj} (hp : p ∈ X.ex) : h.get? p.1 = some p.2 := by
 obtain ⟨F, ps, _, N, _, _⟩ := x
 exact (N p (DW _ (DK _ hp))).1
end
def BU (cells : List (Str × Addr)) : Ft -> List (Str × Addr) -> List (Str × Addr)
 | [], cs => cs
 | (x, k) :: r, cs => BU cells r (if k == .free then (x, (cells.lookup x).getD 0) :: cs else cs)
theorem C0 {scope : Scope} {env : PySem.Env} (h : ∀ p ∈ scope.names, p.2 = .free -> (env.cells.lookup p.1).isSome = true) : closureFor scope env = pure (BU env.cells scope.names []) := by
 unfold closureFor
 have step : ∀ (l : Ft) (cs : List (Str × Addr)), (∀ p ∈ l, p.2 = .free -> (env.cells.lookup p.1).isSome = true) ->
   (forIn l cs (fun (p : Str × NameKind) (cs : List (Str × Addr)) => (do
    if p.2 == .free then do
     let c <- cellOf env p.1
     pure (ForInStep.yield ((p.1, c) :: cs))
    else pure (ForInStep.yield cs) : Sem (ForInStep (List (Str × Addr)))))) = pure (BU env.cells l cs) := by
  intro l
  induction l with
  | nil => intro cs _; rfl
  | cons p r ih =>
   intro cs hp
   obtain ⟨x, k⟩ := p
   rw [List.forIn_cons]
   have hr := ih (if k == .free then (x, (env.cells.lookup x).getD 0) :: cs else cs) fun p hp' => hp p (.tail _ hp')
   unfold BU
   by_cases hk : k = .free
   .subst hk
    have hs := hp (x, .free) (.head _) rfl
    obtain ⟨c, hc⟩ := Option.isSome_iff_exists.mp hs
    dsimp only at hc
    simp only [beq_self_eq_true, if_true] at hr ⊢
    unfold cellOf
    rw [hc] at hr ⊢
    simp only [pure_bind, Option.getD_some] at hr ⊢
    exact hr
   .have hk' : (k == NameKind.free) = false := beq_eq_false_iff_ne.mpr hk
    simp only [hk', Bool.false_eq_true, if_false, pure_bind] at hr ⊢
    exact hr
 have := step scope.names [] h
 simpa using this
theorem CX {cells : List (Str × Addr)} {x : Str} : ∀ (l : Ft) (cs : List (Str × Addr)), (∀ p ∈ l, p.2 = .free -> (cells.lookup p.1).isSome = true) -> (x, NameKind.free) ∈ l \/ cs.lookup x = cells.lookup x -> (cs.lookup x = none \/ cs.lookup x = cells.lookup x) ->
  (BU cells l cs).lookup x = cells.lookup x
 | [], cs, _, h, _ => by
  rcases h with h | h
  .cases h
  .exact h
 | (y, k) :: r, cs, hp, h, h2 => by
  unfold BU
  by_cases hk : k = .free
  .subst hk
   simp only [beq_self_eq_true, if_true]
   obtain ⟨c, hc⟩ := Option.isSome_iff_exists.mp (hp (y, .free) (.head _) rfl)
   dsimp only at hc
   by_cases hy : x = y
   .subst hy
    have e : List.lookup x ((x, (cells.lookup x).getD 0) :: cs) = cells.lookup x := by rw [List.lookup_cons, beq_self_eq_true]; rw [hc]; rfl
    exact CX r _ (fun p hp' => hp p (.tail _ hp')) (.inr e) (.inr e)
   .have e : List.lookup x ((y, (cells.lookup y).getD 0) :: cs) = cs.lookup x := by
     rw [List.lookup_cons, beq_eq_false_iff_ne.mpr hy]
    refine CX r _ (fun p hp' => hp p (.tail _ hp')) ?_ (by rw [e]; exact h2)
    rcases h with h | h
    .rcases List.mem_cons.mp h with h | h
     .exact absurd (Prod.mk.inj h).1 hy
     .exact .inl h
    .exact .inr (by rw [e]; exact h)
  .have hk' : (k == NameKind.free) = false := beq_eq_false_iff_ne.mpr hk
   simp only [hk', Bool.false_eq_true, if_false]
   refine CX r _ (fun p hp' => hp p (.tail _ hp')) ?_ h2
   rcases h with h | h
   .rcases List.mem_cons.mp h with h | h
    .exact absurd (Prod.mk.inj h).2.symm hk
    .exact .inl h
   .exact .inr h
structure Q8 (U : Un) (A : Around) (I : Addr) (items : List V) (Ready : MH -> Prop) (ρ0 : B0) (st : Nat -> Obj -> Prop) : Prop where
 item : ∀ (k : Nat) (X : Fx) (ρ : B0) (H : MH) (s : Shared) (o : Obj) (v : V) (E : Value -> Shared -> Prop) (Q : Option Value -> Shared -> Prop), ρ0 <+: ρ -> items[k]? = some v -> Bc U X ρ H s.heap -> s.heap.get? I = some o -> st k o -> Ready H ->
  (∀ v' h' o' tk, AP U ρ v v' -> Heap.SameBut I s.heap h' -> h'.get? I = some o' -> st (k + 1) o' -> Q (some v') { s with heap := h', toks := tk }) -> wpAny (model U.prog U.w) A (pyNext (.ref I)) Q E s
 done : ∀ (X : Fx) (ρ : B0) (H : MH) (s : Shared) (o : Obj) (E : Value -> Shared -> Prop) (Q : Option Value -> Shared -> Prop), ρ0 <+: ρ -> Bc U X ρ H s.heap -> s.heap.get? I = some o -> st items.length o -> Ready H ->
  (∀ h', Heap.ExtBut I s.heap h' -> Q none { s with heap := h' }) -> wpAny (model U.prog U.w) A (pyNext (.ref I)) Q E s
 self : ∀ (k : Nat) (s : Shared) (o : Obj) (E : Value -> Shared -> Prop) (Q : Value -> Shared -> Prop), s.heap.get? I = some o -> st k o -> Q (.ref I) s -> wpAny (model U.prog U.w) A (pyIter (.ref I)) Q E s
theorem LR (hh : A.handled = none) {i : Nat} {p : Addr × Addr} {xs : List V} {I : Addr} (ep : ρ0[i]? = some p) :
  Q8 U A I xs (fun H => H[i]? = some (.list xs)) ρ0 (fun k o => o.cls = .type "list_iterator" /\ o.data = .fields #[.ref p.1, .int k 0]) where
 item := fun k X ρ H s o v E Q l ev x ho st rd hq => by
  obtain ⟨a, e1, _, vs, il, vv⟩ := FS.at x rd
  rw [DJ l ep] at e1; cases e1
  obtain ⟨y, ey, hy⟩ := vv.get ev
  refine wpAny_pyNext_list_item (i := k) ⟨o, ho, st.1, st.2⟩ il (x := y) (by rw [List.getElem?_toArray]; exact ey) fun h' hit hs => ?_
  obtain ⟨o', ho', c1, c2⟩ := hit
  exact hq y h' o' s.toks hy hs ho' ⟨c1, c2⟩
 done := fun X ρ H s o E Q l x ho st rd hq => by
  obtain ⟨a, e1, _, vs, il, vv⟩ := FS.at x rd
  rw [DJ l ep] at e1; cases e1
  exact wpAny_pyNext_list_end hh (i := xs.length) ⟨o, ho, st.1, st.2⟩ il (by rw [List.getElem?_toArray, List.getElem?_eq_none]; rw [vv.length]; exact Nat.le_refl _) hq
 self := fun k s o E Q ho st hq => wpAny_pyIter_listiter (i := k) ⟨o, ho, st.1, st.2⟩ hq
theorem Lx (hh : A.handled = none) {i : Nat} {p : Addr × Addr} {kvs : List (Nat × V)} {I : Addr} {od : Obj} {ep : Nat} {es : List (Str × Value)} (e0 : ρ0[i]? = some p) (hp : U.pin p.1 = some od)
  (hd : od.ExactDict /\ ∃ es', od.data = .dict es' ep /\ KeysOf (PySem.strKind U.prog U.w) es' /\ Pairs (PySem.strKind U.prog U.w) es'.toList es /\ (es.map (·.1)).Nodup) (hk : es.map (·.1) = kvs.map fun q => wd q.1) (hl : es.length = kvs.length) :
  Q8 U A I (kvs.map fun p => .w p.1) (fun H => H[i]? = some (.dictP kvs)) ρ0 (fun k o => o.cls = .type "dict_keyiterator" /\ o.data = .fields #[.ref p.1, .int k 0, .int es.length 0, .int ep 0]) where
 item := fun k X ρ H s o v E Q l ev x ho st rd hq => by
  obtain ⟨a, e1, _, o2, es2, hg, _, _, B9⟩ := FS.at x rd
  rw [DJ l e0] at e1; cases e1
  rw [hp] at B9; cases B9
  obtain ⟨x1, es', x2, x3, x4, x5⟩ := hd
  have hm : s.heap.DictAt (PySem.strKind U.prog U.w) p.1 es ep := ⟨od, es', hg, x1, x2, x3, x4, x5⟩
  have CV : k < kvs.length := by have := (List.getElem?_eq_some_iff.mp ev).1; simpa using this
  have hx : es[k]? = some (es[k]'(by rw [hl]; exact CV)) := List.getElem?_eq_getElem _
  generalize hkv : es[k]'(by rw [hl]; exact CV) = kv at hx
  obtain ⟨kk, vv⟩ := kv
  refine wpAny_pyNext_dict_item (i := k) ⟨o, ho, st.1, st.2⟩ hm hx fun key h' Bf hit hs => ?_
  obtain ⟨o', ho', c1, c2⟩ := hit
  refine hq key h' o' s.toks ?_ hs ho' ⟨c1, c2⟩
  rw [List.getElem?_map, List.getElem?_eq_getElem CV] at ev
  cases ev
  have e2 : kk = wd kvs[k].1 := by
   have := congrArg (fun l => l[k]?) hk
   simp only [List.getElem?_map, hx, List.getElem?_eq_getElem CV, Option.map_some] at this
   exact Option.some.inj this
  subst e2
  have : (PySem.strKind U.prog U.w).is (wd kvs[k].1) key = true := Bf
  cases key <;> simp [PySem.strKind, Value.isStrOf] at this
  subst this
  exact ⟨_, rfl⟩
 done := fun X ρ H s o E Q l x ho st rd hq => by
  obtain ⟨a, e1, _, o2, es2, hg, _, _, B9⟩ := FS.at x rd
  rw [DJ l e0] at e1; cases e1
  rw [hp] at B9; cases B9
  obtain ⟨x1, es', x2, x3, x4, x5⟩ := hd
  have hm : s.heap.DictAt (PySem.strKind U.prog U.w) p.1 es ep := ⟨od, es', hg, x1, x2, x3, x4, x5⟩
  refine wpAny_pyNext_dict_end hh (i := (kvs.map fun p => V.w p.1).length) ⟨o, ho, st.1, st.2⟩ hm ?_ hq
  rw [List.getElem?_eq_none]
  simp [hl]
 self := fun k s o E Q ho st hq => wpAny_pyIter_keyiter (i := k) (d := p.1) (n := es.length) (ep := ep) ⟨o, ho, st.1, st.2⟩ hq
theorem Gk (hh : A.handled = none) {I : Addr} {lo hi : Int} :
  Q8 U A I (B3 lo hi) (fun _ => True) ρ0 (fun k o => o = { cls := .type "range_iterator", dict := none, data := .fields #[rawInt (lo + k), rawInt (((hi - lo).toNat : Int) - k), rawInt 1], slots := #[] }) where
 item := fun k X ρ H s o v E Q l ev x ho st rd hq => by
  subst st
  have CV : k < (hi - lo).toNat := by have := (List.getElem?_eq_some_iff.mp ev).1; simpa [B3] using this
  refine wpAny_pyNext_range_item ho (by omega) fun h' hit hs => ?_
  refine hq _ h' _ _ ?_ hs hit ?_
  .have : v = .int (lo + k) := by
    unfold B3 at ev
    rw [List.getElem?_map, List.getElem?_range CV] at ev
    cases ev; rfl
   subst this
   exact ⟨_, rfl⟩
  .have e1 : lo + (k : Int) + 1 = lo + ((k + 1 : Nat) : Int) := by push_cast; omega
   have e2 : (((hi - lo).toNat : Nat) : Int) - (k : Int) - 1 = (((hi - lo).toNat : Nat) : Int) - ((k + 1 : Nat) : Int) := by push_cast; omega
   rw [e1, e2]
 done := fun X ρ H s o E Q l x ho st rd hq => by
  subst st
  refine wpAny_pyNext_range_end hh ho ?_ hq
  simp [B3]
 self := fun k s o E Q ho st hq => by subst st; exact wpAny_pyIter_rangeiter ho hq
def HF (ns : Ft) (Γ : List Str) (sc : Scope) (x : Str) : Bool :=
 sc.kind == .function && (sc.names.all fun p => match p.2 with
  | .free => ns.lookup p.1 == some .cell || ns.lookup p.1 == some .free
  | .local => (p.1 == x || p.1 == (".0" : Str)) && sc.names.lookup p.1 == some .local
  | .cell => false
  | _ => true) && sc.names.lookup x == some .local && !Γ.contains x && !Γ.contains (".0" : Str)
theorem GD {x : Str} {k : NameKind} : ∀ {l : Ft}, l.lookup x = some k -> (x, k) ∈ l
 | [], h => by cases h
 | (y, j) :: r, h => by
  rw [List.lookup_cons] at h
  cases q : x == y with
  | true => rw [q] at h; cases h; rw [beq_iff_eq.mp q]; exact .head _
  | false => rw [q] at h; exact .tail _ (GD h)
section
variable {sc : Scope} {x : Str} {Cd : Addr}
structure E7 (ns : Ft) (Γ : List Str) (sc : Scope) (x : Str) : Prop where
 kind : sc.kind = .function
 free : ∀ p ∈ sc.names, p.2 = .free -> ns.lookup p.1 = some .cell \/ ns.lookup p.1 = some .free
 loc : ∀ p ∈ sc.names, p.2 = .local -> (p.1 = x \/ p.1 = ".0") /\ sc.names.lookup p.1 = some .local
 cell : ∀ p ∈ sc.names, p.2 ≠ .cell
 it : sc.names.lookup x = some .local
 out : x ∉ Γ
 out0 : Str.ofString ".0" ∉ Γ
theorem DE (h : HF ns Γ sc x = true) : E7 ns Γ sc x := by
 unfold HF at h
 simp only [Ao, List.all_eq_true, Bool.not_eq_true', List.contains_eq_mem, decide_eq_false_iff_not] at h
 obtain ⟨⟨⟨⟨h1, h2⟩, h3⟩, h4⟩, h5⟩ := h
 refine ⟨by simpa using h1, fun p hp e => ?_, fun p hp e => ?_, fun p hp e => ?_, by simpa using h3, h4, h5⟩
 .have := h2 p hp; rw [e] at this; simpa [Bool.or_eq_true] using this
 .have := h2 p hp; rw [e] at this; simpa [Bool.or_eq_true, Ao] using this
 .have := h2 p hp; rw [e] at this; cases this
theorem Ej (env : PySem.Env) (y : Str) : ∀ {names : Ft} {k : NameKind}, (names.map fun (n, k) => if (k == NameKind.free && env.scope.kind == .function && env.kindOf n == some .cell) then (n, NameKind.cell) else (n, k)).lookup y = some k ->
  ∃ k₀, names.lookup y = some k₀ /\ (k = k₀ \/ (k = .cell /\ k₀ = .free))
 | [], k, h => by simp at h
 | (n, j) :: r, k, h => by
  rw [List.map_cons] at h
  by_cases hc : (j == NameKind.free && env.scope.kind == .function && env.kindOf n == some .cell) = true
  .dsimp only at h
   rw [if_pos hc, List.lookup_cons] at h
   rw [List.lookup_cons]
   cases q : y == n with
   | true =>
    rw [q] at h; cases h
    rw [Ao, Ao] at hc
    exact ⟨j, rfl, .inr ⟨rfl, by simpa using hc.1.1⟩⟩
   | false => rw [q] at h; exact Ej env y h
  .dsimp only at h
   rw [if_neg hc, List.lookup_cons] at h
   rw [List.lookup_cons]
   cases q : y == n with
   | true => rw [q] at h; cases h; exact ⟨_, rfl, .inl rfl⟩
   | false => rw [q] at h; exact Ej env y h
theorem Dw (ek : AZ X Ac env ns) (k : E7 ns Γ sc x) :
  ∀ p ∈ sc.names, p.2 = .free -> (env.cells.lookup p.1).isSome = true := fun p hp e => ek.hc p.1 (by
 have := k.free p hp e
 unfold PySem.Env.kindOf
 rw [ek.names]; exact this)
theorem Jx (ek : AZ X Ac env ns) (k : E7 ns Γ sc x) (Cd : Addr) : AZ X Ac (compEnvC sc (BU env.cells sc.names []) Cd env) (relabel sc env).names :=
 ⟨rfl, k.kind, ek.glo, ek.blt, ek.frm, fun y hy => by
  obtain ⟨kd, hk, hd⟩ : ∃ kd, (compEnvC sc (BU env.cells sc.names []) Cd env).kindOf y = some kd /\ (kd = .cell \/ kd = .free) := by
   rcases hy with e | e
   .exact ⟨_, e, .inl rfl⟩
   .exact ⟨_, e, .inr rfl⟩
  obtain ⟨k₀, h1, h2⟩ := Ej env y hk
  have hm₀ := GD h1
  have hf : k₀ = .free := by
   rcases h2 with rfl | ⟨_, h⟩
   .rcases hd with rfl | rfl
    .exact absurd rfl (k.cell _ hm₀)
    .rfl
   .exact h
  subst hf
  show ((BU env.cells sc.names []).lookup y).isSome = true
  rw [CX sc.names [] (Dw ek k) (.inl hm₀) (.inl rfl)]
  exact Dw ek k _ hm₀ rfl⟩
theorem KC (ek : AZ X Ac env ns) (k : E7 ns Γ sc x)
  (eo : EO U X ρ env Γ vs) (l : ρ <+: ρ') {ex' : List (Addr × Obj)} (hex : ∀ p ∈ X.ex, p ∈ ex') {oC : Obj} {mC : Str -> Option Value} (hm : (Cd, oC) ∈ ex') (Eg : ∀ h : Heap, h.get? Cd = some oC -> h.Ns Cd mC) {v : V} {v' : Value} (hv : AP U ρ' v v') (hx : mC x = some v') :
  EO U (X.withEx ex') ρ' (compEnvC sc (BU env.cells sc.names []) Cd env) (Γ ++ [x]) (vs ++ [some v]) := by
 have kx : (compEnvC sc (BU env.cells sc.names []) Cd env).kindOf x = some .local := lookup_relabel_local k.it
 refine ⟨by simp [eo.len], fun i w y hw hy hvis => ?_⟩
 by_cases hi : i < Γ.length
 .rw [List.getElem?_append_left hi] at hy
  rw [List.getElem?_append_left (by rw [eo.len]; exact hi)] at hw
  have hmem : y ∈ Γ := List.mem_of_getElem? hy
  cases hk : (compEnvC sc (BU env.cells sc.names []) Cd env).kindOf y with
  | none => rw [hk] at hvis; cases hvis
  | some kd =>
   rw [hk] at hvis
   obtain ⟨k₀, h1, h2⟩ := Ej env y hk
   have hm₀ := GD h1
   have hfree : k₀ = .free := by
    cases k₀ with
    | free => rfl
    | «local» =>
     rcases (k.loc _ hm₀ rfl).1 with e | e
     .exact absurd (show x ∈ Γ from (show y = x from e) ▸ hmem) k.out
     .exact absurd (show Str.ofString ".0" ∈ Γ from (show y = _ from e) ▸ hmem) k.out0
    | cell => exact absurd rfl (k.cell _ hm₀)
    | globalExplicit => rcases h2 with rfl | ⟨_, h⟩ <;> first | cases hvis | cases h
    | globalImplicit => rcases h2 with rfl | ⟨_, h⟩ <;> first | cases hvis | cases h
   subst hfree
   have hout : env.kindOf y = some .cell \/ env.kindOf y = some .free := by
    unfold PySem.Env.kindOf
    rw [ek.names]; exact k.free _ hm₀ rfl
   have hvis2 : Se (env.kindOf y) = true := by rcases hout with e | e <;> rw [e] <;> rfl
   obtain ⟨z, hz, lz⟩ := eo.get i w y hw hy hvis2
   refine ⟨z, hz.mono l, .inr (.inl ⟨?_, ?_⟩)⟩
   .rcases h2 with rfl | ⟨rfl, _⟩
    .exact .inr hk
    .exact .inl hk
   .rcases lz with ⟨e, _⟩ | ⟨_, c, o, h1, h2, h3⟩ | ⟨e, _⟩
    .rcases hout with e2 | e2 <;> rw [e] at e2 <;> cases e2
    .refine ⟨c, o, ?_, ?_, h3⟩
     .show (BU env.cells sc.names []).lookup y = some c
      rw [CX sc.names [] (Dw ek k) (.inl hm₀) (.inl rfl), h1]
     .rcases List.mem_append.mp h2 with h2 | h2
      .exact DW _ h2
      .exact DK _ (hex _ h2)
    .rcases hout with e2 | e2 <;> rw [e] at e2 <;> cases e2
 .have hi' : i = Γ.length := by
   have := (List.getElem?_eq_some_iff.mp hy).1
   simp at this; omega
  subst hi'
  have ey : y = x := by simpa using hy.symm
  subst ey
  have ew : w = v := by rw [<- eo.len] at hw; simpa using hw.symm
  subst ew
  exact ⟨v', hv, .inr (.inr ⟨kx, oC, mC, DK _ hm, Eg, hx⟩)⟩
end
theorem Ay.later {α β : Type} {rel : B0 -> α -> β -> Prop} {r : R α} {Q : β -> Shared -> Prop} {ρ1 : B0} (hp : Ay rel U xc X ρ r Q E s) (l : ρ <+: ρ1) (h : Heap) (tk : Nat) : Ay rel U xc X ρ1 r Q E { s with heap := h, toks := tk } := by
 cases r with
 | ok a H => exact fun ρ' v' h' C3 l' => hp ρ' v' h' C3 (l.trans l')
 | exc e H => exact fun ρ' v' h' C3 l' => hp ρ' v' h' C3 (l.trans l')
 | bad => exact hp
abbrev Ru (U : Un) : B0 -> Option V -> Option Value -> Prop := fun ρ o o' => match o, o' with
 | some v, some y => AP U ρ v y
 | none, none => True
 | _, _ => False
theorem Kh {β : Type} (f : V -> M (Option V)) (post : M Unit) (v : V) (r : List V) (K : List V -> M β) :
  bnd (still (By f post (v :: r))) K H = bnd (still (f v)) (fun y => bnd (still post) fun _ => bnd (still (By f post r)) fun zs => K (y.toList ++ zs)) H := by
 rw [By]
 simp only [bnd, still]
 cases f v H with
 | ok y H1 =>
  dsimp only
  cases post H1 with
  | ok u H2 =>
   dsimp only
   cases By f post r H2 <;> rfl
  | _ => rfl
 | _ => rfl
theorem D6 {α β : Type} {m : M α} {f : α -> M β} {a : α} {H1 : MH} (e : m H = .ok a H1) : bnd (still m) f H = f a H1 := by
 simp only [bnd, still, e]
theorem HA {α β : Type} {m : M α} {f : α -> M β} {a : Nat} {H1 : MH} (e : m H = .exc a H1) : bnd (still m) f H = .bad := by
 simp only [bnd, still, e]
theorem ER {α β : Type} {m : M α} {f : α -> M β} (e : m H = .bad) : bnd (still m) f H = .bad := by
 simp only [bnd, still, e]
def Gq (zs : List V) : M V := if zs.length <= Bz then alloc (.list zs) else bad
structure Oo (U : Un) (xc : Value) (X : Fx) (ρ0 : B0) (items : List V) (Ready : MH -> Prop) (st : Nat -> Obj -> Prop) (f : V -> M (Option V)) (post : M Unit) (I Cd D : Addr) (Qf : Value -> Shared -> Prop) (s0 : Shared) (r0 : R V)
  (n : Nat) (s' : Shared) : Prop where
 inv : ∃ k ρk Hk h tk ys ws oI oC mC nD, s' = { s0 with heap := h, toks := tk } /\ n = items.length + 1 - k /\ k <= items.length /\ ρ0 <+: ρk /\
  Bc U (X.withEx ((Cd, oC) :: (I, oI) :: (D, listOf (List.toArray ws) nD) :: X.ex)) ρk Hk h /\ st k oI /\ (∀ g : Heap, g.get? Cd = some oC -> g.Ns Cd mC) /\ DO U.sa ρk ys ws /\ ys.length <= k /\ Ready Hk /\
  Ay (AP U) U xc X ρk (bnd (still (By f post (items.drop k))) (fun zs => Gq (ys ++ zs)) Hk) Qf (fun _ _ => False) s' /\ bnd (still (By f post (items.drop k))) (fun zs => Gq (ys ++ zs)) Hk = r0
theorem I9 {elt iter : PySem.Expr} {nm : Str} {px : Pos} {ifs : List PySem.Expr} {scope : Scope} {pos : Pos} {cenv : PySem.Env} {I Cd D : Addr} {items : List V} {Ready : MH -> Prop} {st : Nat -> Obj -> Prop} {f : V -> M (Option V)} {post : M Unit}
  {Qf : Value -> Shared -> Prop} {R : Result -> Shared -> Prop} {s0 : Shared} {r0 : Mine.R V} (BN : items.length <= Bz) (hD3 : 3 < D)
  (src : Q8 U A I items Ready ρ0 st) (hpost : ∀ H, (post H = .ok () H /\ Ready H) \/ post H = .bad)
  (hx : cenv.kindOf nm = some .local) (hp : (cenv.scope.kind == .class || (cenv.scope.kind == .module && cenv.locals != cenv.globals)) = false) (hCd : cenv.locals = Cd)
  (turn : ∀ (ex' : List (Addr × Obj)) ρ H s v v' (QQ : Option Value -> Shared -> Prop) E' oC mC, ρ0 <+: ρ -> (∀ p ∈ X.ex, p ∈ ex') -> Bc U (X.withEx ex') ρ H s.heap -> AP U ρ v v' -> (Cd, oC) ∈ ex' -> (∀ g : Heap, g.get? Cd = some oC -> g.Ns Cd mC) -> mC nm = some v' ->
   Ay (Ru U) U xc (X.withEx ex') ρ (f v H) QQ E' s ->
   wpAny (model U.prog U.w) A (forIn ifs true fun c r => if r = true then do let ok <- isTrue c cenv (eval c cenv); pure (ForInStep.yield ok) else pure (ForInStep.yield r))
    (fun ok s₃ => if ok = true then wpAny (model U.prog U.w) A (eval elt cenv) (fun y s₄ => QQ (some y) s₄) E' s₃ else QQ none s₃) E' s)
  (hR : ∀ ρ' H' v h' C3 oC mC, ρ0 <+: ρ' -> Bc U (X.withEx ((Cd, oC) :: X.ex)) ρ' H' h' -> (∀ g : Heap, g.get? Cd = some oC -> g.Ns Cd mC) -> AP U ρ' v (.ref D) -> r0 = .ok v H' -> Ay (AP U) U xc X ρ' (.ok v H') Qf (fun _ _ => False) { s0 with heap := h', toks := C3 } -> R (.ok .next) { s0 with heap := h', toks := C3 })
  {m₀ : Nat} {s₁ : Shared} (h : Oo U xc X ρ0 items Ready st f post I Cd D Qf s0 r0 m₀ s₁) :
  codeAny (model U.prog U.w) A (.compLoop (.ListComp elt [⟨.Name nm px, iter, ifs, 0⟩] scope pos) 0 (.ref I) (.ref D) cenv) R s₁ := by
 refine codeAny_compLoop_tests (fun n s' => Oo U xc X ρ0 items Ready st f post I Cd D Qf s0 r0 n s') ?_ m₀ h
 rintro n s' ⟨k, ρk, Hk, h, tk, ys, ws, oI, oC, mC, nD, rfl, rfl, hk, l0, F, hst, Eg, hys, hyk, hrd, hpk, hr0⟩
 have gI : h.get? I = some oI := F.exGet (p := (I, oI)) (.tail _ (.head _))
 cases hv : items[k]? with
 | none =>
  have hkl : k = items.length := Nat.le_antisymm hk (by rw [List.getElem?_eq_none_iff] at hv; exact hv)
  subst hkl
  refine src.done (X.withEx ((Cd, oC) :: (I, oI) :: (D, listOf (List.toArray ws) nD) :: X.ex)) ρk Hk _ oI _ _ l0 F gI hst hrd fun h₁ he => ?_
  rw [List.drop_length] at hpk
  have e0 : bnd (still (By f post [])) (fun zs => Gq (ys ++ zs)) Hk = Gq (ys ++ []) Hk := rfl
  rw [e0, List.append_nil] at hpk
  rw [List.drop_length, e0, List.append_nil] at hr0
  unfold Gq at hpk hr0
  by_cases hl : ys.length <= Bz
  .rw [if_pos hl] at hpk hr0
   have F1 : Bc U (X.withEx ((I, oI) :: (Cd, oC) :: (D, listOf (List.toArray ws) nD) :: X.ex)) ρk Hk h := by
    obtain ⟨Fr', ps, p, N, Dd, lo⟩ := F
    have pm : ((X.withEx ((Cd, oC) :: (I, oI) :: (D, listOf (List.toArray ws) nD) :: X.ex)).px ++ ps.flatten).Perm ((X.withEx ((I, oI) :: (Cd, oC) :: (D, listOf (List.toArray ws) nD) :: X.ex)).px ++ ps.flatten) :=
     ((List.Perm.swap _ _ _).append_left _).append_right _
    exact ⟨Fr', ps, p, D5 N fun q hq => pm.symm.subset hq, Cj pm Dd, lo⟩
   have F2 := F1.dropEx he
   have F3 : Bc U (X.withEx ((D, listOf (List.toArray ws) nD) :: (Cd, oC) :: X.ex)) ρk Hk h₁ := by
    obtain ⟨Fr', ps, p, N, Dd, lo⟩ := F2
    have pm : ((X.withEx ((Cd, oC) :: (D, listOf (List.toArray ws) nD) :: X.ex)).px ++ ps.flatten).Perm ((X.withEx ((D, listOf (List.toArray ws) nD) :: (Cd, oC) :: X.ex)).px ++ ps.flatten) :=
     ((List.Perm.swap _ _ _).append_left _).append_right _
    exact ⟨Fr', ps, p, D5 N fun q hq => pm.symm.subset hq, Cj pm Dd, lo⟩
   have F4 := F3.adopt (c := .list ys) ⟨ws, nD, rfl, hys.mono (List.prefix_append ..)⟩ hD3
   have hl4 : Hk.length = ρk.length := (FS.len F).symm
   refine hR (ρk ++ [(D, D)]) (Hk ++ [An.list ys]) (.ref Hk.length) h₁ tk oC mC (l0.trans (List.prefix_append ..)) F4 Eg ⟨(D, D), by rw [hl4]; simp, rfl⟩ (hr0.symm.trans rfl) ?_
   exact fun ρ' v' h' C3 l' => hpk ρ' v' h' C3 ((List.prefix_append ..).trans l')
  .rw [if_neg hl] at hpk; exact hpk.elim
 | some v =>
  have CV : k < items.length := (List.getElem?_eq_some_iff.mp hv).1
  have hdrop : items.drop k = v :: items.drop (k + 1) := by
   rw [List.drop_eq_getElem_cons CV]
   rw [List.getElem?_eq_getElem CV] at hv
   rw [Option.some.inj hv]
  refine src.item k (X.withEx ((Cd, oC) :: (I, oI) :: (D, listOf (List.toArray ws) nD) :: X.ex)) ρk Hk _ oI v _ _ l0 hv F gI hst hrd fun v' h₁ oI' tk₁ hv' hs₁ ho₁ hst' => ?_
  have F1 : Bc U (X.withEx ([(Cd, oC)] ++ (I, oI') :: (D, listOf (List.toArray ws) nD) :: X.ex)) ρk Hk h₁ := FS.setEx (X := X.withEx ((Cd, oC) :: (I, oI) :: (D, listOf (List.toArray ws) nD) :: X.ex)) (pre := [(Cd, oC)]) F rfl hs₁ ho₁
  have gC : h₁.get? Cd = some oC := F1.exGet (p := (Cd, oC)) (.head _)
  refine wpAny_assign_Name (wpAny_storeName_local (m := mC) hx (by rw [hCd]; exact Eg h₁ gC) (fun h₂ hn₂ hs₂ => ?_) hp)
  rw [hCd] at hn₂ hs₂
  obtain ⟨oC', es', ep', gC', hd', hk', hf'⟩ := hn₂
  have F2 : Bc U (X.withEx ((Cd, oC') :: (I, oI') :: (D, listOf (List.toArray ws) nD) :: X.ex)) ρk Hk h₂ := FS.setEx (X := X.withEx ((Cd, oC) :: (I, oI') :: (D, listOf (List.toArray ws) nD) :: X.ex)) (pre := []) F1 rfl hs₂ gC'
  have hns' : ∀ g : Heap, g.get? Cd = some oC' -> g.Ns Cd (fun y => if y = nm then some v' else mC y) := fun g hg => ⟨oC', es', ep', hg, hd', hk', hf'⟩
  rw [hdrop] at hpk hr0
  rw [Kh] at hpk hr0
  refine turn ((Cd, oC') :: (I, oI') :: (D, listOf (List.toArray ws) nD) :: X.ex) ρk Hk _ v v' _ oC' (fun y => if y = nm then some v' else mC y) l0 (fun p hp => .tail _ (.tail _ (.tail _ hp))) F2 hv' (.head _) hns' (by simp) (QQ := fun o s₄ => match o with
   | some y => wpAny (model U.prog U.w) A (call (.builtin "list.append") [.ref D, y]) (fun _ s₅ => ∃ m, m < items.length + 1 - k /\ Oo U xc X ρ0 items Ready st f post I Cd D Qf s0 r0 m s₅) (notedBy (model U.prog U.w) A cenv fun e s' => R (.error e) s') s₄
   | none => ∃ m, m < items.length + 1 - k /\ Oo U xc X ρ0 items Ready st f post I Cd D Qf s0 r0 m s₄) ?_
  unfold Ay
  cases hfv : f v Hk with
  | bad => rw [ER hfv] at hpk; exact hpk.elim
  | exc e H1 => rw [HA hfv] at hpk; exact hpk.elim
  | ok y H1 =>
   rw [D6 hfv] at hpk hr0
   intro ρ1 y' h₃ tk₃ l1 F3 r3
   rcases hpost H1 with ⟨AR, hrd1⟩ | AR
   .rw [D6 AR] at hpk hr0
    have e3 : ∀ s' : Shared, Ay (AP U) U xc X ρ1 (bnd (still (By f post (items.drop (k + 1)))) (fun zs => Gq ((ys ++ y.toList) ++ zs)) H1) Qf (fun _ _ => False) { s0 with heap := s'.heap, toks := s'.toks } := by
     intro s'
     simp only [List.append_assoc]
     exact Ay.later hpk l1 _ _
    cases y with
    | none =>
     cases y' with
     | some _ => exact r3.elim
     | none =>
      refine ⟨items.length + 1 - (k + 1), by omega, ⟨k + 1, ρ1, H1, h₃, tk₃, ys, ws, oI', oC', _, nD, rfl, rfl, CV, l0.trans l1, F3, hst', hns', hys.mono l1, Nat.le_succ_of_le hyk, hrd1, ?_⟩⟩
      have := e3 { s0 with heap := h₃, toks := tk₃ }
      exact ⟨by simpa using this, by simpa using hr0⟩
    | some z =>
     cases y' with
     | none => exact r3.elim
     | some z' =>
      have gD : h₃.get? D = some (listOf (List.toArray ws) nD) := F3.exGet (p := (D, _)) (.tail _ (.tail _ (.head _)))
      refine append_at (its := ws.toArray) (n := nD) gD (fun h₄ hs₄ ho₄ => ?_) ?_
      .have ho₄' : h₄.get? D = some (listOf (List.toArray (ws ++ [z'])) (nD + 1)) := by rw [ho₄, List.push_toArray]
       have F4 := FS.setEx (X := X.withEx ((Cd, oC') :: (I, oI') :: (D, listOf (List.toArray ws) nD) :: X.ex)) (pre := [(Cd, oC'), (I, oI')]) F3 rfl hs₄ ho₄'
       exact ⟨items.length + 1 - (k + 1), by omega, ⟨k + 1, ρ1, H1, h₄, tk₃, ys ++ [z], ws ++ [z'], oI', oC', _, nD + 1, rfl, rfl, CV, l0.trans l1, F4, hst', hns', (hys.mono l1).append (.one r3), by rw [List.length_append]; exact Nat.succ_le_succ hyk, hrd1, e3 { s0 with heap := h₄, toks := tk₃ }, by rw [<- hr0]; simp⟩⟩
      .rw [List.size_toArray, hys.length]; exact Cy (by omega)
   .rw [ER AR] at hpk
    exact hpk.elim
theorem Kf (gf : GF U X.G) (x : Bc U X ρ H s.heap) : 3 < s.heap.objs.size := by
 have h1 := x.fr.above
 have h2 : (X.L : Nat) < s.heap.objs.size := x.fr.ns.lt
 have h3 : 2 < X.G.objs.size := by
  obtain ⟨mc, hn, _⟩ := gf.T.nolimit
  exact hn.lt
 exact Nat.lt_of_le_of_lt (Nat.le_trans h3 h1) h2
theorem Gy {f : V -> M (Option V)} {post : M Unit} {items : List V} {Q : Value -> Shared -> Prop} {E E' : Value -> Shared -> Prop} (hp : Ay (AP U) U xc X ρ (bnd (still (By f post items)) Gq H) Q E s) : Ay (AP U) U xc X ρ (bnd (still (By f post items)) Gq H) Q E' s := by
 simp only [bnd, still] at hp ⊢
 cases q : By f post items H with
 | bad => rw [q] at hp; exact hp.elim
 | exc e H1 => rw [q] at hp; exact hp.elim
 | ok ys H1 =>
  rw [q] at hp
  dsimp only at hp ⊢
  unfold Gq at hp ⊢
  split at hp
  .rename_i h; rw [if_pos h]; exact hp
  .exact hp.elim
theorem IF {elt iter : PySem.Expr} {nm : Str} {px : Pos} {ifs : List PySem.Expr} {scope : Scope} {pos : Pos} {cl : List (Str × Addr)} {I : Addr} {items : List V} {Ready : MH -> Prop} {st : Nat -> Obj -> Prop} {f : V -> M (Option V)} {post : M Unit}
  {Qf : Value -> Shared -> Prop} {oI : Obj} {use : Option (Value -> Sem Unit)} {Q : Value -> Shared -> Prop} (gf : GF U X.G) (BN : items.length <= Bz)
  (F : Bc U (X.withEx ((I, oI) :: X.ex)) ρ H s.heap) (hst : st 0 oI) (src : Q8 U A I items Ready ρ st) (hpost : ∀ H, (post H = .ok () H /\ Ready H) \/ post H = .bad) (rd : Ready H)
  (hcell : ∀ y ∈ scope.names, y.2 ≠ .cell) (hkind : scope.kind = .function) (hx : scope.names.lookup nm = some .local)
  (hp : Ay (AP U) U xc X ρ (bnd (still (By f post items)) Gq H) Qf (fun _ _ => False) s)
  (turn : ∀ Cd (ex' : List (Addr × Obj)) ρ' H s v v' (QQ : Option Value -> Shared -> Prop) E' oC mC, ρ <+: ρ' -> (∀ p ∈ X.ex, p ∈ ex') -> Bc U (X.withEx ex') ρ' H s.heap -> AP U ρ' v v' -> (Cd, oC) ∈ ex' -> (∀ g : Heap, g.get? Cd = some oC -> g.Ns Cd mC) -> mC nm = some v' ->
   Ay (Ru U) U xc (X.withEx ex') ρ' (f v H) QQ E' s ->
   wpAny (model U.prog U.w) A (forIn ifs true fun c r => if r = true then do let ok <- isTrue c (compEnvC scope cl Cd env) (eval c (compEnvC scope cl Cd env)); pure (ForInStep.yield ok) else pure (ForInStep.yield r))
    (fun ok s₃ => if ok = true then wpAny (model U.prog U.w) A (eval elt (compEnvC scope cl Cd env)) (fun y s₄ => QQ (some y) s₄) E' s₃ else QQ none s₃) E' s)
  (hR : ∀ D Cd ρ' H' v h' C3 oC mC, ρ <+: ρ' -> Bc U (X.withEx ((Cd, oC) :: X.ex)) ρ' H' h' -> (∀ g : Heap, g.get? Cd = some oC -> g.Ns Cd mC) -> AP U ρ' v (.ref D) -> bnd (still (By f post items)) Gq H = .ok v H' -> Ay (AP U) U xc X ρ' (.ok v H') Qf (fun _ _ => False) { s with heap := h', toks := C3 } ->
   compPost (model U.prog U.w) A E use Q (.ref D) Cd (.ok .next) { s with heap := h', toks := C3 }) :
  wpAny (model U.prog U.w) A (newList []) (fun acc s₃ => wpAny (model U.prog U.w) A (newFunctionEnv scope env.globals cl [] env.qual none .none (some env)) (fun cenv s₄ =>
   codeAny (model U.prog U.w) A (.compStart (.ListComp elt [⟨.Name nm px, iter, ifs, 0⟩] scope pos) 0 (.ref I) acc { cenv with scope := relabel scope env }) (compPost (model U.prog U.w) A E use Q acc cenv.locals) s₄) E s₃) E s := by
 refine wpAny_newObj_type (wpAny_newFunctionEnv hcell (by intro y hy; simp at hy) (fun h₁ hns₁ hsb₁ => ?_) hkind)
 dsimp only at hns₁ hsb₁ ⊢
 have F1 := FS.addEx (a := s.heap.objs.size) (o := { cls := .type "list", data := .seq #[] }) F (h' := s.heap.push { cls := .type "list", data := .seq #[] }) (fun b o e => DT _ e) (Heap.get?_push_size _ rfl) (Nat.le_refl _)
 generalize hH2 : s.heap.push { cls := .type "list", dict := none, data := .seq ([] : List Value).toArray } = H2 at hns₁ hsb₁ ⊢
 have hF1 : Bc U ((X.withEx ((I, oI) :: X.ex)).withEx ((s.heap.objs.size, { cls := .type "list", data := .seq #[] }) :: (I, oI) :: X.ex)) ρ H H2 := hH2 ▸ F1
 have hn₁ := hns₁
 obtain ⟨oC, es, ep, gC, hd, hk, hf⟩ := hns₁
 have keep : ∀ b o, H2.get? b = some o -> h₁.get? b = some o := fun b o e => (hsb₁.2 b (Nat.ne_of_lt (Heap.lt_size e))).trans (DT _ e)
 have F2 := FS.addEx (a := H2.objs.size) (o := oC) hF1 keep gC (Nat.le_refl _)
 have hnsC : ∀ g : Heap, g.get? H2.objs.size = some oC -> g.Ns H2.objs.size (fun x => ([] : List (Str × Value)).reverse.lookup x) := fun g hg => ⟨oC, es, ep, hg, hd, hk, hf⟩
 have F3 : Bc U (X.withEx ((H2.objs.size, oC) :: (I, oI) :: (s.heap.objs.size, listOf (List.toArray []) 0) :: X.ex)) ρ H h₁ := by
  obtain ⟨Fr', ps, p, N, Dd, lo⟩ := F2
  have pm : ((X.withEx ((H2.objs.size, oC) :: (s.heap.objs.size, listOf (List.toArray []) 0) :: (I, oI) :: X.ex)).px ++ ps.flatten).Perm ((X.withEx ((H2.objs.size, oC) :: (I, oI) :: (s.heap.objs.size, listOf (List.toArray []) 0) :: X.ex)).px ++ ps.flatten) :=
   (((List.Perm.swap _ _ _).cons _).append_left _).append_right _
  exact ⟨Fr', ps, p, D5 N fun q hq => pm.symm.subset hq, Cj pm Dd, lo⟩
 have inv : Oo U xc X ρ items Ready st f post I H2.objs.size s.heap.objs.size Qf s (bnd (still (By f post items)) Gq H) (items.length + 1 - 0) { s with heap := h₁, toks := s.toks + ([] : List (Str × Value)).length } :=
  ⟨0, ρ, H, h₁, _, [], [], oI, oC, _, 0, rfl, rfl, Nat.zero_le _, B8 _, F3, hst, hnsC, trivial, Nat.le_refl _, rd, by
   rw [List.drop_zero]
   have e : (fun zs => Gq ([] ++ zs)) = Gq := by funext zs; rfl
   rw [e]
   exact ⟨Ay.later hp (B8 _) _ _, rfl⟩⟩
 have loop : ∀ s₃ : Shared, s₃ = { s with heap := h₁, toks := s.toks + ([] : List (Str × Value)).length } ->
   codeAny (model U.prog U.w) A (.compLoop (.ListComp elt [⟨.Name nm px, iter, ifs, 0⟩] scope pos) 0 (.ref I) (.ref s.heap.objs.size) (compEnvC scope cl H2.objs.size env))
    (compPost (model U.prog U.w) A E use Q (.ref s.heap.objs.size) H2.objs.size) s₃ := by
  rintro s₃ rfl
  exact I9 (xc := xc) (X := X) (ρ0 := ρ) (Qf := Qf) BN (Kf (X := X.withEx ((I, oI) :: X.ex)) gf F) src hpost (cenv := compEnvC scope cl H2.objs.size env) (lookup_relabel_local hx) (by simp [compEnvC, relabel, hkind]) rfl
   (turn H2.objs.size) (fun ρ' H' v h' C3 oC mC l F Eg hv er hp => hR _ _ ρ' H' v h' C3 oC mC l F Eg hv er hp) inv
 have gI : h₁.get? I = some oI := FS.exGet F3 (p := (I, oI)) (.tail _ (.head _))
 exact codeAny_compStart_list (loop _ rfl) (src.self 0 _ oI _ _ gI hst (loop _ rfl))
def Cp (ns : Ft) (l : Ft) : Ft := l.map fun (n, k) => if (k == NameKind.free && ns.lookup n == some .cell) then (n, NameKind.cell) else (n, k)
def E9 : PySem.Expr -> Bool
 | .Set .. => false
 | _ => true
theorem DB {e : PySem.Expr} {env : PySem.Env} (h : E9 e = true) : ∀ x, foldedSetIterable e env x = pure x := by
 intro x
 cases e <;> first | rfl | (cases h; done)
theorem EI (ek : AZ X Ac env ns) (sc : Scope) : (relabel sc env).names = Cp ns sc.names := by
 unfold relabel Cp PySem.Env.kindOf
 rw [ek.names, ek.kind]
 simp
theorem AZ.ex (ek : AZ X Ac env ns) (ex : List (Addr × Obj)) : AZ (X.withEx ex) Ac env ns := ⟨ek.names, ek.kind, ek.glo, ek.blt, ek.frm, ek.hc⟩
theorem Cx.ex (cx : Cx U A X Ac n) (ex : List (Addr × Obj)) : Cx U A (X.withEx ex) Ac n := ⟨cx.B, cx.hA, cx.hf, cx.hk, cx.hh, cx.hd, cx.hu, cx.gf⟩
def Fin (U : Un) (xc : Value) (X : Fx) (A : Around) (E : Value -> Shared -> Prop) (use : Option (Value -> Sem Unit)) (ρ : B0) (r0 : R V) (Qf Q : Value -> Shared -> Prop) (s : Shared) : Prop :=
 ∀ D Cd ρ' H' v h' C3 oC mC, ρ <+: ρ' -> Bc U (X.withEx ((Cd, oC) :: X.ex)) ρ' H' h' -> (∀ g : Heap, g.get? Cd = some oC -> g.Ns Cd mC) -> AP U ρ' v (.ref D) -> r0 = .ok v H' -> Ay (AP U) U xc X ρ' (.ok v H') Qf (fun _ _ => False) { s with heap := h', toks := C3 } ->
  compPost (model U.prog U.w) A E use Q (.ref D) Cd (.ok .next) { s with heap := h', toks := C3 }
theorem K3 {Q : Value -> Shared -> Prop} {r0 : R V} : Fin U xc X A E none ρ r0 Q Q s := by
 intro D Cd ρ' H' v h' C3 oC mC l x Eg r _ hp
 refine ⟨mC, Eg _ (x.exGet (p := (Cd, oC)) (.head _)), fun h'' hs => ?_⟩
 exact hp ρ' (.ref D) h'' C3 (B8 _) (x.dropEx hs.extBut) r
def D4 (sc : Scope) (gens : List Comprehension) (pos : Pos) (e : PySem.Expr) (newAcc : Sem Value) (env : PySem.Env) (use : Option (Value -> Sem Unit)) : Sem Value :=
 comprehension e sc env (firstIterPos gens pos) newAcc (firstAsync gens) (firstIter gens env) use
def Py (U : Un) (xc : Value) (C : Ef Fn) (A : Around) (X : Fx) (env : PySem.Env) (Γ : List Str) (m : ME Fn) (sem : Option (Value -> Sem Unit) -> Sem Value) : Prop :=
 ∀ ρ H s vs use Qf Q E, Bc U X ρ H s.heap -> EO U X ρ env Γ vs -> Ay (AP U) U xc X ρ (Aa C m vs H) Qf E s -> (∀ ρ' h tk, ρ <+: ρ' -> Fin U xc X A E use ρ' (Aa C m vs H) Qf Q { s with heap := h, toks := tk }) -> wpAny (model U.prog U.w) A (sem use) Q E s
theorem Jd {sc : Scope} {x : Str} (ek : AZ X Ac env ns) (k : E7 ns Γ sc x) (cx : Cx U A X Ac n) {me : ME Fn} {elt : PySem.Expr}
  (h2 : ∀ X' Aj, Cx U A X' Ac n -> AZ X' Ac Aj (Cp ns sc.names) -> SE U xc C A X' Aj (Γ ++ [x]) me elt) (eo : EO U X ρ env Γ vs)
  (Cd : Addr) (ex' : List (Addr × Obj)) (ρ' : B0) (H : MH) (s : Shared) (v : V) (v' : Value) (QQ : Option Value -> Shared -> Prop) (E' : Value -> Shared -> Prop) (oC : Obj) (mC : Str -> Option Value) (l : ρ <+: ρ') (hex : ∀ p ∈ X.ex, p ∈ ex') (F : Bc U (X.withEx ex') ρ' H s.heap) (hv : AP U ρ' v v') (hm : (Cd, oC) ∈ ex') (Eg : ∀ g : Heap, g.get? Cd = some oC -> g.Ns Cd mC) (hx : mC x = some v')
  (hp : Ay (Ru U) U xc (X.withEx ex') ρ' (bnd (Aa C me (vs ++ [some v])) (fun y => Mine.ret (some y)) H) QQ E' s) :
  wpAny (model U.prog U.w) A (eval elt (compEnvC sc (BU env.cells sc.names []) Cd env)) (fun y s₄ => QQ (some y) s₄) E' s := by
 have ek2 := Jx ek k Cd
 rw [EI ek] at ek2
 refine h2 (X.withEx ex') _ (cx.ex ex') (ek2.ex ex') ρ' H s _ _ E' F (KC ek k eo l hex hm Eg hv hx) (hp.bnd (rel1 := AP U) fun y H2 ρ2 y' h2 tk2 _ l2 x2 r2 B9 => ?_)
 exact B9 ρ2 (some y') h2 tk2 (B8 _) x2 r2
theorem Jk {M : Model} {env : PySem.Env} {Q : Bool -> Shared -> Prop} (h : Q true s) : wpAny M A (forIn ([] : List PySem.Expr) true fun c r => if r = true then do let ok <- isTrue c env (eval c env); pure (ForInStep.yield ok) else pure (ForInStep.yield r)) Q E s := BW h
theorem Ol {M : Model} {env : PySem.Env} {Q : Bool -> Shared -> Prop} {c : PySem.Expr} (h : wpAny M A (isTrue c env (eval c env)) Q E s) : wpAny M A (forIn [c] true fun c r => if r = true then do let ok <- isTrue c env (eval c env); pure (ForInStep.yield ok) else pure (ForInStep.yield r)) Q E s := by
 rw [List.forIn_cons]
 refine Az ?_
 rw [if_pos rfl]
 refine Az (wpAny_mono h (fun t s' hq => BW ?_) fun _ _ e => e)
 exact BW hq
theorem I0 {elt iter : PySem.Expr} {sc : Scope} {x : Str} {px : Pos} {me mi : ME Fn} (cx : Cx U A X Ac n) (ek : AZ X Ac env ns) (k : E7 ns Γ sc x) (hset : E9 iter = true)
  (h1 : SE U xc C A X env Γ mi iter)
  (h2 : ∀ X' Aj, Cx U A X' Ac n -> AZ X' Ac Aj (Cp ns sc.names) -> SE U xc C A X' Aj (Γ ++ [x]) me elt) :
  Py U xc C A X env Γ (.comp me mi) (D4 sc [⟨.Name x px, iter, [], 0⟩] pos (.ListComp elt [⟨.Name x px, iter, [], 0⟩] sc pos) (newList []) env) := by
 intro ρ H s vs use Qf Q E hx eo hp fin
 rw [Aa] at hp
 refine wpAny_comprehension_free (cl := BU env.cells sc.names []) rfl (DB hset) (C0 (Dw ek k)) k.kind (fun p hp e => (k.loc p hp e).2) ?_
 refine h1 ρ H s vs _ E hx eo (hp.bnd (rel1 := AP U) fun l H1 ρ1 l' h1 BT he l1 x1 r1 AR => ?_)
 obtain ⟨i, c, rfl, hc, B9⟩ := BC AR
 have hp3 := B9
 cases c <;> first | (unfold bnd C8 bnd AJ at hp3; simp only [hc] at hp3; exact hp3.elim) | skip
 rename_i xs
 have hl : xs.length <= Bz := by
  by_cases hl : xs.length <= Bz
  .exact hl
  .unfold bnd C8 bnd AJ at hp3
   simp only [hc] at hp3
   rw [if_neg hl] at hp3
   exact hp3.elim
 have hp4 : Ay (AP U) U xc X ρ1 (bnd (still (By (fun x => bnd (Aa C me (vs ++ [some x])) fun y => Mine.ret (some y)) (stays (.ref i) (.list xs)) xs)) Gq H1) Qf E { s with heap := h1, toks := BT } := by
  unfold bnd C8 bnd AJ at hp3
  simp only [hc] at hp3
  rw [if_pos hl] at hp3
  exact hp3
 have ee : Aa C (.comp me mi) vs H = bnd (still (By (fun x => bnd (Aa C me (vs ++ [some x])) fun y => Mine.ret (some y)) (stays (.ref i) (.list xs)) xs)) Gq H1 := by
  rw [Aa]
  simp only [bnd, he, AJ, hc, C8, if_pos hl, Mine.ret]
  rfl
 obtain ⟨a, e1, lo, ws, il, vv⟩ := FS.at (s := { s with heap := h1, toks := BT }) x1 hc
 obtain ⟨p, ep, rfl⟩ := r1
 have ep' := ep
 rw [e1] at ep; cases ep
 refine wpAny_pyIter_list (s := { s with heap := h1, toks := BT }) il ?_
 have hh : A.handled = none := cx.hh
 have F := FS.addEx (a := h1.objs.size) (o := { cls := .type "list_iterator", data := .fields #[.ref a.1, .int 0 0] }) x1 (fun b o e => DT _ e) (Heap.get?_push_size _ rfl) (Nat.le_refl _)
 refine IF (xc := xc) (X := X) (ρ := ρ1) (H := H1) (items := xs) (st := fun k o => o.cls = .type "list_iterator" /\ o.data = .fields #[.ref a.1, .int k 0]) (Ready := fun H => H[i]? = some (.list xs)) cx.gf hl F ⟨rfl, rfl⟩
  (LR hh ep') (fun H => ?_) hc k.cell k.kind k.it (Ay.later (Gy hp4) (B8 _) _ _) (fun Cd ex' ρ' H s v v' QQ E' oC mC l hex F hv hm Eg hx hp => ?_) (fun D Cd ρ' H' v h' C3 oC mC l F Eg hv er hp => fin _ _ _ (l1.trans l) D Cd ρ' H' v h' C3 oC mC (B8 _) F Eg hv (ee.trans er) hp)
 .by_cases q : H[i]? = some (.list xs)
  .exact .inl ⟨by unfold stays bnd AJ; simp only [q, if_true]; rfl, q⟩
  .right
   unfold stays bnd AJ
   cases e : H[i]? with
   | none => simp only [e]
   | some c =>
    simp only [e]
    rw [if_neg (fun z => q (by rw [e, z]))]; rfl
 .refine Jk ?_
  rw [if_pos rfl]
  exact Jd ek k cx h2 (eo.mono l1) Cd ex' ρ' H s v v' QQ E' oC mC l hex F hv hm Eg hx hp
def EF (lo hi : Int) (k : Nat) : Obj := { cls := .type "range_iterator", dict := none, data := .fields #[rawInt (lo + k), rawInt (((hi - lo).toNat : Int) - k), rawInt 1], slots := #[] }
theorem GO {lo hi : Int} (h0 : 0 <= lo) (h1 : lo <= Bz) (h2 : hi <= Bz) (h3 : -(Bz : Int) <= hi) : Builtin.Range.small lo hi 1 = true := by
 unfold Bz at *
 exact small_one (by omega) (by omega) (by omega) (by omega)
theorem Mu (lo hi : Int) : ({ cls := .type "range_iterator", data := .fields #[rawInt lo, rawInt (Builtin.Range.rangeSize lo hi 1), rawInt 1] } : Obj) = EF lo hi 0 := by
 unfold EF
 rw [rangeSize_one]
 have e1 : lo + ((0 : Nat) : Int) = lo := by simp
 have e2 : (((hi - lo).toNat : Nat) : Int) - ((0 : Nat) : Int) = if lo < hi then hi - lo else 0 := by split <;> omega
 rw [e1, e2]
theorem Gx {lo hi : Int} {t u v : Tok} {Q : Value -> Shared -> Prop} (x : Bc U X ρ H s.heap) (hf : Builtin.Range.small lo hi 1 = true)
  (k : ∀ h1 I, Bc U (X.withEx ((I, EF lo hi 0) :: X.ex)) ρ H h1 -> Q (.ref I) { s with heap := h1 }) :
  wpAny (model U.prog U.w) A (pyIter (.ref s.heap.objs.size)) Q E { s with heap := s.heap.push { cls := .type "range", data := .fields #[.int lo t, .int hi u, .int 1 v] } } := by
 refine wpAny_pyIter_range (s := { s with heap := s.heap.push { cls := .type "range", data := .fields #[.int lo t, .int hi u, .int 1 v] } }) (IsRange.new s.heap lo hi 1 t u v) hf ?_
 rw [Mu]
 refine k _ _ ?_
 exact FS.addEx (x.keeps fun b o e => DT _ e) (fun b o e => DT _ e) (Heap.get?_push_size _ rfl) (Nat.le_refl _)
theorem Ie {α β : Type} {rel : B0 -> α -> β -> Prop} {Q : β -> Shared -> Prop} {Q' : Value -> Shared -> Prop} {g : Int -> M α} {m : ME Fn} {e : PySem.Expr} (ek : AZ X Ac env ns) (gf : GF U X.G) (ub : UB U) (hn : D3 ns "range" = true) (hs : As e = true)
  (h : SE U xc C A X env Γ m e) (x : Bc U X ρ H s.heap) (eo : EO U X ρ env Γ vs)
  (hp : Ay rel U xc X ρ (bnd (Aa C m vs) (fun k => (match k with | .int n => if 0 <= n /\ n <= Bz then g n else Mine.bad | _ => Mine.bad)) H) Q E s)
  (k : ∀ ρ1 H1 h1 BT (n : Int) I, ρ <+: ρ1 -> 0 <= n -> n <= Bz -> bnd (Aa C m vs) (fun k => (match k with | .int n => if 0 <= n /\ n <= Bz then g n else Mine.bad | _ => Mine.bad)) H = g n H1 -> Bc U (X.withEx ((I, EF 0 n 0) :: X.ex)) ρ1 H1 h1 -> Ay rel U xc X ρ1 (g n H1) Q E { s with heap := h1, toks := BT } -> Q' (.ref I) { s with heap := h1, toks := BT }) :
  wpAny (model U.prog U.w) A (eval (.Call (.Name "range" np) [e] [] pos) env) (fun y s₁ => wpAny (model U.prog U.w) A (pyIter y) Q' E s₁) E s := by
 refine B5 (Cg ek gf x hn (ub.blt "range" (by decide)) rfl (Dj (nm := "range") (by decide)) ?_)
 refine AF (P := fun _ => True) (by simp [hs]) D1 ?_
 refine spliced_more (h ρ H s vs _ E x eo (hp.bnd (rel1 := AP U) fun v H1 ρ1 v' h1 BT he l1 x1 r1 AR => ?_)) (AX hs)
 refine wpAny_items_nil ⟨trivial, ?_⟩
 cases v <;> first | exact AR.elim | skip
 rename_i n
 dsimp only at AR
 by_cases hb : 0 <= n /\ n <= Bz
 .rw [if_pos hb] at AR
  obtain ⟨t, rfl⟩ := r1
  refine call_range_1 (Gx (s := { s with heap := h1, toks := BT + 1 + 1 }) x1 (GO (by decide) (by unfold Bz; decide) hb.2 (by have := hb.1; unfold Bz; omega)) fun h2 I F => ?_)
  exact k ρ1 H1 h2 _ n I l1 hb.1 hb.2 (by simp only [bnd, he, if_pos hb]) F (Ay.later AR (B8 _) _ _)
 .rw [if_neg hb] at AR; exact AR.elim
theorem Ip {n : Int} (h : n <= Bz) : (B3 0 n).length <= Bz := by
 unfold B3
 rw [List.length_map, List.length_range]
 omega
theorem Ig {elt e : PySem.Expr} {sc : Scope} {x : Str} {px : Pos} {me mn : ME Fn} {p2 p3 : Pos} (cx : Cx U A X Ac n) (ek : AZ X Ac env ns) (ub : UB U) (k : E7 ns Γ sc x) (hn : D3 ns "range" = true) (hs : As e = true)
  (h1 : SE U xc C A X env Γ mn e)
  (h2 : ∀ X' Aj, Cx U A X' Ac n -> AZ X' Ac Aj (Cp ns sc.names) -> SE U xc C A X' Aj (Γ ++ [x]) me elt) :
  Py U xc C A X env Γ (.compR me mn) (D4 sc [⟨.Name x px, .Call (.Name "range" p2) [e] [] p3, [], 0⟩] pos (.ListComp elt [⟨.Name x px, .Call (.Name "range" p2) [e] [] p3, [], 0⟩] sc pos) (newList []) env) := by
 intro ρ H s vs use Qf Q E hx eo hp fin
 rw [Aa] at hp
 refine wpAny_comprehension_free (cl := BU env.cells sc.names []) rfl (DB rfl) (C0 (Dw ek k)) k.kind (fun p hp e => (k.loc p hp e).2) ?_
 refine Ie ek cx.gf ub hn hs h1 hx eo hp fun ρ1 H1 h1 BT n I l1 h0 hl ee F AR => ?_
 have hh : A.handled = none := cx.hh
 refine IF (s := { s with heap := h1, toks := BT }) (xc := xc) (X := X) (ρ := ρ1) (H := H1) (items := B3 0 n) (st := fun k o => o = EF 0 n k) (Ready := fun _ => True) cx.gf (Ip hl) F rfl
  (Gk hh) (fun H => .inl ⟨rfl, trivial⟩) trivial k.cell k.kind k.it (Ay.later (Gy AR) (B8 _) _ _) (fun Cd ex' ρ' H s v v' QQ E' oC mC l hex F hv hm Eg hx hp => ?_) (fun D Cd ρ' H' v h' C3 oC mC l F Eg hv er hp => fin _ _ _ (l1.trans l) D Cd ρ' H' v h' C3 oC mC (B8 _) F Eg hv (by rw [Aa]; exact ee.trans er) hp)
 refine Jk ?_
 rw [if_pos rfl]
 exact Jd ek k cx h2 (eo.mono l1) Cd ex' ρ' H s v v' QQ E' oC mC l hex F hv hm Eg hx hp
theorem LU {elt e c : PySem.Expr} {sc : Scope} {x : Str} {px : Pos} {me mc mn : ME Fn} {p2 p3 : Pos} (cx : Cx U A X Ac n) (ek : AZ X Ac env ns) (ub : UB U) (k : E7 ns Γ sc x) (hn : D3 ns "range" = true) (hs : As e = true)
  (h1 : SE U xc C A X env Γ mn e)
  (h2 : ∀ X' Aj, Cx U A X' Ac n -> AZ X' Ac Aj (Cp ns sc.names) -> SE U xc C A X' Aj (Γ ++ [x]) me elt)
  (h3 : ∀ X' Aj, Cx U A X' Ac n -> AZ X' Ac Aj (Cp ns sc.names) -> ST U xc C A X' Aj (Γ ++ [x]) mc c) :
  Py U xc C A X env Γ (.compIf me mc mn) (D4 sc [⟨.Name x px, .Call (.Name "range" p2) [e] [] p3, [c], 0⟩] pos (.ListComp elt [⟨.Name x px, .Call (.Name "range" p2) [e] [] p3, [c], 0⟩] sc pos) (newList []) env) := by
 intro ρ H s vs use Qf Q E hx eo hp fin
 rw [Aa] at hp
 refine wpAny_comprehension_free (cl := BU env.cells sc.names []) rfl (DB rfl) (C0 (Dw ek k)) k.kind (fun p hp e => (k.loc p hp e).2) ?_
 refine Ie ek cx.gf ub hn hs h1 hx eo hp fun ρ1 H1 h1 BT n I l1 h0 hl ee F AR => ?_
 have hh : A.handled = none := cx.hh
 refine IF (s := { s with heap := h1, toks := BT }) (xc := xc) (X := X) (ρ := ρ1) (H := H1) (items := B3 0 n) (st := fun k o => o = EF 0 n k) (Ready := fun _ => True) cx.gf (Ip hl) F rfl
  (Gk hh) (fun H => .inl ⟨rfl, trivial⟩) trivial k.cell k.kind k.it (Ay.later (Gy AR) (B8 _) _ _) (fun Cd ex' ρ' H s v v' QQ E' oC mC l hex F hv hm Eg hx hp => ?_) (fun D Cd ρ' H' v h' C3 oC mC l F Eg hv er hp => fin _ _ _ (l1.trans l) D Cd ρ' H' v h' C3 oC mC (B8 _) F Eg hv (by rw [Aa]; exact ee.trans er) hp)
 refine Ol ?_
 have ek2 := Jx ek k Cd
 rw [EI ek] at ek2
 have eo1 := eo.mono (env := env) (Γ := Γ) (vs := vs) l1
 have e0 : bnd (Aa C mc (vs ++ [some v])) (fun c => bnd (Aw c) fun t => if t = true then bnd (Aa C me (vs ++ [some v])) fun y => Mine.ret (some y) else Mine.ret Option.none) H = bnd (bnd (Aa C mc (vs ++ [some v])) Aw) (fun t => if t = true then bnd (Aa C me (vs ++ [some v])) fun y => Mine.ret (some y) else Mine.ret Option.none) H := by
  simp only [bnd]
  cases Aa C mc (vs ++ [some v]) H <;> rfl
 rw [e0] at hp
 refine h3 (X.withEx ex') _ (cx.ex ex') (ek2.ex ex') ρ' H s _ _ E' F (KC ek k eo1 l hex hm Eg hv hx) (hp.bnd (rel1 := Q6) fun u H2 ρ2 t' h2' tk2 _ l2 x2 r2 B9 => ?_)
 cases r2
 cases u
 .exact B9 ρ2 none h2' tk2 (B8 _) x2 trivial
 .rw [if_pos rfl] at B9 ⊢
  exact Jd ek k cx h2 eo1 Cd ex' ρ2 H2 _ v v' QQ E' oC mC (l.trans l2) hex x2 (hv.mono l2) hm Eg hx B9
abbrev Un.pinAt (U : Un) (a : Addr) (o : Obj) : Un := { U with pin := fun b => if b = a then some o else U.pin b }
theorem PR.map {U U' : Un} {ρ : B0} : ∀ {H H' : MH} {r : B0} {ps : List (List (Addr × Obj))}, PR U ρ H r ps -> H'.length = H.length ->
  (∀ (j : Nat) c c' a l, H[j]? = some c -> H'[j]? = some c' -> r[j]? = some a -> ps[j]? = some l -> CR U ρ c a l -> CR U' ρ c' a l) -> PR U' ρ H' r ps
 | [], [], [], [], _, _, _ => trivial
 | c :: H, c' :: H', a :: r, l :: ps, ⟨x, y⟩, e, k =>
  ⟨k 0 c c' a l rfl rfl rfl rfl x, PR.map y (by simpa using e) fun j c c' a l e1 e2 e3 e4 => k (j + 1) c c' a l (by simpa using e1) (by simpa using e2) (by simpa using e3) (by simpa using e4)⟩
 | [], _ :: _, _, _, _, e, _ => by simp at e
 | _ :: _, [], _, _, _, e, _ => by simp at e
 | [], [], _ :: _, _, x, _, _ => x.elim
 | [], [], [], _ :: _, x, _, _ => x.elim
 | _ :: _, _ :: _, [], _, x, _, _ => x.elim
 | _ :: _, _ :: _, _ :: _, [], x, _, _ => x.elim
theorem IY {ps : List (List (Addr × Obj))} (d : B4 ps.flatten) {i j : Nat} {a b : Addr} {oa ob : Obj} (hi : ps[i]? = some [(a, oa)]) (hj : ps[j]? = some [(b, ob)]) (hn : i ≠ j) : a ≠ b := by
 unfold B4 at d
 rw [List.map_flatten] at d
 unfold List.Nodup at d
 rw [List.pairwise_flatten] at d
 have d2 := d.2
 rw [List.pairwise_iff_getElem] at d2
 have li : i < (ps.map (List.map (·.1))).length := by have := (List.getElem?_eq_some_iff.mp hi).1; simpa using this
 have lj : j < (ps.map (List.map (·.1))).length := by have := (List.getElem?_eq_some_iff.mp hj).1; simpa using this
 have ei : (ps.map (List.map (·.1)))[i] = [a] := by
  have := (List.getElem?_eq_some_iff.mp hi).2
  simp [this]
 have ej : (ps.map (List.map (·.1)))[j] = [b] := by
  have := (List.getElem?_eq_some_iff.mp hj).2
  simp [this]
 intro e
 subst e
 rcases Nat.lt_or_gt_of_ne hn with h | h
 .have := d2 i j li lj h
  rw [ei, ej] at this
  exact this _ (List.mem_singleton.mpr rfl) _ (List.mem_singleton.mpr rfl) rfl
 .have := d2 j i lj li h
  rw [ei, ej] at this
  exact this _ (List.mem_singleton.mpr rfl) _ (List.mem_singleton.mpr rfl) rfl
theorem IC {l l' : List (Addr × Obj)} (d : B4 (l ++ l')) : B4 l' := by
 unfold B4 at *
 rw [List.map_append, List.nodup_append] at d
 exact d.2.1
theorem PR.get {U : Un} {ρ : B0} : ∀ {H : MH} {r : B0} {ps : List (List (Addr × Obj))} {i : Nat} {c : An}, PR U ρ H r ps -> H[i]? = some c -> ∃ a l, r[i]? = some a /\ ps[i]? = some l /\ CR U ρ c a l
 | c :: H, a :: r, l :: ps, 0, _, ⟨x, _⟩, e => by simp at e; subst e; exact ⟨a, l, rfl, rfl, x⟩
 | c :: H, a :: r, l :: ps, i + 1, _, ⟨_, y⟩, e => by
  simp only [List.getElem?_cons_succ] at e ⊢
  exact y.get e
 | [], _, _, _, _, _, e => by simp at e
 | _ :: _, [], _, _, _, x, _ => x.elim
 | _ :: _, _ :: _, [], _, _, x, _ => x.elim
theorem FS.pinned (x : Bc U X ρ H h) {i : Nat} {kvs : List (Nat × V)} (hc : H[i]? = some (.dictW kvs)) : ∃ a o es, ρ[i]? = some a /\ 3 < a.1 /\ h.get? a.1 = some o /\ o.IsDictOf (PySem.strKind U.prog U.w) es /\ IB U.sa ρ kvs es /\
  Bc (U.pinAt a.1 o) X ρ (H.set i (.dictP kvs)) h := by
 obtain ⟨F, ps, p, N, D, lo⟩ := x
 obtain ⟨a, l, e1, e2, o, es, rfl, hd, hw⟩ := p.get hc
 have hmem : (a.1, o) ∈ ps.flatten := List.mem_flatten.mpr ⟨_, List.mem_of_getElem? e2, .head _⟩
 refine ⟨a, o, es, e1, lo _ hmem, (N _ (DK _ hmem)).1, hd, hw, F, ps, ?_, N, D, lo⟩
 refine p.map (by simp) fun j c c' a' l' h1 h2 h3 h4 y => ?_
 by_cases hj : j = i
 .subst hj
  rw [hc] at h1; cases h1
  rw [List.getElem?_set_self (List.getElem?_eq_some_iff.mp hc).1] at h2
  cases h2
  rw [e1] at h3; cases h3
  rw [e2] at h4; cases h4
  exact ⟨o, es, rfl, hd, hw, if_pos rfl⟩
 .rw [List.getElem?_set_ne (Ne.symm hj), h1] at h2
  cases h2
  cases c with
  | dictP xs =>
   obtain ⟨o', es', rfl, d', w', p'⟩ := y
   refine ⟨o', es', rfl, d', w', ?_⟩
   show (if a'.1 = a.1 then some o else U.pin a'.1) = some o'
   rw [if_neg (IY (IC D) h4 e2 hj)]
   exact p'
  | _ => exact y
theorem FS.unpinned {a : Addr × Addr} {o : Obj} (x : Bc (U.pinAt a.1 o) X ρ H h) {i : Nat} {kvs : List (Nat × V)} (hc : H[i]? = some (.dictP kvs)) (ha : ρ[i]? = some a) : Bc U X ρ (H.set i (.dictW kvs)) h := by
 obtain ⟨F, ps, p, N, D, lo⟩ := x
 obtain ⟨a₂, l, e1, e2, o₂, es, rfl, hd, hw, hp⟩ := p.get hc
 rw [ha] at e1; cases e1
 refine ⟨F, ps, ?_, N, D, lo⟩
 refine p.map (by simp) fun j c c' a' l' h1 h2 h3 h4 y => ?_
 by_cases hj : j = i
 .subst hj
  rw [hc] at h1; cases h1
  rw [List.getElem?_set_self (List.getElem?_eq_some_iff.mp hc).1] at h2
  cases h2
  rw [ha] at h3; cases h3
  rw [e2] at h4; cases h4
  exact ⟨o₂, es, rfl, hd, hw⟩
 .rw [List.getElem?_set_ne (Ne.symm hj), h1] at h2
  cases h2
  cases c with
  | dictP xs =>
   obtain ⟨o', es', rfl, d', w', p'⟩ := y
   refine ⟨o', es', rfl, d', w', ?_⟩
   have p2 : (if a'.1 = a.1 then some o else U.pin a'.1) = some o' := p'
   rw [if_neg (IY (IC D) h4 e2 hj)] at p2
   exact p2
  | _ => exact y
theorem GF.pin (gf : GF U X.G) {a : Addr} {o : Obj} : GF (U.pinAt a o) X.G := ⟨gf.K, gf.T, gf.ext⟩
theorem Cx.pin (cx : Cx U A X Ac n) {a : Addr} {o : Obj} : Cx (U.pinAt a o) A X Ac n := ⟨cx.B, cx.hA, cx.hf, cx.hk, cx.hh, cx.hd, cx.hu, cx.gf.pin⟩
theorem FS.swapEx {p q : Addr × Obj} {r : List (Addr × Obj)} (F : Bc U (X.withEx (p :: q :: r)) ρ H h) : Bc U (X.withEx (q :: p :: r)) ρ H h := by
 obtain ⟨Fr', ps, pr, N, Dd, lo⟩ := F
 have pm : ((X.withEx (p :: q :: r)).px ++ ps.flatten).Perm ((X.withEx (q :: p :: r)).px ++ ps.flatten) :=
  ((List.Perm.swap _ _ _).append_left _).append_right _
 exact ⟨Fr', ps, pr, D5 N fun q hq => pm.symm.subset hq, Cj pm Dd, lo⟩
theorem Kn {d v y : V} {H H2 : MH} {k : Nat} (hv : v = .w k) (e : Cw d v y H = .ok () H2) : ∃ j, d = .ref j /\ ((∃ kvs, H[j]? = some (.dictW kvs) /\ kvs.length < 100 /\ H2 = H.set j (.dictW (DS k y kvs)))) := by
 subst hv
 unfold Cw bnd AJ at e
 cases d <;> first | (cases e; done) | skip
 rename_i j
 dsimp only at e
 cases hj : H[j]? with
 | none => rw [hj] at e; cases e
 | some c =>
  rw [hj] at e
  dsimp only at e
  cases c <;> first | (cases e; done) | skip
  rename_i kvs
  dsimp only at e
  by_cases hl : kvs.length < 100
  .rw [if_pos hl] at e
   cases e
   exact ⟨j, rfl, kvs, hj, hl, rfl⟩
  .rw [if_neg hl] at e; cases e
def fD (C : Ef Fn) (vs : Mine.Env) (mv : ME Fn) (d : V) (v : V) : M (Option V) := bnd (Aa C mv (vs ++ [some v])) fun y => bnd (Cw d v y) fun _ => Mine.ret Option.none
structure Rh (U U' : Un) (xc : Value) (X : Fx) (ρ0 : B0) (items : List V) (Ready : MH -> Prop) (st : Nat -> Obj -> Prop) (f : V -> M (Option V)) (post : M Unit) (I Cd : Addr) (fin : M V) (Qf : Value -> Shared -> Prop) (s0 : Shared) (r0 : R V)
  (n : Nat) (s' : Shared) : Prop where
 inv : ∃ k ρk Hk h tk oI oC mC, s' = { s0 with heap := h, toks := tk } /\ n = items.length + 1 - k /\ k <= items.length /\ ρ0 <+: ρk /\
  Bc U' (X.withEx ((Cd, oC) :: (I, oI) :: X.ex)) ρk Hk h /\ st k oI /\ (∀ g : Heap, g.get? Cd = some oC -> g.Ns Cd mC) /\ Ready Hk /\
  Ay (AP U) U xc X ρk (bnd (still (By f post (items.drop k))) (fun _ => fin) Hk) Qf (fun _ _ => False) s' /\ bnd (still (By f post (items.drop k))) (fun _ => fin) Hk = r0
theorem Mc {β : Type} (f : V -> M (Option V)) (post : M Unit) (v : V) (r : List V) (K : M β) :
  bnd (still (By f post (v :: r))) (fun _ => K) H = bnd (still (f v)) (fun _ => bnd (still post) fun _ => bnd (still (By f post r)) fun _ => K) H := by
 rw [Kh]
theorem Iz {kx vx iter : PySem.Expr} {nm : Str} {px : Pos} {scope : Scope} {pos : Pos} {cenv : PySem.Env} {I Cd : Addr} {d : Nat} {pd : Addr × Addr} {items : List V} {Ready : MH -> Prop} {st : Nat -> Obj -> Prop} {mv : ME Fn} {post : M Unit} {fin : M V} {U' : Un} (hU : U'.prog = U.prog /\ U'.w = U.w /\ U'.sa = U.sa)
  {Qf : Value -> Shared -> Prop} {R : Result -> Shared -> Prop} {s0 : Shared} {r0 : Mine.R V} (hw : ∀ v ∈ items, ∃ k, v = .w k) (hpd : ρ0[d]? = some pd)
  (src : Q8 U' A I items Ready ρ0 st) (hpost : ∀ H, (post H = .ok () H /\ Ready H) \/ post H = .bad)
  (hx : cenv.kindOf nm = some .local) (hp : (cenv.scope.kind == .class || (cenv.scope.kind == .module && cenv.locals != cenv.globals)) = false) (hCd : cenv.locals = Cd)
  (turn : ∀ (ex' : List (Addr × Obj)) ρ v v' oC mC, ρ0 <+: ρ -> (∀ p ∈ X.ex, p ∈ ex') -> AP U ρ v v' -> (Cd, oC) ∈ ex' -> (∀ g : Heap, g.get? Cd = some oC -> g.Ns Cd mC) -> mC nm = some v' ->
   EO U' (X.withEx ex') ρ cenv (Γ ++ [nm]) (vs ++ [some v]))
  (Bf : ∀ ex', SE U' xc C A (X.withEx ex') cenv (Γ ++ [nm]) (.var Γ.length) kx)
  (hval : ∀ ex', SE U' xc C A (X.withEx ex') cenv (Γ ++ [nm]) mv vx)
  (hR : ∀ ρ' H' h' C3 oC mC, ρ0 <+: ρ' -> Bc U' (X.withEx ((Cd, oC) :: X.ex)) ρ' H' h' -> Ready H' -> (∀ g : Heap, g.get? Cd = some oC -> g.Ns Cd mC) -> r0 = fin H' -> Ay (AP U) U xc X ρ' (fin H') Qf (fun _ _ => False) { s0 with heap := h', toks := C3 } -> R (.ok .next) { s0 with heap := h', toks := C3 })
  (Ed : vs.length = Γ.length)
  {m₀ : Nat} {s₁ : Shared} (h : Rh U U' xc X ρ0 items Ready st (fD C vs mv (.ref d)) post I Cd fin Qf s0 r0 m₀ s₁) :
  codeAny (model U.prog U.w) A (.compLoop (.DictComp kx vx [⟨.Name nm px, iter, [], 0⟩] scope pos) 0 (.ref I) (.ref pd.1) cenv) R s₁ := by
 obtain ⟨hU1, hU2, hU3⟩ := hU
 refine codeAny_compLoop_testsD (fun n s' => Rh U U' xc X ρ0 items Ready st (fD C vs mv (.ref d)) post I Cd fin Qf s0 r0 n s') ?_ m₀ h
 rintro n s' ⟨k, ρk, Hk, h, tk, oI, oC, mC, rfl, rfl, hk, l0, F, hst, Eg, hrd, hpk, hr0⟩
 have gI : h.get? I = some oI := F.exGet (p := (I, oI)) (.tail _ (.head _))
 cases hv : items[k]? with
 | none =>
  have hkl : k = items.length := Nat.le_antisymm hk (by rw [List.getElem?_eq_none_iff] at hv; exact hv)
  subst hkl
  rw [<- hU1, <- hU2]
  refine src.done (X.withEx ((Cd, oC) :: (I, oI) :: X.ex)) ρk Hk _ oI _ _ l0 F gI hst hrd fun h₁ he => ?_
  rw [List.drop_length] at hpk
  have e0 : bnd (still (By (fD C vs mv (.ref d)) post [])) (fun _ => fin) Hk = fin Hk := rfl
  rw [e0] at hpk
  rw [List.drop_length, e0] at hr0
  have F2 := F.swapEx.dropEx he
  exact hR ρk Hk h₁ tk oC mC l0 F2 hrd Eg hr0.symm hpk
 | some v =>
  have CV : k < items.length := (List.getElem?_eq_some_iff.mp hv).1
  have hdrop : items.drop k = v :: items.drop (k + 1) := by
   rw [List.drop_eq_getElem_cons CV]
   rw [List.getElem?_eq_getElem CV] at hv
   rw [Option.some.inj hv]
  obtain ⟨kw, rfl⟩ := hw v (List.mem_of_getElem? hv)
  rw [<- hU1, <- hU2]
  refine src.item k (X.withEx ((Cd, oC) :: (I, oI) :: X.ex)) ρk Hk _ oI (.w kw) _ _ l0 hv F gI hst hrd fun v' h₁ oI' tk₁ hv' hs₁ ho₁ hst' => ?_
  rw [hU1, hU2]
  have hv' : AP U ρk (.w kw) v' := by rw [AP, <- hU3]; exact hv'
  have F1 : Bc U' (X.withEx ([(Cd, oC)] ++ (I, oI') :: X.ex)) ρk Hk h₁ := FS.setEx (X := X.withEx ((Cd, oC) :: (I, oI) :: X.ex)) (pre := [(Cd, oC)]) F rfl hs₁ ho₁
  have gC : h₁.get? Cd = some oC := F1.exGet (p := (Cd, oC)) (.head _)
  refine wpAny_assign_Name (wpAny_storeName_local (m := mC) hx (by rw [hCd]; exact Eg h₁ gC) (fun h₂ hn₂ hs₂ => ?_) hp)
  rw [hCd] at hn₂ hs₂
  obtain ⟨oC', es', ep', gC', hd', hk', hf'⟩ := hn₂
  have F2 : Bc U' (X.withEx ((Cd, oC') :: (I, oI') :: X.ex)) ρk Hk h₂ := FS.setEx (X := X.withEx ((Cd, oC) :: (I, oI') :: X.ex)) (pre := []) F1 rfl hs₂ gC'
  have hns' : ∀ g : Heap, g.get? Cd = some oC' -> g.Ns Cd (fun y => if y = nm then some v' else mC y) := fun g hg => ⟨oC', es', ep', hg, hd', hk', hf'⟩
  refine Jk ?_
  rw [if_pos rfl, <- hU1, <- hU2]
  have eo := turn ((Cd, oC') :: (I, oI') :: X.ex) ρk (.w kw) v' oC' (fun y => if y = nm then some v' else mC y) l0 (fun p hp => .tail _ (.tail _ hp)) hv' (.head _) hns' (by simp)
  refine Bf _ ρk Hk _ (vs ++ [some (.w kw)]) _ _ F2 eo ?_
  have ev : Aa C (.var Γ.length) (vs ++ [some (.w kw)]) Hk = .ok (.w kw) Hk := by
   rw [Aa, <- Ed]
   simp [Au, Mine.ret]
  rw [ev]
  intro ρa kv ha tka la Fa ra
  obtain ⟨tkv, rfl⟩ := ra
  refine hval _ ρa Hk { s0 with heap := ha, toks := tka } (vs ++ [some (.w kw)]) _ _ Fa (eo.mono la) ?_
  rw [hdrop, Mc] at hpk hr0
  unfold Ay
  cases hfv : Aa C mv (vs ++ [some (.w kw)]) Hk with
  | bad => rw [ER (by unfold fD bnd; rw [hfv])] at hpk; exact hpk.elim
  | exc e H1 => rw [HA (by unfold fD bnd; rw [hfv])] at hpk; exact hpk.elim
  | ok y H1 =>
   intro ρ1 y' h₃ tk₃ l1 F3 r3
   cases hsv : Cw (.ref d) (.w kw) y H1 with
   | bad => rw [ER (by unfold fD bnd; rw [hfv]; dsimp only; rw [hsv])] at hpk; exact hpk.elim
   | exc e H2 => rw [HA (by unfold fD bnd; rw [hfv]; dsimp only; rw [hsv])] at hpk; exact hpk.elim
   | ok u H2 =>
    obtain ⟨j, ej, kvs, hc, hl, rfl⟩ := Kn rfl hsv
    cases ej
    rw [D6 (by unfold fD bnd; rw [hfv]; dsimp only; rw [hsv]; rfl)] at hpk hr0
    obtain ⟨a, o, news, g, e1, lo, ⟨o₂, es, e2, hd, vd⟩, N2, hm, up, back⟩ := FS.oneCell (s := { s0 with heap := h₃, toks := tk₃ }) F3 hc (fun _ _ => by simp)
    cases e2
    have ea : a = pd := by
     have := DJ ((l0.trans la).trans l1) hpd
     rw [e1] at this
     exact Option.some.inj this
    subst ea
    obtain ⟨pre, post', rfl, hg, a1, b1⟩ := up.split
    have hmem := N2 (a.1, o) (DK _ (.head _))
    refine wpAny_dictSet_pairs (s := { s0 with heap := h₃, toks := tk₃ }) (knd := PySem.strKind U'.prog U'.w) (kvs := es) (strKind_is _ _ _ _) (Heap.dictOf_iff.mpr ⟨o, hmem.1, hd⟩) (fun h' hD hs => ?_) (by rw [sizeLine_eq, vd.length]; omega)
    obtain ⟨o', ho', hd'⟩ := Heap.dictOf_iff.mp hD
    have nd : (es.map (·.1)).Nodup := by obtain ⟨xs, ep, _, _, _, _, nd⟩ := hd; exact nd
    have F4 := back (.dictW (DS kw y kvs)) o' h' ⟨o', _, rfl, hd', vd.stored r3 nd⟩ (F3.fr.change hs hmem.2.1 hmem.2.2) (hg o' ▸ N2.setIn a1 b1 hs ho')
    rcases hpost (H1.set d (.dictW (DS kw y kvs))) with ⟨AR, hrd1⟩ | AR
    .rw [D6 AR] at hpk hr0
     exact ⟨items.length + 1 - (k + 1), by omega, ⟨k + 1, ρ1, _, h', _, oI', oC', _, rfl, rfl, CV, (l0.trans la).trans l1, F4, hst', hns', hrd1, Ay.later hpk (la.trans l1) _ _, hr0⟩⟩
    .rw [ER AR] at hpk
     exact hpk.elim
theorem IB.keys {sa : Addr} {ρ : B0} : ∀ {kvs : List (Nat × V)} {es : List (Str × Value)}, IB sa ρ kvs es -> es.map (·.1) = kvs.map fun q => wd q.1
 | [], [], _ => rfl
 | [], _ :: _, h => h.elim
 | _ :: _, [], h => h.elim
 | p :: r, e :: es, ⟨h1, _, h3⟩ => by rw [List.map_cons, List.map_cons, h1, h3.keys]
theorem QA {α β : Type} {rel : B0 -> α -> β -> Prop} {Q : β -> Shared -> Prop} {v : V} {f : List (Nat × V) -> M α} (hp : Ay rel U xc X ρ (bnd (Mine.getD v) f H) Q E s) : ∃ i xs, v = .ref i /\ H[i]? = some (.dictW xs) /\ xs.length < 100 /\ Ay rel U xc X ρ (f xs H) Q E s := by
 unfold bnd Mine.getD bnd AJ at hp
 cases v <;> first | exact hp.elim | skip
 rename_i i
 dsimp only at hp
 cases e : H[i]? with
 | none => rw [e] at hp; exact hp.elim
 | some c' =>
  rw [e] at hp
  cases c' <;> first | exact hp.elim | skip
  rename_i xs
  dsimp only at hp
  by_cases hl : xs.length < 100
  .rw [if_pos hl] at hp; exact ⟨i, _, rfl, by rw [e], hl, hp⟩
  .rw [if_neg hl] at hp; exact hp.elim
theorem Ff {i : Nat} {c : An} (H : MH) : (stays (.ref i) c H = .ok () H /\ H[i]? = some c) \/ stays (.ref i) c H = .bad := by
 by_cases q : H[i]? = some c
 .exact .inl ⟨by unfold stays bnd AJ; simp only [q, if_true]; rfl, q⟩
 .right
  unfold stays bnd AJ
  cases e : H[i]? with
  | none => simp only [e]
  | some c' =>
   simp only [e]
   rw [if_neg (fun z => q (by rw [e, z]))]; rfl
theorem L7 {α β : Type} {rel : B0 -> α -> β -> Prop} {r : R α} {Q : β -> Shared -> Prop} {E' : Value -> Shared -> Prop} (hp : Ay rel U xc X ρ r Q E s) (h : ∀ e H', r ≠ .exc e H') : Ay rel U xc X ρ r Q E' s := by
 cases r with
 | ok a H => exact hp
 | exc e H => exact absurd rfl (h e H)
 | bad => exact hp
theorem EO.pin {a : Addr} {o : Obj} (e : EO U X ρ env Γ vs) : EO (U.pinAt a o) X ρ env Γ vs := ⟨e.len, e.get⟩
theorem Jo {kx vx iter : PySem.Expr} {sc : Scope} {x : Str} {px : Pos} {mv mi : ME Fn} (cx : Cx U A X Ac n) (ek : AZ X Ac env ns) (k : E7 ns Γ sc x) (hset : E9 iter = true) (hkx : ∃ p, kx = .Name x p) (EN : DY (Cp ns sc.names) x = true)
  (h1 : SE U xc C A X env Γ mi iter)
  (h2 : ∀ a o X' Aj, Cx (U.pinAt a o) A X' Ac n -> AZ X' Ac Aj (Cp ns sc.names) -> SE (U.pinAt a o) xc C A X' Aj (Γ ++ [x]) mv vx) :
  Py U xc C A X env Γ (.dcomp mv mi) (D4 sc [⟨.Name x px, iter, [], 0⟩] pos (.DictComp kx vx [⟨.Name x px, iter, [], 0⟩] sc pos) newDict env) := by
 obtain ⟨kp, rfl⟩ := hkx
 intro ρ H s vs use Qf Q E hx eo hp fin
 rw [Aa] at hp
 refine wpAny_comprehension_free (cl := BU env.cells sc.names []) rfl (DB hset) (C0 (Dw ek k)) k.kind (fun p hp e => (k.loc p hp e).2) ?_
 refine h1 ρ H s vs _ E hx eo (hp.bnd (rel1 := AP U) fun l H1 ρ1 l' h1 BT he l1 x1 r1 AR => ?_)
 obtain ⟨i, kvs, rfl, hc, BN, B9⟩ := QA AR
 obtain ⟨a, o, es, e1, lo, ho, hd, hw, Fp⟩ := FS.pinned x1 hc
 obtain ⟨p, ep', rfl⟩ := r1
 rw [e1] at ep'; cases ep'
 obtain ⟨xs, ep, ex, hdat, hkeys, hpairs, hnd⟩ := hd
 refine wpAny_pyIter_dict (s := { s with heap := h1, toks := BT }) (knd := PySem.strKind U.prog U.w) (kvs := es) (ep := ep) (D0 lo) ⟨o, xs, ho, ex, hdat, hkeys, hpairs, hnd⟩ ?_
 dsimp only
 have hh : A.handled = none := cx.hh
 have gsz := Kf (s := { s with heap := h1, toks := BT }) cx.gf x1
 have F0 := FS.addEx (a := h1.objs.size) (o := { cls := .type "dict_keyiterator", data := .fields #[.ref a.1, .int 0 0, .int es.length 0, .int ep 0] }) Fp (fun b o e => DT _ e) (Heap.get?_push_size _ rfl) (Nat.le_refl _)
 generalize hHI : h1.push { cls := .type "dict_keyiterator", data := .fields #[.ref a.1, .int 0 0, .int es.length 0, .int ep 0] } = HI at F0 ⊢
 have szI : h1.objs.size <= HI.objs.size := by rw [<- hHI, Heap.size_push]; omega
 refine wpAny_newObj_type ?_
 have F1 := FS.addEx (a := HI.objs.size) (o := { cls := .type "dict", data := .dict #[] }) F0 (fun b o e => DT _ e) (Heap.get?_push_size _ rfl) (Nat.le_refl _)
 have F2 := FS.adopt (X := X) (c := .dictW []) F1 ⟨_, [], rfl, by
  obtain ⟨o, ho, hd⟩ := Heap.dictOf_iff.mp (Heap.DictOf.new (knd := PySem.strKind U.prog U.w) HI)
  rw [Heap.get?_push_size _ rfl] at ho
  cases ho
  exact hd, trivial⟩ (Nat.lt_of_lt_of_le gsz szI)
 have hD : (ρ1 ++ [(HI.objs.size, HI.objs.size)])[(H1.set i (.dictP kvs)).length]? = some (HI.objs.size, HI.objs.size) := by
  rw [<- FS.len Fp]; simp
 generalize hHD : HI.push { cls := .type "dict", dict := none, data := .dict #[] } = HD at F2 ⊢
 refine wpAny_newFunctionEnv k.cell (by intro y hy; simp at hy) (fun h₁ hns₁ hsb₁ => ?_) k.kind
 dsimp only at hns₁ hsb₁ ⊢
 have hn₁ := hns₁
 obtain ⟨oC, es', ep', gC, hd', hk', hf'⟩ := hns₁
 have keep : ∀ b o, HD.get? b = some o -> h₁.get? b = some o := fun b o e => (hsb₁.2 b (Nat.ne_of_lt (Heap.lt_size e))).trans (DT _ e)
 have F3 := FS.addEx (a := HD.objs.size) (o := oC) F2 keep gC (Nat.le_refl _)
 have hnsC : ∀ g : Heap, g.get? HD.objs.size = some oC -> g.Ns HD.objs.size (fun x => ([] : List (Str × Value)).reverse.lookup x) := fun g hg => ⟨oC, es', ep', hg, hd', hk', hf'⟩
 have ek2 := Jx ek k HD.objs.size
 rw [EI ek] at ek2
 have hset' : (Dm (.ref i) (.dictP kvs) H1) = .ok () (H1.set i (.dictP kvs)) := rfl
 have hp3 : Ay (AP U) U xc X ρ1 (bnd (still (By (fD C vs mv (.ref (H1.set i (.dictP kvs)).length)) (stays (.ref i) (.dictP kvs)) (kvs.map fun p => .w p.1))) (fun _ => bnd (Dm (.ref i) (.dictW kvs)) fun _ => Mine.ret (.ref (H1.set i (.dictP kvs)).length)) (H1.set i (.dictP kvs) ++ [.dictW []])) Qf E { s with heap := h1, toks := BT } := B9
 have hp4 : Ay (AP U) U xc X ρ1 (bnd (still (By (fD C vs mv (.ref (H1.set i (.dictP kvs)).length)) (stays (.ref i) (.dictP kvs)) (kvs.map fun p => .w p.1))) (fun _ => bnd (Dm (.ref i) (.dictW kvs)) fun _ => Mine.ret (.ref (H1.set i (.dictP kvs)).length)) (H1.set i (.dictP kvs) ++ [.dictW []])) Qf (fun _ _ => False) { s with heap := h1, toks := BT } := by
  refine L7 hp3 fun e H' q => ?_
  simp only [bnd, still, Dm, Mine.ret] at q
  cases q2 : By (fD C vs mv (.ref (H1.set i (.dictP kvs)).length)) (stays (.ref i) (.dictP kvs)) (kvs.map fun p => .w p.1) (H1.set i (.dictP kvs) ++ [.dictW []]) <;> rw [q2] at q <;> cases q
 have ee : Aa C (.dcomp mv mi) vs H = bnd (still (By (fD C vs mv (.ref (H1.set i (.dictP kvs)).length)) (stays (.ref i) (.dictP kvs)) (kvs.map fun p => .w p.1))) (fun _ => bnd (Dm (.ref i) (.dictW kvs)) fun _ => Mine.ret (.ref (H1.set i (.dictP kvs)).length)) (H1.set i (.dictP kvs) ++ [.dictW []]) := by
  rw [Aa]
  simp only [bnd, he, Mine.getD, AJ, hc, if_pos BN, Mine.ret, Dm, alloc]
  rfl
 have inv : Rh U (U.pinAt a.1 o) xc X (ρ1 ++ [(HI.objs.size, HI.objs.size)]) (kvs.map fun p => .w p.1) (fun H => H[i]? = some (.dictP kvs)) (fun k o => o.cls = .type "dict_keyiterator" /\ o.data = .fields #[.ref a.1, .int k 0, .int es.length 0, .int ep 0]) (fD C vs mv (.ref (H1.set i (.dictP kvs)).length)) (stays (.ref i) (.dictP kvs)) h1.objs.size HD.objs.size
   (bnd (Dm (.ref i) (.dictW kvs)) fun _ => Mine.ret (.ref (H1.set i (.dictP kvs)).length)) Qf s (Aa C (.dcomp mv mi) vs H) ((kvs.map fun p => V.w p.1).length + 1 - 0) { s with heap := h₁, toks := BT + ([] : List (Str × Value)).length } := by
  refine ⟨0, ρ1 ++ [(HI.objs.size, HI.objs.size)], H1.set i (.dictP kvs) ++ [.dictW []], h₁, _, _, oC, _, rfl, rfl, Nat.zero_le _, B8 _, F3, ⟨rfl, rfl⟩, hnsC, ?_, ?_⟩
  .have hi : i < H1.length := (List.getElem?_eq_some_iff.mp hc).1
   rw [List.getElem?_append_left (by simpa using hi), List.getElem?_set_self hi]
  .rw [List.drop_zero]
   exact ⟨Ay.later hp4 (List.prefix_append ..) _ _, ee.symm⟩
 have loop : ∀ s₃ : Shared, s₃ = { s with heap := h₁, toks := BT + ([] : List (Str × Value)).length } ->
   codeAny (model U.prog U.w) A (.compLoop (.DictComp (.Name x kp) vx [⟨.Name x px, iter, [], 0⟩] sc pos) 0 (.ref h1.objs.size) (.ref HI.objs.size) (compEnvC sc (BU env.cells sc.names []) HD.objs.size env))
    (compPost (model U.prog U.w) A E use Q (.ref HI.objs.size) HD.objs.size) s₃ := by
  rintro s₃ rfl
  refine Iz (U := U) (U' := U.pinAt a.1 o) (xc := xc) (X := X) (ρ0 := ρ1 ++ [(HI.objs.size, HI.objs.size)]) (Γ := Γ) (vs := vs) (C := C) (mv := mv) (Qf := Qf) (s0 := s) (pd := (HI.objs.size, HI.objs.size)) ⟨rfl, rfl, rfl⟩ (fun v hv => ?_) hD
   (Lx (U := U.pinAt a.1 o) hh (kvs := kvs) (ep := ep) (es := es) (DJ (List.prefix_append ..) e1) (if_pos rfl) ⟨ex, xs, hdat, hkeys, hpairs, hnd⟩ hw.keys hw.length) (fun H => Ff H)
   (cenv := compEnvC sc (BU env.cells sc.names []) HD.objs.size env) (lookup_relabel_local k.it) (by simp [compEnvC, relabel, k.kind]) rfl
   (fun ex' ρ' v v' oC mC l hex hv hm Eg hx => ?_) (fun ex' => ?_) (fun ex' => ?_) (fun ρ' H' h' C3 oC mC l F hrd Eg er hp => ?_) eo.len inv
  .obtain ⟨q, _, rfl⟩ := List.mem_map.mp hv
   exact ⟨_, rfl⟩
  .exact (KC ek k (eo.mono l1) ((List.prefix_append ..).trans l) hex hm Eg hv hx).pin
  .exact Pe (ek2.ex ex') (by simp) EN
  .exact h2 _ _ (X.withEx ex') _ (cx.ex ex').pin (ek2.ex ex')
  .have e1' := DJ ((List.prefix_append ..).trans l) e1
   have F' := FS.unpinned F hrd e1'
   exact fin ρ1 h1 BT l1 _ _ ρ' (H'.set i (.dictW kvs)) (.ref (H1.set i (.dictP kvs)).length) h' C3 oC mC ((List.prefix_append ..).trans l) F' Eg ⟨_, DJ l hD, rfl⟩ er hp
 have gI : h₁.get? h1.objs.size = some _ := FS.exGet F3 (p := (h1.objs.size, _)) (.tail _ (.head _))
 refine codeAny_compStart_dict (loop _ rfl) ?_
 exact wpAny_pyIter_keyiter (i := 0) (d := a.1) (n := es.length) (ep := ep) ⟨_, gI, rfl, rfl⟩ (loop _ rfl)
theorem Pk {α : Type} {l : List α} (nd : l.Nodup) {i j : Nat} {x : α} (hi : l[i]? = some x) (hj : l[j]? = some x) : i = j := by
 obtain ⟨h1, h2⟩ := List.getElem?_eq_some_iff.mp hi
 obtain ⟨h3, h4⟩ := List.getElem?_eq_some_iff.mp hj
 unfold List.Nodup at nd
 rw [List.pairwise_iff_getElem] at nd
 rcases Nat.lt_trichotomy i j with h | h | h
 .exact absurd (h2.trans h4.symm) (nd i j h1 h3 h)
 .exact h
 .exact absurd (h4.trans h2.symm) (nd j i h3 h1 h)
structure C4 (X X' : Fx) : Prop where
 G : X'.G = X.G
 L : X'.L = X.L
 base : X'.base = X.base
 l : X'.l = X.l
 ex : X'.ex = X.ex
theorem C4.refl {X : Fx} : C4 X X := ⟨rfl, rfl, rfl, rfl, rfl⟩
theorem C4.trans {X Y Z : Fx} (a : C4 X Y) (b : C4 Y Z) : C4 X Z := ⟨b.G.trans a.G, b.L.trans a.L, b.base.trans a.base, b.l.trans a.l, b.ex.trans a.ex⟩
structure SX (U : Un) (A : Around) (X : Fx) (Ac env : PySem.Env) (n : Nat) (ns : Ft) : Prop where
 cx : Cx U A X Ac n
 ek : AZ X Ac env ns
 loc : env.locals = X.L
 cel : ∀ y c, env.cells.lookup y = some c -> ∃ o v0, (c, o) ∈ X.own /\ o.data = .cell v0
 inj : ∀ y z c, env.cells.lookup y = some c -> env.cells.lookup z = some c -> y = z
 og : ∀ e, X.l = [e] -> X.base = X.G
theorem Cx.same (cx : Cx U A X Ac n) (m : C4 X X') : Cx U A X' Ac n := by
 obtain ⟨G, L, base, l, ex⟩ := m
 refine ⟨?_, ?_, ?_, cx.hk, cx.hh, cx.hd, cx.hu, ?_⟩
 .rw [G, base, l]; exact cx.B
 .rw [l]; exact cx.hA
 .rw [L]; exact cx.hf
 .rw [G]; exact cx.gf
theorem AZ.same (ek : AZ X Ac env ns) (m : C4 X X') : AZ X' Ac env ns := ⟨ek.names, ek.kind, ek.glo, ek.blt, by rw [m.L]; exact ek.frm, ek.hc⟩
def CJ (U : Un) (xc : Value) (A : Around) (Ac env : PySem.Env) (n : Nat) (ns : Ft) (Γ : List Str) (X : Fx) (ρ : B0) (r : R (Mine.Env × Option V)) (Q : Flow -> Shared -> Prop) (E : Value -> Shared -> Prop) (s : Shared) : Prop := match r with
 | .ok (vs', fl) H' => ∀ X' ρ' h' C3, C4 X X' -> SX U A X' Ac env n ns -> ρ <+: ρ' -> Bc U X' ρ' H' h' -> EO U X' ρ' env Γ vs' -> (match fl with
   | none => Q .next { s with heap := h', toks := C3 }
   | some v => ∀ v', AP U ρ' v v' -> Q (.ret v') { s with heap := h', toks := C3 })
 | .exc msg H' => ∀ X' ρ' e h' C3, C4 X X' -> ρ <+: ρ' -> Pw U xc X' msg ρ' H' e h' -> E (.ref e) { s with heap := h', toks := C3 }
 | .bad => False
theorem CJ.later {r : R (Mine.Env × Option V)} {Q : Flow -> Shared -> Prop} (hp : CJ U xc A Ac env n ns Γ X ρ r Q E s) (m : C4 X X') (l : ρ <+: ρ') (h : Heap) (tk : Nat) : CJ U xc A Ac env n ns Γ X' ρ' r Q E { s with heap := h, toks := tk } := by
 cases r with
 | ok a H => exact fun X₂ ρ₂ h' C3 m' sx' l' => hp X₂ ρ₂ h' C3 (m.trans m') sx' (l.trans l')
 | exc e H => exact fun X₂ ρ₂ v' h' C3 m' l' => hp X₂ ρ₂ v' h' C3 (m.trans m') (l.trans l')
 | bad => exact hp
theorem CJ.bnd {α β : Type} {rel : B0 -> α -> β -> Prop} {m : M α} {f : α -> M (Mine.Env × Option V)} {Q : Flow -> Shared -> Prop} {Q1 : β -> Shared -> Prop}
  (hp : CJ U xc A Ac env n ns Γ X ρ (Mine.bnd m f H) Q E s)
  (k : ∀ a H1 ρ1 a' h1 BT, m H = .ok a H1 -> ρ <+: ρ1 -> Bc U X ρ1 H1 h1 -> rel ρ1 a a' -> CJ U xc A Ac env n ns Γ X ρ1 (f a H1) Q E { s with heap := h1, toks := BT } -> Q1 a' { s with heap := h1, toks := BT }) :
  Ay rel U xc X ρ (m H) Q1 E s := by
 unfold Mine.bnd at hp
 unfold Ay
 cases e : m H with
 | ok a H1 =>
  rw [e] at hp
  intro ρ1 a' h1 BT l1 F1 r1
  exact k a H1 ρ1 a' h1 BT e l1 F1 r1 (CJ.later (r := f a H1) hp C4.refl l1 _ _)
 | exc msg H1 =>
  rw [e] at hp
  exact fun ρ1 e' h1 BT l1 x => hp X ρ1 e' h1 BT C4.refl l1 x
 | bad => rw [e] at hp; exact hp
def SS (U : Un) (xc : Value) (C : Ef Fn) (A : Around) (Ac env : PySem.Env) (n : Nat) (ns : Ft) (Γ : List Str) (ms : MS Fn) (st : Stmt) : Prop :=
 ∀ X ρ H s vs Q E, SX U A X Ac env n ns -> Bc U X ρ H s.heap -> EO U X ρ env Γ vs -> CJ U xc A Ac env n ns Γ X ρ (Ai C ms vs H) Q E s -> wpAny (model U.prog U.w) A (exec st env) Q E s
def Od (U : Un) (xc : Value) (C : Ef Fn) (A : Around) (Ac env : PySem.Env) (n : Nat) (ns : Ft) (Γ : List Str) (ms : List (MS Fn)) (st : List Stmt) : Prop :=
 ∀ X ρ H s vs Q E, SX U A X Ac env n ns -> Bc U X ρ H s.heap -> EO U X ρ env Γ vs -> CJ U xc A Ac env n ns Γ X ρ (Ae C ms vs H) Q E s -> wpAny (model U.prog U.w) A (execs st env) Q E s
def Ld (U : Un) (xc : Value) (C : Ef Fn) (A : Around) (Ac env : PySem.Env) (n : Nat) (ns : Ft) (Γ : List Str) (m : ME Fn) (e : PySem.Expr) : Prop :=
 ∀ X, SX U A X Ac env n ns -> SE U xc C A X env Γ m e
def SM (U : Un) (xc : Value) (C : Ef Fn) (A : Around) (Ac env : PySem.Env) (n : Nat) (ns : Ft) (Γ : List Str) (m : ME Fn) (e : PySem.Expr) : Prop :=
 ∀ X, SX U A X Ac env n ns -> ST U xc C A X env Γ m e
theorem P2 : Od U xc C A Ac env n ns Γ [] [] := by
 intro X ρ H s vs Q E sx x eo hp
 rw [Ae] at hp
 exact wpAny_execs_nil (hp X ρ s.heap s.toks C4.refl sx (B8 _) x eo)
theorem Pa {ms : MS Fn} {mr : List (MS Fn)} {st : Stmt} {sr : List Stmt} (h : SS U xc C A Ac env n ns Γ ms st) (h2 : Od U xc C A Ac env n ns Γ mr sr) : Od U xc C A Ac env n ns Γ (ms :: mr) (st :: sr) := by
 intro X ρ H s vs Q E sx x eo hp
 rw [Ae] at hp
 refine wpAny_execs_cons (h X ρ H s vs _ E sx x eo ?_)
 unfold Mine.bnd at hp
 cases e : Ai C ms vs H with
 | bad => rw [e] at hp; exact hp
 | exc m H1 => rw [e] at hp; exact hp
 | ok p H1 =>
  rw [e] at hp
  obtain ⟨vs1, fl⟩ := p
  dsimp only at hp
  intro X1 ρ1 h1 BT m1 sx1 l1 F1 eo1
  cases fl with
  | none =>
   dsimp only at hp ⊢
   exact h2 X1 ρ1 H1 _ vs1 Q E sx1 F1 eo1 (CJ.later hp m1 l1 _ _)
  | some v =>
   dsimp only at hp ⊢
   exact fun v' r => hp X1 ρ1 h1 BT m1 sx1 l1 F1 eo1 v' r
theorem FS.setOwn {a : Addr} {o o' : Obj} {pre post : List (Addr × Obj)} (x : Bc U X ρ H h) (e : X.own = pre ++ (a, o) :: post) (hs : Heap.SameBut a h h') (ho : h'.get? a = some o') : Bc U { X with own := pre ++ (a, o') :: post } ρ H h' := by
 obtain ⟨F, ps, p, N, D, lo⟩ := x
 have w : X.px ++ ps.flatten = pre ++ (a, o) :: (post ++ X.ex ++ ps.flatten) := by simp [Fx.px, e]
 rw [w] at N D
 obtain ⟨h1, h2⟩ : (∀ q ∈ pre, q.1 ≠ a) /\ ∀ q ∈ post ++ X.ex ++ ps.flatten, q.1 ≠ a := by
  unfold B4 at D
  rw [List.map_append, List.map_cons] at D
  have d2 := (List.nodup_append.mp D)
  refine ⟨fun q hq => d2.2.2 q.1 (List.mem_map_of_mem hq) a (.head _), fun q hq e => ?_⟩
  have := (List.nodup_cons.mp d2.2.1).1
  exact this (e ▸ List.mem_map_of_mem (f := (·.1)) hq)
 have z := N (a, o) (DK _ (.head _))
 refine ⟨F.change hs z.2.1 z.2.2, ps, p, ?_, ?_, lo⟩
 .have := N.setAt h1 h2 hs ho
  simpa [Fx.px] using this
 .have := HN (o' := o') D
  simpa [Fx.px] using this
def Bo (ns : Ft) (x : Str) : Bool := ns.lookup x == some .local || ns.lookup x == some .cell
theorem FT {M : Model} {ex1 : List (Addr × Obj)} {i : Nat} {nm : Str} {v : V} {v' : Value} {Q : Unit -> Shared -> Prop} (sx : SX U A X Ac env n ns) (x : Bc U (X.withEx ex1) ρ H s.heap) (eo : EO U X ρ env Γ vs)
  (hi : Γ[i]? = some nm) (nd : Γ.Nodup) (hk : Bo ns nm = true) (hv : AP U ρ v v')
  (k : ∀ X' h' C3, C4 X X' -> SX U A X' Ac env n ns -> Bc U (X'.withEx ex1) ρ H h' -> EO U X' ρ env Γ (vs.set i (some v)) -> Q () { s with heap := h', toks := C3 }) :
  wpAny M A (storeName env nm v') Q E s := by
 have ek := sx.ek
 have other : ∀ (j : Nat) (y : Str), Γ[j]? = some y -> y = nm -> j = i := fun j y hj e => by
  subst e
  exact Pk nd hj hi
 have eo' : ∀ X' : Fx, Ht X' env nm v' -> (∀ y z, y ≠ nm -> Ht X env y z -> Ht X' env y z) -> EO U X' ρ env Γ (vs.set i (some v)) := fun X' l1 l2 => by
  refine ⟨by rw [List.length_set]; exact eo.len, fun j w y hw hy hvis => ?_⟩
  by_cases hj : j = i
  .subst hj
   rw [hi] at hy; cases hy
   have CV : j < vs.length := by rw [eo.len]; exact (List.getElem?_eq_some_iff.mp hi).1
   rw [List.getElem?_set_self CV] at hw
   cases hw
   exact ⟨v', hv, l1⟩
  .rw [List.getElem?_set_ne (Ne.symm hj)] at hw
   obtain ⟨z, hz, lz⟩ := eo.get j w y hw hy hvis
   exact ⟨z, hz, l2 y z (fun e => hj (other j y hy e)) lz⟩
 have hLpx : ∀ o, (X.L, o) ∉ X.own := fun o hm => by
  obtain ⟨F, ps, p, N, D, lo⟩ := x
  exact (N (X.L, o) (DW _ (DW _ hm))).2.1 rfl
 unfold Bo at hk
 rw [Bool.or_eq_true] at hk
 rcases hk with hk | hk
 .have hx : env.kindOf nm = some .local := by unfold PySem.Env.kindOf; rw [ek.names]; exact beq_iff_eq.mp hk
  have Eg := x.fr.ns
  rw [show (X.withEx ex1).L = env.locals from sx.loc.symm] at Eg
  refine wpAny_storeName_local hx Eg (fun h' hn hs => ?_) (by rw [ek.kind]; rfl)
  rw [show env.locals = X.L from sx.loc] at hn hs
  let X' : Fx := { X with m := fun y => if y = nm then some v' else X.m y }
  have same : C4 X X' := ⟨rfl, rfl, rfl, rfl, rfl⟩
  refine k X' h' _ same ⟨sx.cx.same same, ek.same same, sx.loc, sx.cel, sx.inj, sx.og⟩ ?_ (eo' X' (.inl ⟨hx, sx.loc, by simp [X']⟩) fun y z hy l => ?_)
  .obtain ⟨F, ps, p, N, D, lo⟩ := x
   exact ⟨F.set hn hs, ps, p, N.set hs, D, lo⟩
  .rcases l with ⟨a, b, c⟩ | l | l
   .exact .inl ⟨a, b, by simp [X', hy, c]⟩
   .exact .inr (.inl l)
   .exact .inr (.inr l)
 .have hx : env.kindOf nm = some .cell := by unfold PySem.Env.kindOf; rw [ek.names]; exact beq_iff_eq.mp hk
  obtain ⟨c, hc⟩ := Option.isSome_iff_exists.mp (ek.hc nm (.inl hx))
  obtain ⟨o, v0, hmem, hd⟩ := sx.cel nm c hc
  obtain ⟨pre, post, e⟩ := List.append_of_mem hmem
  have hget : s.heap.get? c = some o := by
   obtain ⟨F, ps, p, N, D, lo⟩ := x
   exact (N (c, o) (DW _ (DW _ hmem))).1
  refine wpAny_storeName_cell ek.kind hx hc ⟨o, hget, hd⟩ fun h' hv' hs => ?_
  obtain ⟨o', ho', hd'⟩ := hv'
  let X' : Fx := { X with own := pre ++ (c, o') :: post }
  have same : C4 X X' := ⟨rfl, rfl, rfl, rfl, rfl⟩
  have up : ∀ q : Addr × Obj, q.1 ≠ c -> q ∈ X.own -> q ∈ X'.own := fun q hq hm => by
   rw [e] at hm
   show q ∈ pre ++ (c, o') :: post
   rcases List.mem_append.mp hm with hm | hm
   .exact DW _ hm
   .rcases List.mem_cons.mp hm with rfl | hm
    .exact absurd rfl hq
    .exact DK _ (.tail _ hm)
  have upx : ∀ q : Addr × Obj, q.1 ≠ c -> q ∈ X.px -> q ∈ X'.px := fun q hq hm => by
   rcases List.mem_append.mp hm with hm | hm
   .exact DW _ (up q hq hm)
   .exact DK _ hm
  refine k X' h' _ same ⟨sx.cx.same same, ek.same same, sx.loc, fun y c' hy => ?_, sx.inj, sx.og⟩ (FS.setOwn (X := X.withEx ex1) x e hs ho') (eo' X' (.inr (.inl ⟨.inl hx, c, o', hc, ?_, hd'⟩)) fun y z hy l => ?_)
  .obtain ⟨o2, v2, m2, d2⟩ := sx.cel y c' hy
   by_cases hcc : c' = c
   .subst hcc
    exact ⟨o', _, DK _ (.head _), hd'⟩
   .exact ⟨o2, v2, up (c', o2) hcc m2, d2⟩
  .exact DW _ (DK _ (.head _))
  .rcases l with l | ⟨a, c', o2, b1, b2, b3⟩ | ⟨a, o2, m2, b1, b2⟩
   .exact .inl l
   .refine .inr (.inl ⟨a, c', o2, b1, upx (c', o2) (fun q => hy ?_) b2, b3⟩)
    have q' : c' = c := q
    subst q'
    exact sx.inj y nm c' b1 hc
   .refine .inr (.inr ⟨a, o2, m2, upx (env.locals, o2) (fun q => ?_) b1, b2⟩)
    have q' : env.locals = c := q
    rw [sx.loc] at q'
    exact hLpx o (by rw [q']; exact hmem)
theorem KL {M : Model} {A : Around} {s : Shared} {E : Value -> Shared -> Prop} {a b : Value} {Q : Value -> Shared -> Prop} (ha : s.TypeIs a "list") (hb : s.TypeIs b "list")
  (hc : wpAny M A (call (.builtin "list.__iadd__") [a, b]) Q E s) : wpAny M A (inplaceOp .Add a b) Q E s := by
 unfold inplaceOp
 refine wpAny_holding ?_
 have lk := PySem.F.slot_list_iadd.lookup
 have hs : isSeqSlot (some (.builtin "list.__iadd__")) = true := by decide +kernel
 have hfi : fillsInplaceSlot (.type "list") "add" (Operator.Add == .Add) = pure false := by
  unfold fillsInplaceSlot
  show (typeLookup (.type "list") (dunderI "add") >>= fun fi => pure (fi.isSome && !isSeqSlot fi)) = pure false
  rw [lk]
  show (pure (true && !isSeqSlot (some (.builtin "list.__iadd__"))) : Sem Bool) = pure false
  rw [hs]; rfl
 refine Az (wpAny_typeOf ha (Az (wpAny_of_eq hfi ?_)))
 show wpAny M A (if false = true then _ else _) Q E s
 rw [if_neg Bool.false_ne_true]
 refine Az (wpAny_binaryOp1_none (nm := "add") ha hb noFill_list_add ?_)
 refine Az (wpAny_of_eq (PySem.seqSlot_of lk hs) ?_)
 exact Az (wpAny_rule hc)
def Eh : PySem.Expr -> Bool
 | .ListComp .. | .SetComp .. | .DictComp .. => false
 | _ => true
theorem Hi {e : PySem.Expr} {t : Option PySem.Expr} {l : Nat} {env : PySem.Env} (h : Eh e = true) : swapsWith e t l env = pure false := by
 cases e <;> first | rfl | (cases h; done)
theorem Q7 {m : ME Fn} {e : PySem.Expr} {i : Nat} {nm : Str} {px : Pos} (hc : Eh e = true) (hi : Γ[i]? = some nm) (nd : Γ.Nodup) (hk : Bo ns nm = true) (h : Ld U xc C A Ac env n ns Γ m e) :
  SS U xc C A Ac env n ns Γ (.asg i m) (.Assign [.Name nm px] e pos) := by
 intro X ρ H s vs Q E sx x eo hp
 rw [Ai] at hp
 refine wpAny_Assign_Name (h X sx ρ H s vs _ E x eo (hp.bnd (rel := AP U) fun v H1 ρ1 v' h1 BT _ l1 x1 r1 AR => ?_)) (Hi hc)
 refine FT (ex1 := X.ex) sx x1 (eo.mono l1) hi nd hk r1 fun X' h' C3 sm sx' x' eo' => ?_
 have ex' : X'.withEx X.ex = X' := by rw [<- sm.ex]
 rw [ex'] at x'
 exact AR X' ρ1 h' C3 sm sx' (B8 _) x' eo'
theorem PY (uf : UF U) {m o : ME Fn} {e eo' : PySem.Expr} {a : Nat} {p2 : Pos} (hc : Eh e = true) (ha : a ∈ Dg) (h : Ld U xc C A Ac env n ns Γ m e) (h2 : Ld U xc C A Ac env n ns Γ o eo') :
  SS U xc C A Ac env n ns Γ (.setA o a m) (.Assign [.Attribute eo' (wd a) p2] e pos) := by
 intro X ρ H s vs Q E sx x eo hp
 rw [Ai] at hp
 refine plainObj_wpAny_Assign_Attribute (h X sx ρ H s vs _ E x eo (hp.bnd (rel := AP U) fun v H1 ρ1 v' h1 BT _ l1 x1 r1 AR => ?_)) (Hi hc)
 refine h2 X sx ρ1 H1 _ vs _ E x1 (eo.mono l1) (AR.bnd (rel := AP U) fun w H2 ρ2 w' h2 tk2 _ l2 x2 r2 B9 => ?_)
 refine Lb (xc := xc) uf sx.cx x2 ha r2 (r1.mono l2) (B9.bnd (rel := fun _ _ _ => True) fun u H3 ρ3 u' h3 tk3 _ l3 x3 _ hp3 => ?_)
 exact hp3 X ρ3 h3 tk3 .refl sx (B8 _) x3 (((eo.mono l1).mono l2).mono l3)
theorem PS {m o k : ME Fn} {e eo' ek : PySem.Expr} {p2 : Pos} (hc : Eh e = true) (h : Ld U xc C A Ac env n ns Γ m e) (h2 : Ld U xc C A Ac env n ns Γ o eo') (h3 : Ld U xc C A Ac env n ns Γ k ek) :
  SS U xc C A Ac env n ns Γ (.setI o k m) (.Assign [.Subscript eo' ek p2] e pos) := by
 intro X ρ H s vs Q E sx x eo hp
 rw [Ai] at hp
 refine wpAny_Assign_Subscript (h X sx ρ H s vs _ E x eo (hp.bnd (rel := AP U) fun v H1 ρ1 v' h1 BT _ l1 x1 r1 AR => ?_)) (Hi hc)
 refine h2 X sx ρ1 H1 _ vs _ E x1 (eo.mono l1) (AR.bnd (rel := AP U) fun w H2 ρ2 w' h2 tk2 _ l2 x2 r2 B9 => ?_)
 refine h3 X sx ρ2 H2 _ vs _ E x2 ((eo.mono l1).mono l2) (B9.bnd (rel := AP U) fun z H3 ρ3 z' h3 tk3 _ l3 x3 r3 hp3 => ?_)
 refine Lk (xc := xc) x3 (r2.mono l3) r3 ((r1.mono l2).mono l3) (hp3.bnd (rel := fun _ _ _ => True) fun u H4 ρ4 u' h4 tk4 _ l4 x4 _ hp4 => ?_)
 exact hp4 X ρ4 h4 tk4 .refl sx (B8 _) x4 ((((eo.mono l1).mono l2).mono l3).mono l4)
theorem RR {m : ME Fn} {e : PySem.Expr} (hc : Eh e = true) (h : Ld U xc C A Ac env n ns Γ m e) :
  SS U xc C A Ac env n ns Γ (.ex m) (.Expr e pos) := by
 intro X ρ H s vs Q E sx x eo hp
 rw [Ai] at hp
 have hi : interactive env = false := by
  unfold interactive
  rw [sx.ek.kind]; rfl
 refine wpAny_Expr_any (h X sx ρ H s vs _ E x eo (hp.bnd (rel := AP U) fun v H1 ρ1 v' h1 BT _ l1 x1 r1 AR => ?_)) hi (Hi hc)
 exact AR X ρ1 h1 BT .refl sx (B8 _) x1 (eo.mono l1)
theorem QY {m : ME Fn} {e : PySem.Expr} (h : Ld U xc C A Ac env n ns Γ m e) :
  SS U xc C A Ac env n ns Γ (.ret m) (.Return (some e) pos) := by
 intro X ρ H s vs Q E sx x eo hp
 rw [Ai] at hp
 refine wpAny_Return_some (h X sx ρ H s vs _ E x eo (hp.bnd (rel := AP U) fun v H1 ρ1 v' h1 BT _ l1 x1 r1 AR => ?_))
 exact AR X ρ1 h1 BT .refl sx (B8 _) x1 (eo.mono l1) v' r1
theorem Qo : SS U xc C A Ac env n ns Γ .ret0 (.Return none pos) := by
 intro X ρ H s vs Q E sx x eo hp
 rw [Ai] at hp
 exact wpAny_Return_none (hp X ρ s.heap s.toks .refl sx (B8 _) x eo .none rfl)
theorem Ry {c : ME Fn} {t e : List (MS Fn)} {ec : PySem.Expr} {bt be : List Stmt} (h : SM U xc C A Ac env n ns Γ c ec) (h2 : Od U xc C A Ac env n ns Γ t bt) (h3 : Od U xc C A Ac env n ns Γ e be) :
  SS U xc C A Ac env n ns Γ (.ifs c t e) (.If ec bt be pos) := by
 intro X ρ H s vs Q E sx x eo hp
 rw [Ai] at hp
 have e0 : bnd (Aa C c vs) (fun x => bnd (Aw x) fun b => if b = true then Ae C t vs else Ae C e vs) H = bnd (bnd (Aa C c vs) Aw) (fun b => if b = true then Ae C t vs else Ae C e vs) H := by
  simp only [bnd]
  cases Aa C c vs H <;> rfl
 rw [e0] at hp
 refine wpAny_If (h X sx ρ H s vs _ E x eo (hp.bnd (rel := Q6) fun u H1 ρ1 v' h1 BT _ l1 x1 r1 AR => ?_))
 cases r1
 cases u
 .exact h3 X ρ1 H1 _ vs Q E sx x1 (eo.mono l1) AR
 .exact h2 X ρ1 H1 _ vs Q E sx x1 (eo.mono l1) AR
theorem E8 (G : Str × Pos -> Value -> Sem Unit) (hG : ∀ p v Q E s, wpAny (model U.prog U.w) A (storeName env p.1 v) Q E s -> wpAny (model U.prog U.w) A (G p v) Q E s) : ∀ (is : List Nat) (tg : List (Str × Pos)) (xs : List V) (ys : List Value) (X : Fx) (vs vs' : Mine.Env) (s : Shared) (Q : Unit -> Shared -> Prop), SX U A X Ac env n ns -> Bc U X ρ H s.heap -> EO U X ρ env Γ vs -> DO U.sa ρ xs ys ->
  tg.length = is.length -> (∀ (j i : Nat) (p : Str × Pos), is[j]? = some i -> tg[j]? = some p -> Γ[i]? = some p.1 /\ Bo ns p.1 = true) -> Γ.Nodup -> BD is xs vs = some vs' ->
  (∀ X' h' C3, C4 X X' -> SX U A X' Ac env n ns -> Bc U X' ρ H h' -> EO U X' ρ env Γ vs' -> Q () { s with heap := h', toks := C3 }) -> wpAny (model U.prog U.w) A (assignInOrder (tg.map G) ys) Q E s
 | [], tg, xs, ys, X, vs, vs', s, Q, sx, x, eo, hv, hn, hi, nd, e, k => by
  cases tg with
  | cons _ _ => cases hn
  | nil =>
   cases xs with
   | cons _ _ => cases e
   | nil =>
    cases ys with
    | cons _ _ => exact hv.elim
    | nil =>
     cases e
     exact BW (k X s.heap s.toks .refl sx x eo)
 | i :: is, tg, xs, ys, X, vs, vs', s, Q, sx, x, eo, hv, hn, hi, nd, e, k => by
  cases tg with
  | nil => cases hn
  | cons p tg =>
   cases xs with
   | nil => cases e
   | cons v xs =>
    cases ys with
    | nil => exact hv.elim
    | cons y ys =>
     obtain ⟨h1, h2⟩ := hi 0 i p rfl rfl
     show wpAny _ _ (do holding ys (G p y); assignInOrder (tg.map G) ys) _ _ _
     refine Az (wpAny_holding (hG p y _ _ _ (FT (ex1 := X.ex) sx x eo h1 nd h2 hv.1 fun X' h' C3 sm sx' x' eo' => ?_)))
     have ex' : X'.withEx X.ex = X' := by rw [<- sm.ex]
     rw [ex'] at x'
     refine E8 G hG is tg xs ys X' _ vs' _ Q sx' x' eo' hv.2 (by simpa using hn) (fun j i p a b => hi (j + 1) i p (by simpa using a) (by simpa using b)) nd e fun X₂ h₂ tk₂ sm₂ sx₂ x₂ eo₂ => ?_
     exact k X₂ h₂ tk₂ (sm.trans sm₂) sx₂ x₂ eo₂
theorem Dh {env : PySem.Env} : ∀ tg : List (Str × Pos), assignEach (tg.map fun p => .Name p.1 p.2) env = tg.map fun p => (false, assign (.Name p.1 p.2) env)
 | [] => rfl
 | p :: r => by
  rw [List.map_cons, List.map_cons, <- Dh r]
  rfl
theorem Fm {env : PySem.Env} : ∀ tg : List (Str × Pos), (tg.map fun p => (false, assign (.Name p.1 p.2) env)).findIdx? (·.1) = none
 | [] => rfl
 | p :: r => by
  rw [List.map_cons, List.findIdx?_cons]
  simp [Fm r]
def OU : PySem.Expr -> Bool
 | .Tuple .. => false
 | .ListComp .. | .SetComp .. | .DictComp .. => false
 | _ => true
theorem IO {α : Type} {o : Option α} {f : α -> M (Mine.Env × Option V)} {Q : Flow -> Shared -> Prop} (hp : CJ U xc A Ac env n ns Γ X ρ (bnd (Au o) f H) Q E s) : ∃ a, o = some a /\ CJ U xc A Ac env n ns Γ X ρ (f a H) Q E s := by
 cases o with
 | none => exact hp.elim
 | some a => exact ⟨a, rfl, hp⟩
theorem Kp {v : V} {f : An -> M (Mine.Env × Option V)} {Q : Flow -> Shared -> Prop} (hp : CJ U xc A Ac env n ns Γ X ρ (bnd (AJ v) f H) Q E s) : ∃ i c, v = .ref i /\ H[i]? = some c /\ CJ U xc A Ac env n ns Γ X ρ (f c H) Q E s := by
 unfold bnd AJ at hp
 cases v <;> first | exact hp.elim | skip
 rename_i i
 dsimp only at hp
 cases e : H[i]? with
 | none => rw [e] at hp; exact hp.elim
 | some c => rw [e] at hp; exact ⟨i, c, rfl, e, hp⟩
theorem PN {m : ME Fn} {e : PySem.Expr} {is : List Nat} {tg : List (Str × Pos)} {k : Nat} {tpos : Pos} (hc : OU e = true) (hn : tg.length = is.length)
  (hi : ∀ (j i : Nat) (p : Str × Pos), is[j]? = some i -> tg[j]? = some p -> Γ[i]? = some p.1 /\ Bo ns p.1 = true) (nd : Γ.Nodup) (h : Ld U xc C A Ac env n ns Γ m e) :
  SS U xc C A Ac env n ns Γ (.asgT is m) (.Assign [.Tuple (tg.map fun p => .Name p.1 p.2) k tpos] e pos) := by
 intro X ρ H s vs Q E sx x eo hp
 rw [Ai] at hp
 refine Assign_Tuple (h X sx ρ H s vs _ E x eo (hp.bnd (rel := AP U) fun v H1 ρ1 v' h1 BT _ l1 x1 r1 AR => ?_)) (by cases e <;> first | rfl | (cases hc; done)) (by cases e <;> first | rfl | (cases hc; done))
 obtain ⟨i, c, rfl, hcell, B9⟩ := Kp AR
 cases c <;> first | exact B9.elim | skip
 rename_i xs
 obtain ⟨vs', hset, hp3⟩ := IO B9
 obtain ⟨a, e1, lo, ws, il, vv⟩ := FS.at (s := { s with heap := h1, toks := BT }) x1 hcell
 obtain ⟨p, ep, rfl⟩ := r1
 rw [e1] at ep; cases ep
 have BN : xs.length = is.length := by
  clear hp AR B9 hp3 vv il hcell hi hn
  revert hset
  generalize vs = vs0
  induction is generalizing xs vs0 with
  | nil => intro q; cases xs <;> first | rfl | cases q
  | cons i is ih => intro q; cases xs with
   | nil => cases q
   | cons v xs => exact congrArg (· + 1) (ih _ _ q)
 refine assign_Tuple_tuple (s := { s with heap := h1, toks := BT }) sx.cx.hh il (by rw [Dh, List.length_map, hn, List.size_toArray, vv.length, BN]) (by rw [Dh]; exact Fm tg) fun h2 he => ?_
 have x2 : Bc U X ρ1 H1 h2 := by
  have hs : ∀ b o, h1.get? b = some o -> h2.get? b = some o := fun b o g => he b o (Nat.ne_of_lt (Heap.lt_size g)) g
  exact x1.keeps hs
 rw [Dh, List.map_map]
 refine E8 (fun p => assign (.Name p.1 p.2) env) (fun p v Q E s hq => PySem.wpAny_assign_Name hq) is tg xs ws X vs vs' _ _ sx x2 (eo.mono l1) vv hn hi nd hset fun X' h' C3 sm sx' x' eo' => ?_
 exact hp3 X' ρ1 h' C3 sm sx' (B8 _) x' eo'
theorem Ot {a b : Str} {pa pb tpos p2 : Pos} {k k2 : Nat} {v1 v2 : PySem.Expr} (ek : AZ X Ac env ns) (h1 : As v1 = true) (h2 : As v2 = true) (la : ns.lookup a = some .local) (lb : ns.lookup b = some .local) (hl : (pb.line == pa.line) = true) (hab : a ≠ b)
  (hf : [v1, v2].all (foldedForSure 8) = false) (hk : [v1, v2].all (constantsAlone 8) = false) :
  swappedStores [.Tuple [.Name a pa, .Name b pb] k tpos] (.Tuple [v1, v2] k2 p2) env = pure (some [a, b]) := by
 have ka : env.kindOf a = some .local := by unfold PySem.Env.kindOf; rw [ek.names]; exact la
 have kb : env.kindOf b = some .local := by unfold PySem.Env.kindOf; rw [ek.names]; exact lb
 have bk : (env.blockKind != .function) = false := by unfold PySem.Env.blockKind; rw [ek.kind]; rfl
 unfold swappedStores
 dsimp only
 have e1 : (!([PySem.Expr.Name a pa, PySem.Expr.Name b pb].length == 2 || [PySem.Expr.Name a pa, PySem.Expr.Name b pb].length == 3) || [v1, v2].length != [PySem.Expr.Name a pa, PySem.Expr.Name b pb].length || env.blockKind != .function) = false := by rw [bk]; rfl
 simp only [e1, Bool.false_eq_true, if_false, hf, hk]
 have hba : (b == a) = false := beq_eq_false_iff_ne.mpr (Ne.symm hab)
 have C7 : pb.line = pa.line := beq_iff_eq.mp hl
 simp [List.filterMap, PySem.Expr.pos, ka, kb, C7, List.eraseDups_cons, hba]
 rintro (q | q)
 .cases v1 <;> first | (cases q; done) | (cases h1; done)
 .cases v2 <;> first | (cases q; done) | (cases h2; done)
theorem OH {m : ME Fn} {a b : Str} {pa pb tpos p2 : Pos} {k k2 : Nat} {v1 v2 : PySem.Expr} {i j : Nat} (h1 : As v1 = true) (h2 : As v2 = true) (la : ns.lookup a = some .local) (lb : ns.lookup b = some .local) (hl : (pb.line == pa.line) = true) (hab : a ≠ b)
  (hf : [v1, v2].all (foldedForSure 8) = false) (hk : [v1, v2].all (constantsAlone 8) = false) (hij : i ≠ j) (hi : Γ[i]? = some a) (hj : Γ[j]? = some b) (nd : Γ.Nodup) (h : Ld U xc C A Ac env n ns Γ m (.Tuple [v1, v2] k2 p2)) :
  SS U xc C A Ac env n ns Γ (.asgT [i, j] m) (.Assign [.Tuple [.Name a pa, .Name b pb] k tpos] (.Tuple [v1, v2] k2 p2) pos) := by
 intro X ρ H s vs Q E sx x eo hp
 rw [Ai] at hp
 have hsw := Ot (k := k) (k2 := k2) (tpos := tpos) (p2 := p2) sx.ek h1 h2 la lb hl hab hf hk
 refine Assign_Tuple_swapped (names := [a, b]) ?_ (by rfl) hsw
 refine h X sx ρ H s vs _ E x eo (hp.bnd (rel := AP U) fun v H1 ρ1 v' h1 BT _ l1 x1 r1 AR => ?_)
 obtain ⟨i', c, rfl, hcell, B9⟩ := Kp AR
 cases c <;> first | exact B9.elim | skip
 rename_i xs
 obtain ⟨vs', hset, hp3⟩ := IO B9
 obtain ⟨a', e1, lo, ws, il, vv⟩ := FS.at (s := { s with heap := h1, toks := BT }) x1 hcell
 obtain ⟨p, ep, rfl⟩ := r1
 rw [e1] at ep; cases ep
 match xs, hset, ws, vv with
 | [x1', x2'], hset, [w1, w2], ⟨r1, r2, _⟩ =>
  have hL : [a, b].length = #[w1, w2].size := rfl
  rw [hL]
  refine unpackItems_tuple (s := { s with heap := h1, toks := BT }) (items := #[w1, w2]) sx.cx.hh il fun h2 he => ?_
  have x2 : Bc U X ρ1 H1 h2 := by
   have hs : ∀ b o, h1.get? b = some o -> h2.get? b = some o := fun b o g => he b o (Nat.ne_of_lt (Heap.lt_size g)) g
   exact x1.keeps hs
  have e2 : BD [j, i] [x2', x1'] vs = some vs' := by
   have : BD [i, j] [x1', x2'] vs = some vs' := hset
   rw [<- this]
   simp only [BD]
   rw [List.set_comm _ _ hij]
  refine E8 (fun p => bindName env p.1) (fun p v Q E s hq => wpAny_bindName hq) [j, i] [(b, pb), (a, pa)] [x2', x1'] [w2, w1] X vs vs' _ _ sx x2 (eo.mono l1) ⟨r2, r1, trivial⟩ rfl (fun q r p a b => ?_) nd e2 fun X' h' C3 sm sx' x' eo' => ?_
  .match q, a, b with
   | 0, a, b =>
    cases a; cases b
    exact ⟨hj, by unfold Bo; rw [lb]; rfl⟩
   | 1, a, b =>
    cases a; cases b
    exact ⟨hi, by unfold Bo; rw [la]; rfl⟩
   | q + 2, a, b => simp at a
  .exact hp3 X' ρ1 h' C3 sm sx' (B8 _) x' eo'
 | [], hset, _, _ => cases hset
 | [_], hset, _, _ => cases hset
 | _ :: _ :: _ :: _, hset, _, _ => cases hset
 | [_, _], _, [], vv => exact vv.elim
 | [_, _], _, [_], vv => exact vv.2.elim
 | [_, _], _, _ :: _ :: _ :: _, vv => exact vv.2.2.elim
theorem M3 {m : ME Fn} {e : PySem.Expr} {i : Nat} {nm : Str} {px : Pos} {sem : PySem.Env -> Option (Value -> Sem Unit) -> Sem Value} (hi : Γ[i]? = some nm) (nd : Γ.Nodup) (hk : ns.lookup nm = some .local)
  (hx : ∀ X env, AZ X Ac env ns -> exec (.Assign [.Name nm px] e pos) env = (do standAt pos; (sem env (some (assign (.Name nm px) env)) >>= fun _ => pure ()); pure .next))
  (h : ∀ X, SX U A X Ac env n ns -> Py U xc C A X env Γ m (sem env)) :
  SS U xc C A Ac env n ns Γ (.asg i m) (.Assign [.Name nm px] e pos) := by
 intro X ρ H s vs Q E sx x eo hp
 rw [Ai] at hp
 rw [hx X env sx.ek]
 refine Az (wpAny_standAt (Az (Az ?_)))
 have hpE := hp.bnd (rel := AP U) (Q1 := fun _ _ => True) fun v H1 ρ1 v' h1 BT _ l1 x1 r1 AR => trivial
 refine wpAny_mono (h X sx ρ H s vs (some (assign (.Name nm px) env)) (fun _ _ => True) (fun _ s' => Q .next s') E x eo hpE fun ρ1 h1 BT l1 => ?_) (fun _ s' hq => BW (BW hq)) fun _ _ e => e
 intro D Cd ρ' H' v h' C3 oC mC l2 F Eg r er _
 unfold compPost
 dsimp only
 have gC := F.exGet (p := (Cd, oC)) (.head _)
 have AR : CJ U xc A Ac env n ns Γ X ρ (Mine.ret (vs.set i (some v), Option.none) H') Q E s := by
  unfold bnd at hp
  rw [er] at hp
  exact hp
 refine PySem.wpAny_assign_Name (FT (s := { s with heap := h', toks := C3 }) (ex1 := (Cd, oC) :: X.ex) sx F ((eo.mono l1).mono l2) hi nd (by unfold Bo; rw [hk]; rfl) r fun X' h2 tk2 sm sx' x' eo' => ?_)
 refine ⟨mC, Eg _ (x'.exGet (p := (Cd, oC)) (.head _)), fun h3 hs => ?_⟩
 have x3 := FS.dropEx (X := X') (ex := X.ex) x' hs.extBut
 have ex' : X'.withEx X.ex = X' := by rw [<- sm.ex]
 rw [ex'] at x3
 exact AR X' ρ' h3 tk2 sm sx' (l1.trans l2) x3 eo'
theorem Pu (x : Bc U X ρ H s.heap) {o v : V} {o' v' : Value} {Q : Value -> Shared -> Prop} (vo : AP U ρ o o') (vv : AP U ρ v v') (hp : Ay (AP U) U xc X ρ (bnd (Ds o v) (fun _ => Mine.ret o) H) Q E s) :
  wpAny (model U.prog U.w) A (inplaceOp .Add o' v') Q E s := by
 unfold Ds at hp
 by_cases hov : o = v
 .rw [if_pos hov] at hp; exact hp.elim
 rw [if_neg hov] at hp
 have vo' := vo
 have e0 : ∀ f : An -> M V, bnd (bnd (AJ o) f) (fun _ => Mine.ret o) H = bnd (AJ o) (fun c => bnd (f c) (fun _ => Mine.ret o)) H := fun f => by
  unfold bnd
  cases AJ o H <;> rfl
 rw [e0] at hp
 obtain ⟨i, c, rfl, hc, hp⟩ := BC hp
 have e1 : ∀ f : An -> M V, bnd (bnd (AJ v) f) (fun _ => Mine.ret (V.ref i)) H = bnd (AJ v) (fun c => bnd (f c) (fun _ => Mine.ret (V.ref i))) H := fun f => by
  unfold bnd
  cases AJ v H <;> rfl
 rw [e1] at hp
 obtain ⟨j, d, rfl, hd, hp⟩ := BC hp
 obtain ⟨p, ep, rfl⟩ := vo
 obtain ⟨q, eq, rfl⟩ := vv
 cases c with
 | list xs =>
  cases d with
  | list ys =>
   dsimp only at hp
   by_cases hl : xs.length + ys.length <= Bz
   .rw [if_pos hl] at hp
    obtain ⟨a, vs, n, news, e1, Ed, N, hm, back⟩ := FS.listCell x hc
    rw [e1] at ep; cases ep
    obtain ⟨b, ws, n2, news2, e2, hws, N2, hm2, _⟩ := FS.listCell x hd
    rw [e2] at eq; cases eq
    obtain ⟨news', up, k⟩ := back (xs ++ ys) (vs ++ ws) (if ws = [] then n else n + 1) (Ed.append hws)
    obtain ⟨pre, post, rfl, rfl, a1, b1⟩ := up.split
    have z := N _ hm
    have l1 := Ed.length
    have l2 := hws.length
    have hz : vs.toArray.size + ws.toArray.size <= Bz := by rw [List.size_toArray, List.size_toArray, l1, l2]; exact hl
    refine KL ⟨_, z.1, rfl⟩ ⟨_, (N2 _ hm2).1, rfl⟩ ?_
    refine call_meets PySem.F.slot_list_iadd ⟨_, z.1, rfl⟩ PySem.F.entry_list_iadd (PySem.F.args_list_iadd_2 _ _) (PySem.AutoSeq1.list___iadd___list_list_0 p.1 vs.toArray n q.1 ws.toArray n2 (fun h => ?_) ?_ ?_) ⟨z.1, (N2 _ hm2).1, ?_⟩
    .rw [Ao] at h
     exact Ny hz h.2
    .refine Cy (Nat.le_trans (Nat.le_add_right _ _) hz)
    .exact Nat.le_succ_of_le (Cy hz)
    .refine hp ρ (.ref p.1) _ s.toks (B8 _) (k _ (x.fr.change (Heap.SameBut.update ..) z.2.1 z.2.2) (ki_turn _ N a1 b1 ?_ ?_)) vo'
     .apply Array.toList_inj.mp
      simp
     .by_cases hw : ws = []
      .subst hw; simp
      .have : ws.length ≠ 0 := fun e => hw (List.eq_nil_of_length_eq_zero e)
       rw [if_neg hw, if_neg]
       simp; exact hw
   .rw [if_neg hl] at hp; exact hp.elim
  | _ => exact hp.elim
 | _ => exact hp.elim
theorem Qu {m : ME Fn} {e : PySem.Expr} {i : Nat} {nm : Str} {px : Pos} (hi : Γ[i]? = some nm) (nd : Γ.Nodup) (hk : ns.lookup nm = some .local) (h : Ld U xc C A Ac env n ns Γ m e) :
  SS U xc C A Ac env n ns Γ (.augL i m) (.AugAssign (.Name nm px) .Add e pos) := by
 intro X ρ H s vs Q E sx x eo hp
 rw [Ai] at hp
 obtain ⟨o, ho, hp⟩ := IO hp
 have hv : vs[i]? = some (some o) := by
  cases q : vs[i]? with
  | none => rw [q] at ho; cases ho
  | some w => rw [q] at ho; cases w with | none => cases ho | some w => cases ho; rfl
 have hx : env.kindOf nm = some .local := by unfold PySem.Env.kindOf; rw [sx.ek.names]; exact hk
 obtain ⟨y, hy, ly⟩ := eo.get i o nm hv hi (by rw [hx]; rfl)
 refine wpAny_AugAssign_Name ?_
 have hm : X.m nm = some y := by
  rcases ly with ⟨_, _, c⟩ | ⟨a | a, _⟩ | ⟨_, o2, m2, b1, b2, b3⟩
  .exact c
  .rw [hx] at a; cases a
  .rw [hx] at a; cases a
  .exfalso
   obtain ⟨F, ps, p, N, D, lo⟩ := x
   exact (N (env.locals, o2) (DW _ b1)).2.1 sx.loc
 refine wpAny_loadName_local sx.ek.kind hx (by rw [sx.loc]; exact x.fr.ns) hm ?_
 refine h X sx ρ H s vs _ E x eo (hp.bnd (rel := AP U) fun v H1 ρ1 v' h1 BT _ l1 x1 r1 AR => ?_)
 have e0 : (bnd (Ds o v) (fun _ => Mine.ret (vs, Option.none)) H1 : R (Mine.Env × Option V)) = bnd (bnd (Ds o v) (fun _ => Mine.ret o)) (fun _ => Mine.ret (vs, Option.none)) H1 := by
  simp only [bnd]
  cases Ds o v H1 <;> rfl
 rw [e0] at AR
 refine Pu x1 (hy.mono l1) r1 (AR.bnd (rel := AP U) fun z H2 ρ2 z' h2 tk2 he l2 x2 r2 B9 => ?_)
 have hz : z = o := by
  unfold bnd at he
  cases q : Ds o v H1 with
  | ok a H3 => rw [q] at he; cases he; rfl
  | exc a H3 => rw [q] at he; cases he
  | bad => rw [q] at he; cases he
 subst hz
 refine FT (s := { s with heap := h2, toks := tk2 }) (ex1 := X.ex) sx x2 ((eo.mono l1).mono l2) hi nd (by unfold Bo; rw [hk]; rfl) r2 fun X' h' C3 sm sx' x' eo' => ?_
 have ex' : X'.withEx X.ex = X' := by rw [<- sm.ex]
 rw [ex'] at x'
 have e3 : vs.set i (some z) = vs := by
  apply List.ext_getElem?
  intro j
  by_cases hj : i = j
  .subst hj; rw [List.getElem?_set_self (by rw [eo.len]; exact (List.getElem?_eq_some_iff.mp hi).1), hv]
  .rw [List.getElem?_set_ne hj]
 rw [e3] at eo'
 exact B9 X' ρ2 h' C3 sm sx' (B8 _) x' eo'
theorem IW (f : Array Value -> Array Value) (o : Obj) : (Obj.mapFields f o).dict = o.dict := by
 unfold Obj.mapFields
 split <;> rfl
def SD (h base : Heap) (e : Addr) (cls : Value) (d L : Addr) : Prop :=
 ∃ oe vs T oT ts, h.get? e = some oe /\ oe.cls = cls /\ oe.dict = some d /\ oe.data = .fields vs /\ 1 < vs.size /\ vs[1]? = some (.ref T) /\ base.get? T = none /\ T ≠ e /\ h.get? T = some oT /\ oT.data = .fields ts /\ ts[3]? = some (rawInt L)
def Q5 (cls : Value) (base : Heap) (l : List PySem.Env) (L : Addr) (e : Addr) (msg : Nat) (news : List (Addr × Obj)) (h : Heap) : Prop :=
 ∃ B d es n t, base.StaysIn B /\ (∀ q ∈ news, B.get? q.1 = some q.2 /\ base.get? q.1 = none) /\ B.StaysIn h /\ B.get? e = none /\ h.FunFrames B l /\ SD h B e cls d L /\
  B.get? d = some (W.dictOf es n) /\ getL "message" es = some (some (.str (wd msg) t))
section
variable {M : Model} {cls : Value} {base : Heap} {outer l : List PySem.Env} {L L' e : Addr} {msg : Nat} {news : List (Addr × Obj)} {Q : Unit -> Shared -> Prop}
theorem IZ {B : Heap} {d : Addr} {oe : Obj} {vs : Array Value} {head : Value} {hadNext : Bool} (hfr : A.frames = some (env :: outer)) (hf : env.frame = some L) (hl : s.heap.FunFrames B (env :: outer)) (hB : B.StaysIn s.heap) (hBe : B.get? e = none)
  (he : s.heap.get? e = some oe) (hc : oe.cls = cls) (hd : oe.dict = some d) (hv : oe.data = .fields vs) (hsz : 1 < vs.size)
  (hQ : ∀ h', B.StaysIn h' -> h'.FunFrames B (env :: outer) -> SD h' B e cls d L -> s.heap.UpToSlots h' -> Q () { s with heap := h' }) :
  wpAny M A (do let a <- frameOf env; let pl <- entryPlaceOf L hadNext; let b <- EntryCells.newEntry head a .none (rawInt L) .none pl; setField (.ref e) 1 b) Q E s := by
 have Ex : e ∉ (env :: outer).filterMap (·.frame) := fun hm => by
  obtain ⟨_, o, ho, hnf⟩ := hl.mem hm
  rw [he] at ho; cases ho
  exact hnf vs hv
 refine Az (wpAny_frameOf_fun hfr hl hf fun h₁ hs₁ => ?_)
 refine Az (wpAny_entryPlaceOf fun pl hpl => ?_)
 unfold EntryCells.newEntry newFields
 refine Az (wpAny_newObj_type ?_ (hpl.sizeOk5 _ _ _ _ _))
 have he₁ : h₁.get? e = some oe := (hs₁.2.1 e Ex).trans he
 have kb₁ : B.StaysIn h₁ := fun b o hbo => (hs₁.2.1 b fun hm => by rw [(hl.mem hm).1] at hbo; cases hbo).trans (hB b o hbo)
 generalize hob : ({ cls := .type "traceback", dict := none, data := .fields ([head, .ref L, .none, rawInt L, .none] ++ (if pl.isEmpty then List.replicate 6 Value.none else pl)).toArray } : Obj) = ob
 have hob' : ∃ ts : Array Value, ob.data = .fields ts /\ ts[3]? = some (rawInt L) := ⟨_, by rw [<- hob], by simp⟩
 have he₂ := DT (h := h₁) ob he₁
 refine wpAny_setField he₂ hv hsz ?_
 have hv₃ := Obj.data_mapFields hv (·.setIfInBounds 1 (Value.ref h₁.objs.size))
 have he₃ := Heap.get?_update_self (Obj.mapFields (·.setIfInBounds 1 (Value.ref h₁.objs.size))) he₂ (Obj.isFreed_of_fields hv₃)
 have hTe : h₁.objs.size ≠ e := Nat.ne_of_gt (Heap.lt_size he₁)
 have hT₃ := (Heap.get?_update_other (h₁.push ob) (Obj.mapFields (·.setIfInBounds 1 (Value.ref h₁.objs.size))) (Ne.symm hTe)).trans (Heap.get?_push_size h₁ (by rw [<- hob]; rfl))
 have keep : ∀ b o, b ≠ e -> h₁.get? b = some o -> ((h₁.push ob).update e (Obj.mapFields (·.setIfInBounds 1 (Value.ref h₁.objs.size)))).get? b = some o := fun b o hbe hb => by
  rw [Heap.get?_update_other _ _ (Ne.symm hbe)]
  exact DT _ hb
 have apart : ∀ b o, s.heap.get? b = some o -> (∀ vs, o.data ≠ .fields vs) -> b ≠ e := fun b o hb hnf q => by
  rw [q, he] at hb; cases hb
  exact hnf vs hv
 obtain ⟨ts, hts, h3⟩ := hob'
 refine hQ _ (fun b o hbo => keep b o (fun q => by rw [q, hBe] at hbo; cases hbo) (kb₁ b o hbo)) (hl.of_keeps fun b o hb hnf => ?_) ?_ fun b o hb hnf => ?_
 .obtain ⟨sl, hs⟩ := hs₁.2.2 b o hb
  exact ⟨_, keep b _ (apart b o hb hnf) hs, rfl⟩
 .exact ⟨_, _, h₁.objs.size, ob, ts, he₃, (Obj.cls_mapFields ..).trans hc, (IW _ _).trans hd, hv₃, by simpa using hsz, by simp [hsz], kb₁.fresh, hTe, hT₃, hts, h3⟩
 .obtain ⟨sl, hs⟩ := hs₁.2.2 b o hb
  exact ⟨sl, keep b _ (apart b o hb hnf) hs⟩
theorem Jq (hfr : A.frames = some (env :: outer)) (hf : env.frame = some L) (x : Fl cls base (env :: outer) L' e msg news s.heap) (hLL : L' = L)
  (hQ : ∀ h', Q5 cls base (env :: outer) L e msg news h' -> s.heap.UpToSlots h' -> Q () { s with heap := h' }) : wpAny M A (noteFrame (.ref e) env) Q E s := by
 subst hLL
 obtain ⟨B, d, es, n, t, b1, b2, b3, b4, b5, ⟨oe, vs, h1, h2, h3, h4, h5, h6⟩, b7, b8⟩ := x
 unfold noteFrame
 simp only [hf]
 rcases h6 with h6 | ⟨T, oT, ts, h6, h7, h8, h9, h10, h11⟩
 .refine Az (wpAny_field h1 h4 h6 ?_)
  rw [if_neg (by decide)]
  exact IZ hfr hf b5 b3 b4 h1 h2 h3 h4 h5 fun h' k1 k2 k3 k4 => hQ h' ⟨B, d, es, n, t, b1, b2, k1, b4, k2, k3, b7, b8⟩ k4
 .refine Az (wpAny_field h1 h4 h6 ?_)
  rw [if_pos (show (Value.ref T != Value.none) = true from by simp)]
  rcases h11 with h11 | h11
  .refine Az (wpAny_field h9 h10 h11 ?_)
   rw [if_neg (show ¬ ((Value.none == rawInt L') = true) from by simp [rawInt])]
   refine Az (wpAny_setField h9 h10 (Array.getElem?_eq_some_iff.mp h11).1 ?_)
   have other : ∀ b, b ≠ T -> (s.heap.update T (Obj.mapFields (·.setIfInBounds 3 Value.none))).get? b = s.heap.get? b := fun b hb => Heap.get?_update_other _ _ (Ne.symm hb)
   have apart : ∀ b o, s.heap.get? b = some o -> (∀ vs, o.data ≠ .fields vs) -> b ≠ T := fun b o hb hnf q => by
    rw [q, h9] at hb; cases hb
    exact hnf ts h10
   refine IZ hfr hf (b5.of_keeps fun b o hb hnf => ⟨o, (other b (apart b o hb hnf)).trans hb, rfl⟩) (fun b o hbo => (other b fun q => by rw [q, h7] at hbo; cases hbo).trans (b3 b o hbo)) b4
    ((other e (Ne.symm h8)).trans h1) h2 h3 h4 h5 fun h' k1 k2 k3 k4 => hQ h' ⟨B, d, es, n, t, b1, b2, k1, b4, k2, k3, b7, b8⟩ fun b o hb hnf => k4 b o ((other b (apart b o hb hnf)).trans hb) hnf
  .refine Az (wpAny_field h9 h10 h11 ?_)
   rw [if_pos (show (rawInt L' == rawInt L') = true from by simp)]
   exact BW (hQ s.heap ⟨B, d, es, n, t, b1, b2, b3, b4, b5, ⟨oe, vs, T, oT, ts, h1, h2, h3, h4, h5, h6, h7, h8, h9, h10, h11⟩, b7, b8⟩ (Heap.UpToSlots.refl _))
theorem Gv {fl : Option Addr} (x : Q5 cls base l L e msg news s.heap) (hfl : fl = none \/ fl = some L)
  (hQ : ∀ h', Fl cls base l L e msg news h' -> (fl = some L -> Q5 cls base l L e msg news h') -> (∀ L₂ l₂, fl = none -> l = env :: l₂ -> Fl cls base l₂ L₂ e msg news h') -> s.heap.UpToSlots h' -> Q () { s with heap := h' }) : wpAny M A (setFlight (.ref e) fl) Q E s := by
 obtain ⟨B, d, es, n, t, b1, b2, b3, b4, b5, ⟨oe, vs, T, oT, ts, h1, h2, h3, h4, h5, h6, h7, h8, h9, h10, h11⟩, b7, b8⟩ := x
 have other : ∀ b, b ≠ T -> (s.heap.update T (Obj.mapFields (·.setIfInBounds 3 (fl.elim Value.none fun f => rawInt f)))).get? b = s.heap.get? b :=
  fun b hb => Heap.get?_update_other _ _ (Ne.symm hb)
 have apart : ∀ b o, s.heap.get? b = some o -> (∀ vs, o.data ≠ .fields vs) -> b ≠ T := fun b o hb hnf q => by
  rw [q, h9] at hb; cases hb
  exact hnf ts h10
 have h12 : 3 < ts.size := (Array.getElem?_eq_some_iff.mp h11).1
 unfold setFlight
 refine Az (wpAny_field h1 h4 h6 ?_)
 rw [if_pos (show (Value.ref T != Value.none) = true from by simp)]
 have g1 : B.StaysIn (s.heap.update T (Obj.mapFields (·.setIfInBounds 3 (fl.elim Value.none fun f => rawInt f)))) := fun b o hbo => (other b fun q => by rw [q, h7] at hbo; cases hbo).trans (b3 b o hbo)
 have g2 : (s.heap.update T (Obj.mapFields (·.setIfInBounds 3 (fl.elim Value.none fun f => rawInt f)))).FunFrames B l := b5.of_keeps fun b o hb hnf => ⟨o, (other b (apart b o hb hnf)).trans hb, rfl⟩
 have he := (other e (Ne.symm h8)).trans h1
 have hT := Heap.get?_update_self (Obj.mapFields (·.setIfInBounds 3 (fl.elim Value.none fun f => rawInt f))) h9 (Obj.isFreed_of_fields (Obj.data_mapFields h10 _))
 have hTd := Obj.data_mapFields h10 (·.setIfInBounds 3 (fl.elim Value.none fun f => rawInt f))
 refine wpAny_setField h9 h10 h12 (hQ _ ⟨B, d, es, n, t, b1, b2, g1, b4, g2, ⟨oe, vs, he, h2, h3, h4, h5, .inr ⟨T, _, _, h6, h7, h8, hT, hTd, ?_⟩⟩, b7, b8⟩ (fun e' => ?_) (fun L₂ l₂ e' el => ?_) fun b o hb hnf => ⟨o.slots, (other b (apart b o hb hnf)).trans hb⟩)
 .rcases hfl with rfl | rfl
  .left; simp [h12]
  .right; simp [h12]
 .subst e'
  exact ⟨B, d, es, n, t, b1, b2, g1, b4, g2, ⟨oe, vs, T, _, _, he, h2, h3, h4, h5, h6, h7, h8, hT, hTd, by simp [h12]⟩, b7, b8⟩
 .subst e' el
  exact ⟨B, d, es, n, t, b1, b2, g1, b4, g2.2.2, ⟨oe, vs, he, h2, h3, h4, h5, .inr ⟨T, _, _, h6, h7, h8, hT, hTd, .inl (by simp [h12])⟩⟩, b7, b8⟩
theorem Jy (hfr : A.frames = some (env :: outer)) (hf : env.frame = some L) (x : Fl cls base (env :: outer) L e msg news s.heap) (L₂ : Addr)
  (hQ : ∀ h', Fl cls base outer L₂ e msg news h' -> s.heap.UpToSlots h' -> Q () { s with heap := h' }) : wpAny M A (leaving env (.ref e)) Q E s := by
 unfold leaving
 refine Az (Jq hfr hf x rfl fun h1 k1 k2 => ?_)
 refine Gv (env := env) (s := { s with heap := h1 }) k1 (.inl rfl) fun h2 _ _ k3 k4 => hQ h2 (k3 L₂ outer rfl rfl) (k2.trans k4)
theorem PQ {E' : Value -> Shared -> Prop} (hfr : A.frames = some (env :: outer)) (hf : env.frame = some L) (x : Fl cls base (env :: outer) L e msg news s.heap)
  (hE : ∀ h', Fl cls base (env :: outer) L e msg news h' -> s.heap.UpToSlots h' -> E' (.ref e) { s with heap := h' }) : notedBy M A env (cameBackBy M A env E') (.ref e) s := by
 unfold notedBy cameBackBy
 refine Jq hfr hf x rfl fun h1 k1 k2 => ?_
 have k1' := k1
 obtain ⟨B, d, es, n, t, b1, b2, b3, b4, b5, ⟨oe, vs, T, oT, ts, h1', h2, h3, h4, h5, h6, _⟩, b7, b8⟩ := k1'
 refine Az (wpAny_field h1' h4 h6 ?_)
 rw [if_neg (show ¬ ((Value.ref T == Value.none) = true) from by simp)]
 rw [hf]
 exact Gv (env := env) (s := { s with heap := h1 }) k1 (.inr rfl) fun h2 k3 _ _ k4 => hE h2 k3 (k2.trans k4)
end
theorem SX.ex (sx : SX U A X Ac env n ns) (ex : List (Addr × Obj)) : SX U A (X.withEx ex) Ac env n ns := ⟨sx.cx.ex ex, sx.ek.ex ex, sx.loc, sx.cel, sx.inj, sx.og⟩
theorem EO.re (sx : SX U A X Ac env n ns) (F : Bc U X ρ H h) (eo : EO U X ρ env Γ vs) (ex : List (Addr × Obj)) : EO U (X.withEx ex) ρ env Γ vs := by
 obtain ⟨Fr', ps, p, N, D, lo⟩ := F
 refine ⟨eo.len, fun i v x h1 h2 h3 => ?_⟩
 obtain ⟨y, hy, ly⟩ := eo.get i v x h1 h2 h3
 refine ⟨y, hy, ?_⟩
 rcases ly with l | ⟨a, c, o, b1, b2, b3⟩ | ⟨a, o, m, b1, b2, b3⟩
 .exact .inl l
 .obtain ⟨o2, v0, m2, d2⟩ := sx.cel x c b1
  have e1 := (N (c, o) (DW _ b2)).1
  have e2 := (N (c, o2) (DW _ (DW _ m2))).1
  dsimp only at e1 e2
  rw [e1] at e2
  cases e2
  exact .inr (.inl ⟨a, c, o, b1, DW _ m2, b3⟩)
 .exact absurd sx.loc (N (env.locals, o) (DW _ b1)).2.1
theorem Fl.sub {cls : Value} {base : Heap} {l : List PySem.Env} {L e : Addr} {msg : Nat} {news news' : List (Addr × Obj)} (x : Fl cls base l L e msg news h) (hs : ∀ p ∈ news', p ∈ news) : Fl cls base l L e msg news' h := by
 obtain ⟨B, d, es, n, t, b1, b2, b3⟩ := x
 exact ⟨B, d, es, n, t, b1, fun q hq => b2 q (hs q hq), b3⟩
theorem Pw.drop {p : Addr × Obj} {ex : List (Addr × Obj)} {msg : Nat} {e : Addr} (x : Pw U xc (X.withEx (p :: ex)) msg ρ H e h) : Pw U xc (X.withEx ex) msg ρ H e h := by
 obtain ⟨ps, h₂, p1, D, lo, st, F, u⟩ := x
 have sub : ((X.withEx ex).px ++ ps.flatten).Sublist ((X.withEx (p :: ex)).px ++ ps.flatten) := ((List.sublist_cons_self _ _).append_left _).append_right _
 refine ⟨ps, h₂, p1, ?_, lo, st.sub fun q hq => sub.subset hq, F, u⟩
 unfold B4 at D ⊢
 exact D.sublist (sub.map _)
theorem Lu {msg : Nat} {e : Addr} {E' : Value -> Shared -> Prop} (cx : Cx U A X Ac n) (he : env = Ac) (x : Pw U xc X msg ρ H e s.heap) (hE : ∀ h', Pw U xc X msg ρ H e h' -> E' (.ref e) { s with heap := h' }) :
  notedBy (model U.prog U.w) A env (cameBackBy (model U.prog U.w) A env E') (.ref e) s := by
 subst he
 obtain ⟨ps, h₂, p1, D, lo, st, F, u⟩ := x
 obtain ⟨A₀, outer, _, hl⟩ := cx.B
 have hA := cx.hA
 rw [hl] at st hA
 refine PQ hA cx.hf st fun h' k1 k2 => hE h' ⟨ps, h₂, p1, D, lo, ?_, F, u.trans k2⟩
 rw [hl]; exact k1
def RN (U : Un) (xc : Value) (A : Around) (Ac env : PySem.Env) (n : Nat) (ns : Ft) (Γ : List Str) (X : Fx) (ρ0 : B0) (items : List V) (Ready : MH -> Prop) (st : Nat -> Obj -> Prop) (f : V -> Mine.Env -> M (Mine.Env × Option V)) (post : M Unit) (I : Addr) (Q : Flow -> Shared -> Prop) (E : Value -> Shared -> Prop) (s0 : Shared)
  (j : Nat) (s' : Shared) : Prop :=
 ∃ k Xk ρk Hk h tk vsk oI, s' = { s0 with heap := h, toks := tk } /\ j = items.length + 1 - k /\ k <= items.length /\ C4 X Xk /\ SX U A Xk Ac env n ns /\ ρ0 <+: ρk /\ Bc U (Xk.withEx ((I, oI) :: X.ex)) ρk Hk h /\ st k oI /\ Ready Hk /\ EO U Xk ρk env Γ vsk /\
  CJ U xc A Ac env n ns Γ Xk ρk (CG f post (items.drop k) vsk Hk) Q E s'
theorem F9 {X Y : Fx} (e : Y.ex = X.ex) : Y.withEx X.ex = Y := by rw [<- e]
theorem Im {nm : Str} {i : Nat} {px : Pos} {body : List Stmt} {b : List (MS Fn)} {I : Addr} {items : List V} {Ready : MH -> Prop} {st : Nat -> Obj -> Prop} {post : M Unit} {Q : Flow -> Shared -> Prop} {s0 : Shared} (he : env = Ac)
  (src : Q8 U A I items Ready ρ0 st) (hpost : ∀ H, (post H = .ok () H /\ Ready H) \/ post H = .bad) (hi : Γ[i]? = some nm) (nd : Γ.Nodup) (hk : Bo ns nm = true) (hb : Od U xc C A Ac env n ns Γ b body)
  {m₀ : Nat} {s₁ : Shared} (h : RN U xc A Ac env n ns Γ X ρ0 items Ready st (fun x env => Ae C b (env.set i (some x))) post I Q E s0 m₀ s₁) :
  codeAny (model U.prog U.w) A (.forLoop (.Name nm px) (.ref I) body [] env) (fun r s' => match r with | .ok f => Q f s' | .error e => cameBackBy (model U.prog U.w) A env E e s') s₁ := by
 refine codeAny_forLoop (fun j s' => RN U xc A Ac env n ns Γ X ρ0 items Ready st (fun x env => Ae C b (env.set i (some x))) post I Q E s0 j s') ?_ m₀ h
 rintro j s' ⟨k, Xk, ρk, Hk, h, tk, vsk, oI, rfl, rfl, hkl, sm, sx, l0, F, hst, hrd, eo, hp⟩
 have gI : h.get? I = some oI := F.exGet (p := (I, oI)) (.head _)
 cases hv : items[k]? with
 | none =>
  have hkl : k = items.length := Nat.le_antisymm hkl (by rw [List.getElem?_eq_none_iff] at hv; exact hv)
  subst hkl
  refine src.done (Xk.withEx ((I, oI) :: X.ex)) ρk Hk _ oI _ _ l0 F gI hst hrd fun h₁ hx => ?_
  rw [List.drop_length] at hp
  have F2 := F.dropEx hx
  rw [F9 sm.ex] at F2
  exact wpAny_execs_nil (hp Xk ρk h₁ tk .refl sx (B8 _) F2 eo)
 | some v =>
  have CV : k < items.length := (List.getElem?_eq_some_iff.mp hv).1
  have hdrop : items.drop k = v :: items.drop (k + 1) := by
   rw [List.drop_eq_getElem_cons CV]
   rw [List.getElem?_eq_getElem CV] at hv
   rw [Option.some.inj hv]
  refine src.item k (Xk.withEx ((I, oI) :: X.ex)) ρk Hk _ oI v _ _ l0 hv F gI hst hrd fun v' h₁ oI' tk₁ hv' hs₁ ho₁ hst' => ?_
  have F1 : Bc U (Xk.withEx ((I, oI') :: X.ex)) ρk Hk h₁ := FS.setEx (X := Xk.withEx ((I, oI) :: X.ex)) (pre := []) F rfl hs₁ ho₁
  refine PySem.wpAny_assign_Name (FT (s := { s0 with heap := h₁, toks := tk₁ }) (ex1 := (I, oI') :: X.ex) sx F1 eo hi nd hk hv' fun X1 h2 tk2 sm1 sx1 x1 eo1 => ?_)
  have sx2 := sx1.ex ((I, oI') :: X.ex)
  have eo2 : EO U (X1.withEx ((I, oI') :: X.ex)) ρk env Γ (vsk.set i (some v)) := by
   have := EO.re (X := X1.withEx ((I, oI') :: X.ex)) (h := h2) (H := Hk) sx2 x1 (vs := vsk.set i (some v)) (Γ := Γ) ⟨eo1.len, fun j w y a b c => ?_⟩ ((I, oI') :: X.ex)
   .exact this
   .obtain ⟨z, hz, lz⟩ := eo1.get j w y a b c
    refine ⟨z, hz, ?_⟩
    have up : ∀ q, q ∈ X1.px -> q ∈ (X1.withEx ((I, oI') :: X.ex)).px := fun q hq => by
     rcases List.mem_append.mp hq with hq | hq
     .exact DW _ hq
     .refine DK _ (.tail _ ?_)
      rw [<- (sm.trans sm1).ex]; exact hq
    rcases lz with l | ⟨a, c, o, b1, b2, b3⟩ | ⟨a, o, m, b1, b2, b3⟩
    .exact .inl l
    .exact .inr (.inl ⟨a, c, o, b1, up _ b2, b3⟩)
    .exact .inr (.inr ⟨a, o, m, up _ b1, b2, b3⟩)
  refine hb (X1.withEx ((I, oI') :: X.ex)) ρk Hk { s0 with heap := h2, toks := tk2 } _ _ _ sx2 x1 eo2 ?_
  rw [hdrop, CG] at hp
  unfold Mine.bnd at hp
  have down : ∀ X2 : Fx, C4 (X1.withEx ((I, oI') :: X.ex)) X2 -> C4 X (X2.withEx X.ex) := fun X2 s2 => ⟨s2.G.trans (sm.trans sm1).G, s2.L.trans (sm.trans sm1).L, s2.base.trans (sm.trans sm1).base, s2.l.trans (sm.trans sm1).l, rfl⟩
  have downk : ∀ X2 : Fx, C4 (X1.withEx ((I, oI') :: X.ex)) X2 -> C4 Xk (X2.withEx X.ex) := fun X2 s2 => ⟨s2.G.trans sm1.G, s2.L.trans sm1.L, s2.base.trans sm1.base, s2.l.trans sm1.l, sm.ex.symm⟩
  cases hfv : Ae C b (vsk.set i (some v)) Hk with
  | bad => rw [hfv] at hp; exact hp
  | exc msg H1 =>
   rw [hfv] at hp
   intro X2 ρ2 e h3 tk3 s2 l2 x3
   have hx2 : X2 = X2.withEx ((I, oI') :: X.ex) := (F9 (X := X1.withEx ((I, oI') :: X.ex)) s2.ex).symm
   rw [hx2] at x3
   have x4 := x3.drop
   refine Lu (s := { s0 with heap := h3, toks := tk3 }) (X := X2.withEx X.ex) ((sx.cx.same (downk X2 s2))) he x4 fun h4 x5 => ?_
   exact hp (X2.withEx X.ex) ρ2 e h4 tk3 (downk X2 s2) l2 x5
  | ok p H1 =>
   rw [hfv] at hp
   obtain ⟨vs1, fl⟩ := p
   dsimp only at hp
   intro X2 ρ2 h3 tk3 s2 sx3 l2 F3 eo3
   have sx4 := sx3.ex X.ex
   have eo4 := eo3.re sx3 F3 X.ex
   have hx2 : X2 = X2.withEx ((I, oI') :: X.ex) := (F9 (X := X1.withEx ((I, oI') :: X.ex)) s2.ex).symm
   have F4 : Bc U (X2.withEx ((I, oI') :: X.ex)) ρ2 H1 h3 := by rw [<- hx2]; exact F3
   cases fl with
   | some w =>
    dsimp only at hp ⊢
    intro w' r
    exact hp (X2.withEx X.ex) ρ2 h3 tk3 (downk X2 s2) sx4 l2 (F4.dropEx0) eo4 w' r
   | none =>
    dsimp only at hp ⊢
    refine ⟨items.length + 1 - (k + 1), by omega, ?_⟩
    rcases hpost H1 with ⟨AR, hrd1⟩ | AR
    .rw [AR] at hp
     dsimp only at hp
     refine ⟨k + 1, X2.withEx X.ex, ρ2, H1, h3, tk3, vs1, oI', rfl, rfl, CV, down X2 s2, sx4, l0.trans l2, F4, hst', hrd1, eo4, ?_⟩
     exact CJ.later hp (downk X2 s2) l2 _ _
    .rw [AR] at hp; exact hp.elim
theorem CJ.still {m : M (Mine.Env × Option V)} {Q : Flow -> Shared -> Prop} {E' : Value -> Shared -> Prop} (hp : CJ U xc A Ac env n ns Γ X ρ (Mine.still m H) Q E s) : CJ U xc A Ac env n ns Γ X ρ (m H) Q E' s := by
 unfold Mine.still at hp
 cases q : m H with
 | ok a H1 => rw [q] at hp; exact hp
 | exc e H1 => rw [q] at hp; exact hp.elim
 | bad => rw [q] at hp; exact hp
theorem PA {m : ME Fn} {e : PySem.Expr} {i : Nat} {nm : Str} {px p2 p3 : Pos} {b : List (MS Fn)} {body : List Stmt} (ub : UB U) (he : env = Ac) (hn : D3 ns "range" = true) (hs : As e = true) (hi : Γ[i]? = some nm) (nd : Γ.Nodup) (hk : Bo ns nm = true)
  (h : Ld U xc C A Ac env n ns Γ m e) (hb : Od U xc C A Ac env n ns Γ b body) :
  SS U xc C A Ac env n ns Γ (.forN i m b) (.For (.Name nm px) (.Call (.Name "range" p2) [e] [] p3) body [] pos) := by
 intro X ρ H s vs Q E sx x eo hp
 rw [Ai] at hp
 refine wpAny_For ?_ (DB rfl)
 have hh : A.handled = none := sx.cx.hh
 refine B5 (Cg sx.ek sx.cx.gf x hn (ub.blt "range" (by decide)) rfl (Dj (nm := "range") (by decide)) ?_)
 refine AF (P := fun _ => True) (by simp [hs]) D1 ?_
 refine spliced_more (h X sx ρ H s vs _ E x eo (hp.bnd (rel := AP U) fun v H1 ρ1 v' h1 BT _ l1 x1 r1 AR => ?_)) (AX hs)
 refine wpAny_items_nil ⟨trivial, ?_⟩
 cases v <;> first | exact AR.elim | skip
 rename_i z _
 dsimp only at AR
 by_cases hb' : 0 <= z /\ z <= Bz
 .rw [if_pos hb'] at AR
  obtain ⟨t, rfl⟩ := r1
  refine call_range_1 (Gx (s := { s with heap := h1, toks := BT + 1 + 1 }) x1 (GO (by decide) (by unfold Bz; decide) hb'.2 (by have := hb'.1; unfold Bz; omega)) fun h3 I F => ?_)
  refine Im (s0 := s) (Q := Q) (X := X) he (Gk (U := U) (ρ0 := ρ1) (I := I) (lo := 0) (hi := z) hh) (fun H => .inl ⟨rfl, trivial⟩) hi nd hk hb (m₀ := (B3 0 z).length + 1 - 0)
   ⟨0, X, ρ1, H1, h3, BT + 1 + 1, vs, EF 0 z 0, rfl, rfl, Nat.zero_le _, .refl, sx, B8 _, F, rfl, trivial, eo.mono l1, ?_⟩
  rw [List.drop_zero]
  exact CJ.later AR .refl (B8 _) _ _
 .rw [if_neg hb'] at AR; exact AR.elim
theorem P4 {m m2 : ME Fn} {e e2 : PySem.Expr} {i : Nat} {nm : Str} {px p2 p3 : Pos} {b : List (MS Fn)} {body : List Stmt} (ub : UB U) (he : env = Ac) (hn : D3 ns "range" = true) (hs : As e = true) (hs2 : As e2 = true) (hi : Γ[i]? = some nm) (nd : Γ.Nodup) (hk : Bo ns nm = true)
  (h : Ld U xc C A Ac env n ns Γ m e) (h2 : Ld U xc C A Ac env n ns Γ m2 e2) (hb : Od U xc C A Ac env n ns Γ b body) :
  SS U xc C A Ac env n ns Γ (.forR i m m2 b) (.For (.Name nm px) (.Call (.Name "range" p2) [e, e2] [] p3) body [] pos) := by
 intro X ρ H s vs Q E sx x eo hp
 rw [Ai] at hp
 refine wpAny_For ?_ (DB rfl)
 have hh : A.handled = none := sx.cx.hh
 refine B5 (Cg sx.ek sx.cx.gf x hn (ub.blt "range" (by decide)) rfl (Dj (nm := "range") (by decide)) ?_)
 refine AF (P := fun _ => True) (by simp [hs, hs2]) D1 ?_
 refine spliced_more (h X sx ρ H s vs _ E x eo (hp.bnd (rel := AP U) fun v H1 ρ1 v' h1 BT _ l1 x1 r1 AR => ?_)) (AX hs)
 refine spliced_more (h2 X sx ρ1 H1 _ vs _ E x1 (eo.mono l1) (AR.bnd (rel := AP U) fun w H2 ρ2 w' h2 tk2 _ l2 x2 r2 B9 => ?_)) (AX hs2)
 refine wpAny_items_nil ⟨trivial, ?_⟩
 cases v <;> cases w <;> first | exact B9.elim | skip
 rename_i a _ z _
 dsimp only at B9
 by_cases hb' : 0 <= a /\ a <= Bz /\ 0 <= z /\ z <= Bz
 .rw [if_pos hb'] at B9
  obtain ⟨t, rfl⟩ := r1
  obtain ⟨u, rfl⟩ := r2
  refine call_range_2 (Gx (s := { s with heap := h2, toks := tk2 + 1 }) x2 (GO hb'.1 hb'.2.1 hb'.2.2.2 (by have := hb'.2.2.1; unfold Bz; omega)) fun h3 I F => ?_)
  refine Im (s0 := s) (Q := Q) (X := X) he (Gk (U := U) (ρ0 := ρ2) (I := I) (lo := a) (hi := z) hh) (fun H => .inl ⟨rfl, trivial⟩) hi nd hk hb (m₀ := (B3 a z).length + 1 - 0)
   ⟨0, X, ρ2, H2, h3, tk2 + 1, vs, EF a z 0, rfl, rfl, Nat.zero_le _, .refl, sx, B8 _, F, rfl, trivial, (eo.mono l1).mono l2, ?_⟩
  rw [List.drop_zero]
  exact CJ.later (CJ.still B9) .refl (B8 _) _ _
 .rw [if_neg hb'] at B9; exact B9.elim
theorem PX {m : ME Fn} {e : PySem.Expr} {i : Nat} {nm : Str} {px : Pos} {b : List (MS Fn)} {body : List Stmt} (he : env = Ac) (hset : E9 e = true) (hi : Γ[i]? = some nm) (nd : Γ.Nodup) (hk : Bo ns nm = true)
  (h : Ld U xc C A Ac env n ns Γ m e) (hb : Od U xc C A Ac env n ns Γ b body) :
  SS U xc C A Ac env n ns Γ (.forE i m b) (.For (.Name nm px) e body [] pos) := by
 intro X ρ H s vs Q E sx x eo hp
 rw [Ai] at hp
 have hh : A.handled = none := sx.cx.hh
 refine wpAny_For ?_ (DB hset)
 refine h X sx ρ H s vs _ E x eo (hp.bnd (rel := AP U) fun v H1 ρ1 v' h1 BT _ l1 x1 r1 AR => ?_)
 obtain ⟨j, c, rfl, hc, B9⟩ := Kp AR
 obtain ⟨xs, rfl, hl, B9⟩ : ∃ xs, c = .list xs /\ xs.length <= Bz /\ CJ U xc A Ac env n ns Γ X ρ1 (still (CG (fun x env => Ae C b (env.set i (some x))) (stays (.ref j) c) xs vs) H1) Q E { s with heap := h1, toks := BT } := by
  cases c with
  | list xs =>
   have e0 : (bnd (C8 (V.ref j)) (fun ys => still (CG (fun x env => Ae C b (env.set i (some x))) (stays (.ref j) (.list xs)) ys vs)) H1) = (if xs.length <= Bz then still (CG (fun x env => Ae C b (env.set i (some x))) (stays (.ref j) (.list xs)) xs vs) H1 else .bad) := by
    simp only [C8, bnd, AJ, hc]
    by_cases hl : xs.length <= Bz
    .rw [if_pos hl, if_pos hl]; rfl
    .rw [if_neg hl, if_neg hl]; rfl
   rw [e0] at B9
   by_cases hl : xs.length <= Bz
   .rw [if_pos hl] at B9; exact ⟨xs, rfl, hl, B9⟩
   .rw [if_neg hl] at B9; exact B9.elim
  | _ => simp only [C8, bnd, AJ, hc] at B9; exact B9.elim
 .obtain ⟨a, e1, lo, ws, il, vv⟩ := FS.at (s := { s with heap := h1, toks := BT }) x1 hc
  obtain ⟨p, ep, rfl⟩ := r1
  have ep' := ep
  rw [e1] at ep; cases ep
  refine wpAny_pyIter_list (s := { s with heap := h1, toks := BT }) il ?_
  have F := FS.addEx (a := h1.objs.size) (o := { cls := .type "list_iterator", data := .fields #[.ref a.1, .int 0 0] }) x1 (fun b o e => DT _ e) (Heap.get?_push_size _ rfl) (Nat.le_refl _)
  refine Im (s0 := s) (Q := Q) (X := X) he (LR (xs := xs) hh ep') (fun H => Ff H) hi nd hk hb (m₀ := xs.length + 1 - 0)
   ⟨0, X, ρ1, H1, _, BT, vs, { cls := .type "list_iterator", data := .fields #[.ref a.1, .int 0 0] }, rfl, rfl, Nat.zero_le _, .refl, sx, B8 _, F, ⟨rfl, rfl⟩, hc, eo.mono l1, ?_⟩
  rw [List.drop_zero]
  exact CJ.later (CJ.still B9) .refl (B8 _) _ _
theorem Jc {f : V -> Mine.Env -> M (Mine.Env × Option V)} {post : M Unit} {Ready : MH -> Prop} (hpost : ∀ H, (post H = .ok () H /\ Ready H) \/ post H = .bad) : ∀ (xs : List V) (env : Mine.Env) (H : MH) (Aj : Mine.Env) (H2 : MH), Ready H -> CG f post xs env H = .ok (Aj, Option.none) H2 -> Ready H2
 | [], env, H, Aj, H2, hr, e => by
  cases e; exact hr
 | x :: r, env, H, Aj, H2, hr, e => by
  rw [CG] at e
  unfold bnd at e
  cases hf : f x env H with
  | bad => rw [hf] at e; cases e
  | exc m H1 => rw [hf] at e; cases e
  | ok p H1 =>
   rw [hf] at e
   obtain ⟨e1, fl⟩ := p
   cases fl with
   | some v => cases e
   | none =>
    dsimp only at e
    rcases hpost H1 with ⟨h1, h2⟩ | h1
    .rw [h1] at e
     exact Jc hpost r e1 H1 Aj H2 h2 e
    .rw [h1] at e; cases e
theorem SX.pin (sx : SX U A X Ac env n ns) {a : Addr} {o : Obj} : SX (U.pinAt a o) A X Ac env n ns := ⟨sx.cx.pin, sx.ek, sx.loc, sx.cel, sx.inj, sx.og⟩
theorem SX.unpin {a : Addr} {o : Obj} (sx : SX (U.pinAt a o) A X Ac env n ns) : SX U A X Ac env n ns := ⟨⟨sx.cx.B, sx.cx.hA, sx.cx.hf, sx.cx.hk, sx.cx.hh, sx.cx.hd, sx.cx.hu, ⟨sx.cx.gf.K, sx.cx.gf.T, sx.cx.gf.ext⟩⟩, sx.ek, sx.loc, sx.cel, sx.inj, sx.og⟩
theorem EO.unpin {a : Addr} {o : Obj} (e : EO (U.pinAt a o) X ρ env Γ vs) : EO U X ρ env Γ vs := ⟨e.len, e.get⟩
theorem Qy {m : ME Fn} {e : PySem.Expr} {i : Nat} {nm : Str} {px : Pos} {b : List (MS Fn)} {body : List Stmt} (he : env = Ac) (hset : E9 e = true) (hi : Γ[i]? = some nm) (nd : Γ.Nodup) (hk : Bo ns nm = true)
  (h : Ld U xc C A Ac env n ns Γ m e) (hb : ∀ a o, Od (U.pinAt a o) xc C A Ac env n ns Γ b body) :
  SS U xc C A Ac env n ns Γ (.forD i m b) (.For (.Name nm px) e body [] pos) := by
 intro X ρ H s vs Q E sx x eo hp
 rw [Ai] at hp
 have hh : A.handled = none := sx.cx.hh
 refine wpAny_For ?_ (DB hset)
 refine h X sx ρ H s vs _ E x eo (hp.bnd (rel := AP U) fun v H1 ρ1 v' h1 BT _ l1 x1 r1 AR => ?_)
 obtain ⟨j, kvs, rfl, hc, BN, B9⟩ : ∃ j kvs, v = .ref j /\ H1[j]? = some (.dictW kvs) /\ kvs.length < 100 /\ CJ U xc A Ac env n ns Γ X ρ1 (bnd (still (CG (fun x env => Ae C b (env.set i (some x))) (stays v (.dictP kvs)) (kvs.map fun p => .w p.1) vs)) (fun r => (match r.2 with | some _ => Mine.bad | Option.none => bnd (Dm v (.dictW kvs)) fun _ => Mine.ret r)) (H1.set (match v with | .ref j => j | _ => 0) (.dictP kvs))) Q E { s with heap := h1, toks := BT } := by
  cases v with
  | ref j =>
   unfold bnd Mine.getD bnd AJ at AR
   cases e : H1[j]? with
   | none => simp only [e] at AR; exact AR.elim
   | some c =>
    simp only [e] at AR
    cases c with
    | dictW kvs =>
     dsimp only at AR
     by_cases hl : kvs.length < 100
     .rw [if_pos hl] at AR
      exact ⟨j, kvs, rfl, e, hl, AR⟩
     .rw [if_neg hl] at AR; exact AR.elim
    | _ => exact AR.elim
  | _ => exact AR.elim
 dsimp only at B9
 obtain ⟨a, o, es, e1, lo, ho, hd, hw, Fp⟩ := FS.pinned x1 hc
 obtain ⟨p, ep', rfl⟩ := r1
 rw [e1] at ep'; cases ep'
 obtain ⟨xs, ep, ex, hdat, hkeys, hpairs, hnd⟩ := hd
 refine wpAny_pyIter_dict (s := { s with heap := h1, toks := BT }) (knd := PySem.strKind U.prog U.w) (kvs := es) (ep := ep) (D0 lo) ⟨o, xs, ho, ex, hdat, hkeys, hpairs, hnd⟩ ?_
 dsimp only
 have F0 := FS.addEx (a := h1.objs.size) (o := { cls := .type "dict_keyiterator", data := .fields #[.ref a.1, .int 0 0, .int es.length 0, .int ep 0] }) Fp (fun b o e => DT _ e) (Heap.get?_push_size _ rfl) (Nat.le_refl _)
 have hrd : (H1.set j (.dictP kvs))[j]? = some (.dictP kvs) := by rw [List.getElem?_set_self (List.getElem?_eq_some_iff.mp hc).1]
 refine Im (U := U.pinAt a.1 o) (s0 := s) (Q := Q) (X := X) he (Lx (U := U.pinAt a.1 o) hh (kvs := kvs) (ep := ep) (es := es) (i := j) e1 (if_pos rfl) ⟨ex, xs, hdat, hkeys, hpairs, hnd⟩ hw.keys hw.length) (fun H => Ff H) hi nd hk (hb a.1 o) (m₀ := (kvs.map fun p => V.w p.1).length + 1 - 0)
  ⟨0, X, ρ1, _, _, BT, vs, { cls := .type "dict_keyiterator", data := .fields #[.ref a.1, .int 0 0, .int es.length 0, .int ep 0] }, rfl, rfl, Nat.zero_le _, .refl, sx.pin, B8 _, F0, ⟨rfl, rfl⟩, hrd, (eo.mono l1).pin, ?_⟩
 rw [List.drop_zero]
 have rdy := Jc (f := fun x env => Ae C b (env.set i (some x))) (post := stays (.ref j) (.dictP kvs)) (Ready := fun H => H[j]? = some (.dictP kvs)) (fun H => Ff H) (kvs.map fun p => V.w p.1) vs (H1.set j (.dictP kvs))
 unfold bnd still at B9
 cases q : CG (fun x env => Ae C b (env.set i (some x))) (stays (.ref j) (.dictP kvs)) (kvs.map fun p => V.w p.1) vs (H1.set j (.dictP kvs)) with
 | bad => rw [q] at B9; exact B9.elim
 | exc m H2 => rw [q] at B9; exact B9.elim
 | ok r H2 =>
  rw [q] at B9
  obtain ⟨vs', fl⟩ := r
  cases fl with
  | some v => exact B9.elim
  | none =>
   have hr2 := rdy vs' H2 hrd q
   intro X2 ρ2 h2 tk2 s2 sx2 l2 F2 eo2
   have F3 := FS.unpinned F2 hr2 (DJ l2 e1)
   exact B9 X2 ρ2 h2 tk2 s2 sx2.unpin l2 F3 eo2.unpin
theorem ED : ∀ (l : Ft) (n : Nat) (acc : List (Str × Addr)), (acc.map (·.2)).Nodup -> (∀ p ∈ acc, p.2 < n) -> ((cellsFrom n l acc).map (·.2)).Nodup /\ ∀ p ∈ cellsFrom n l acc, p ∈ acc \/ n <= p.2
 | [], n, acc, h, _ => ⟨h, fun p hp => .inl hp⟩
 | (x, k) :: r, n, acc, h, hl => by
  unfold cellsFrom
  by_cases hk : (k == NameKind.cell) = true
  .rw [if_pos hk]
   obtain ⟨h1, h2⟩ := ED r (n + 1) ((x, n) :: acc) (by
    rw [List.map_cons, List.nodup_cons]
    refine ⟨fun hm => ?_, h⟩
    obtain ⟨q, hq, e⟩ := List.mem_map.mp hm
    exact absurd (hl q hq) (by rw [e]; exact Nat.lt_irrefl _)) (fun p hp => by
    rcases List.mem_cons.mp hp with rfl | hp
    .exact Nat.lt_succ_self _
    .exact Nat.lt_succ_of_lt (hl p hp))
   refine ⟨h1, fun p hp => ?_⟩
   rcases h2 p hp with hp | hp
   .rcases List.mem_cons.mp hp with rfl | hp
    .exact .inr (Nat.le_refl _)
    .exact .inl hp
   .exact .inr (Nat.le_of_succ_le hp)
  .rw [if_neg hk]
   exact ED r n acc h hl
theorem EJ {cm : Str -> Option Value} : ∀ {cs : List (Str × Addr)} {cells : List (Addr × Obj)}, CellsAre cm cs cells -> cells.map (·.1) = cs.map (·.2)
 | _, _, .nil => rfl
 | _, _, .cons _ r => by rw [List.map_cons, List.map_cons, EJ r]
theorem DH {cm : Str -> Option Value} : ∀ {cs : List (Str × Addr)} {cells : List (Addr × Obj)}, CellsAre cm cs cells -> ∀ {y : Str} {c : Addr}, cs.lookup y = some c -> ∃ o, (c, o) ∈ cells /\ o.data = .cell (cm y)
 | _, _, .nil, _, _, e => by cases e
 | (z, d) :: cs, _, .cons (o := o) h r, y, c, e => by
  rw [List.lookup_cons] at e
  cases q : y == z with
  | true =>
   rw [q] at e; cases e
   obtain rfl := eq_of_beq q
   exact ⟨o, .head _, h⟩
  | false =>
   rw [q] at e
   obtain ⟨o', h1, h2⟩ := DH r e
   exact ⟨o', .tail _ h1, h2⟩
theorem Es : ∀ {cs : List (Str × Addr)}, (cs.map (·.2)).Nodup -> ∀ {y z : Str} {c : Addr}, cs.lookup y = some c -> cs.lookup z = some c -> y = z
 | [], _, _, _, _, e, _ => by cases e
 | (x, d) :: cs, nd, y, z, c, e1, e2 => by
  rw [List.map_cons, List.nodup_cons] at nd
  rw [List.lookup_cons] at e1 e2
  have mem : ∀ {w : Str}, cs.lookup w = some d -> False := fun e => nd.1 (List.mem_map.mpr ⟨(_, d), lookup_mem' e, rfl⟩)
  cases q1 : y == x <;> cases q2 : z == x <;> rw [q1] at e1 <;> rw [q2] at e2 <;> simp only at e1 e2
  .exact Es nd.2 e1 e2
  .cases e2; exact (mem e1).elim
  .cases e1; exact (mem e2).elim
  .rw [eq_of_beq q1, eq_of_beq q2]
where
 lookup_mem' : ∀ {l : List (Str × Addr)} {x : Str} {a : Addr}, l.lookup x = some a -> (x, a) ∈ l
 | [], _, _, h => by cases h
 | (y, j) :: r, x, a, h => by
  rw [List.lookup_cons] at h
  cases q : x == y with
  | true => rw [q] at h; cases h; rw [beq_iff_eq.mp q]; exact .head _
  | false => rw [q] at h; exact .tail _ (lookup_mem' h)
theorem C9 : ∀ {a b : List (Str × Addr)} {x : Str}, a.map (·.1) = b.map (·.1) -> (a.lookup x).isSome = true -> (b.lookup x).isSome = true
 | [], [], _, _, h => h
 | [], _ :: _, _, e, _ => by simp at e
 | _ :: _, [], _, e, _ => by simp at e
 | (y, c) :: a, (z, d) :: b, x, e, h => by
  simp only [List.map_cons, List.cons.injEq] at e
  obtain ⟨rfl, e⟩ := e
  rw [List.lookup_cons] at h ⊢
  cases q : x == y with
  | true => rfl
  | false => rw [q] at h; exact C9 e h
structure NY (scope : Scope) (binds : List Str) : Prop where
 co : scope.isCoroutine = false
 gen : scope.isGenerator = false
 kind : scope.kind = .function
 free : ∀ y k, scope.names.lookup y = some k -> k ≠ .free
 cell : ∀ y, scope.names.lookup y = some .cell -> ((cellsFrom 0 scope.names []).lookup y).isSome = true
 par : ∀ y ∈ binds, scope.names.lookup y = some .local \/ scope.names.lookup y = some .cell
 nd : ((cellsFrom 0 scope.names []).map (·.1)).Nodup
 pnd : binds.Nodup
theorem En {kindOf : Str -> Option NameKind} : ∀ {binds : List (Str × Value)} {m : Str -> Option Value} {x : Str}, (binds.map (·.1)).Nodup -> kindOf x = some .local -> bindL kindOf binds m x = match binds.lookup x with | some v => some v | none => m x
 | [], _, _, _, _ => rfl
 | (y, v) :: r, m, x, nd, hk => by
  rw [List.map_cons, List.nodup_cons] at nd
  unfold bindL
  rw [En nd.2 hk, List.lookup_cons]
  cases q : x == y with
  | true =>
   obtain rfl := eq_of_beq q
   have : r.lookup x = none := by
    cases e : r.lookup x with
    | none => rfl
    | some w => exact absurd (List.mem_map.mpr ⟨(x, w), lookup_memV e, rfl⟩) nd.1
   rw [this, if_pos hk]; simp
  | false =>
   have hxy : x ≠ y := by simpa using q
   cases r.lookup x with
   | some w => rfl
   | none =>
    dsimp only
    split
    .exact if_neg hxy
    .rfl
where
 lookup_memV : ∀ {l : List (Str × Value)} {x : Str} {a : Value}, l.lookup x = some a -> (x, a) ∈ l
 | [], _, _, h => by cases h
 | (y, j) :: r, x, a, h => by
  rw [List.lookup_cons] at h
  cases q : x == y with
  | true => rw [q] at h; cases h; rw [beq_iff_eq.mp q]; exact .head _
  | false => rw [q] at h; exact .tail _ (lookup_memV h)
theorem HQ {kindOf : Str -> Option NameKind} : ∀ {binds : List (Str × Value)} {m : Str -> Option Value} {x : Str}, (binds.map (·.1)).Nodup -> kindOf x ≠ some .local -> bindC kindOf binds m x = match binds.lookup x with | some v => some v | none => m x
 | [], _, _, _, _ => rfl
 | (y, v) :: r, m, x, nd, hk => by
  rw [List.map_cons, List.nodup_cons] at nd
  unfold bindC
  rw [HQ nd.2 hk, List.lookup_cons]
  cases q : x == y with
  | true =>
   obtain rfl := eq_of_beq q
   have : r.lookup x = none := by
    cases e : r.lookup x with
    | none => rfl
    | some w => exact absurd (List.mem_map.mpr ⟨(x, w), En.lookup_memV e, rfl⟩) nd.1
   rw [this, if_neg hk]; simp
  | false =>
   have hxy : x ≠ y := by simpa using q
   cases r.lookup x with
   | some w => rfl
   | none =>
    dsimp only
    split
    .rfl
    .exact if_neg hxy
section
variable {name qual : Str} {params : Arguments} {body : List Stmt} {scope : Scope} {dV kV doc pm cdv ct : Value} {an : Option Addr} {fo : Obj} {f : Addr} {args : Args} {binds : List (Str × Value)} {R : Result -> Shared -> Prop}
theorem GF.nolimit (gf : GF U X.G) : X.G.NoLimit := gf.T.nolimit
theorem QH {k : Nat} (cx : Cx U A X Ac n) (hr : DN A n (k + 1)) (x : Bc U X ρ H s.heap) (sc : NY scope (binds.map (·.1)))
  (ho : s.heap.get? f = some fo) (hd : fo.data = .func (fnX name qual params body scope [] dV kV doc pm an cdv ct)) (hcd : s.heap.CodeRec cdv qual)
  (hbind : BindsTo s (fnX name qual params body scope [] dV kV doc pm an cdv ct) args binds)
  (h : ∀ X' h₁ tk Aj, Aj = envOfC qual scope X'.L f cdv -> X'.ex = X.px -> X'.base = X.base -> X'.l = Aj :: X.l -> DN (A.deeper Aj) n k -> SX U (A.deeper Aj) X' Aj Aj n scope.names -> Bc U X' ρ H h₁ -> (∀ x v, binds.lookup x = some v -> Ht X' Aj x v) ->
   wpAny (model U.prog U.w) (A.deeper Aj) (execs body Aj)
    (fun fl s' => ∃ X'' ex2 ρ' H' v, X''.G = X'.G /\ (X.withEx ex2).px.Sublist X''.ex /\ Bc U X'' ρ' H' s'.heap /\ v = (match fl with | .ret v => v | _ => .none) /\ (Bc U (X.withEx ex2) ρ' H' s'.heap -> R (.ok (.ret v)) s'))
    (fun e s' => ∃ X'' ρ' H' msg e', e = .ref e' /\ C4 X' X'' /\ Pw U xc X'' msg ρ' H' e' s'.heap /\ ∀ h'', Pw U xc X msg ρ' H' e' h'' -> R (.error (.ref e')) { s' with heap := h'' })
    { s with heap := h₁, toks := tk }) :
  codeAny (model U.prog U.w) A (.call (.ref f) args) R s := by
 obtain ⟨A₀, outer, B, hl⟩ := cx.B
 have hA := cx.hA
 obtain ⟨F, ps, p, N, D, lo⟩ := x
 have hA' := hA
 rw [hl] at hA'
 have names0 : ∀ k, (cellsFrom k scope.names []).map (·.1) = (cellsFrom 0 scope.names []).map (·.1) := fun k => cellsFrom_names scope.names k 0 [] [] rfl
 have cell' : ∀ k y, scope.names.lookup y = some .cell -> ((cellsFrom k scope.names []).lookup y).isSome = true := fun k y hy => C9 (names0 k).symm (sc.cell y hy)
 refine callX_cells (news := X.px ++ ps.flatten) B F N cx.gf.nolimit hA' cx.hf cx.hk ho hd hcd (by have := cx.hd; omega) hbind (fun k y hy => ?_) sc.nd (fun g L' h₁ tk cells FG F' N' Y BG st lt => ?_) sc.co sc.gen sc.kind
 .rcases sc.par y.1 (List.mem_map_of_mem hy) with e | e
  .exact .inl e
  .exact .inr ⟨e, cell' k _ e⟩
 .generalize CF : envOfC qual scope L' f cdv = Aj at *
  have addrs := EJ Y
  have ca := ED scope.names (L' + 1) [] List.nodup_nil (by intro p hp; cases hp)
  have cnd : (cells.map (·.1)).Nodup := by rw [addrs]; exact ca.1
  have cabove : ∀ q ∈ cells, L' < q.1 := fun q hq => by
   have : q.1 ∈ cells.map (·.1) := List.mem_map_of_mem hq
   rw [addrs] at this
   obtain ⟨r, hr, e⟩ := List.mem_map.mp this
   rcases ca.2 r hr with hr | hr
   .cases hr
   .rw [<- e]; exact hr
  let X' : Fx := { G := g, L := L', m := bindL Aj.kindOf binds fun _ => none, own := cells, ex := X.px, base := X.base, l := Aj :: X.l }
  have hcells : Aj.cells = cellsFrom (L' + 1) scope.names [] := by rw [<- CF]; rfl
  have hnames : Aj.scope.names = scope.names := by rw [<- CF]; rfl
  have gf' : GF U g := cx.gf.keeps st
  have hdp : (A.deeper Aj).depth = A.depth + 1 := rfl
  have hun : (A.deeper Aj).units = A.units + 3 := rfl
  have cx' : Cx U (A.deeper Aj) X' Aj n := by
   refine ⟨⟨A, X.l, ?_, rfl⟩, PySem.Around.frames_deeper hA, by rw [<- CF]; rfl, by rw [<- CF]; exact sc.kind, cx.hh, ?_, ?_, gf'⟩
   .show Below A X.base X.l g
    rw [hl]; exact BG
   .rw [hdp]; have := hr.1; omega
   .rw [hun]; have := hr.2; omega
  have rm : DN (A.deeper Aj) n k := by
   constructor
   .rw [hdp]; have := hr.1; omega
   .rw [hun]; have := hr.2; omega
  have ek' : AZ X' Aj Aj scope.names := by
   refine ⟨hnames, by rw [<- CF]; exact sc.kind, by rw [<- CF]; rfl, by rw [<- CF]; rfl, by rw [<- CF]; rfl, fun y hy => ?_⟩
   rw [hcells]
   unfold PySem.Env.kindOf at hy
   rw [hnames] at hy
   rcases hy with hy | hy
   .exact cell' _ y hy
   .exact absurd rfl (sc.free y _ hy)
  have sx' : SX U (A.deeper Aj) X' Aj Aj n scope.names := by
   refine ⟨cx', ek', by rw [<- CF]; rfl, fun y c hy => ?_, fun y z c hy hz => ?_, fun e he => ?_⟩
   .rw [hcells] at hy
    obtain ⟨o, h1, h2⟩ := DH Y hy
    exact ⟨o, _, h1, h2⟩
   .rw [hcells] at hy hz
    exact Es ca.1 hy hz
   .have he' : Aj :: X.l = [e] := he
    rw [hl] at he'; cases he'
  have x' : Bc U X' ρ H h₁ := by
   refine ⟨F', ps, p, ?_, ?_, lo⟩
   .have : X'.px ++ ps.flatten = cells ++ (X.px ++ ps.flatten) := by simp [X', Fx.px]
    rw [this]; exact N'
   .have : X'.px ++ ps.flatten = cells ++ (X.px ++ ps.flatten) := by simp [X', Fx.px]
    rw [this]
    refine Hc D cnd fun p hp q hq => ?_
    exact Nat.lt_trans (lt q hq) (cabove p hp)
  have ld : ∀ x v, binds.lookup x = some v -> Ht X' Aj x v := fun y v hy => by
   have hm : y ∈ binds.map (·.1) := List.mem_map.mpr ⟨(y, v), En.lookup_memV hy, rfl⟩
   have hk : Aj.kindOf y = scope.names.lookup y := by unfold PySem.Env.kindOf; rw [hnames]
   rcases sc.par y hm with e | e
   .refine .inl ⟨hk.trans e, by rw [<- CF]; rfl, ?_⟩
    show bindL Aj.kindOf binds (fun _ => none) y = some v
    rw [En sc.pnd (hk.trans e), hy]
   .have hs := cell' (L' + 1) y e
    obtain ⟨c, hc⟩ := Option.isSome_iff_exists.mp hs
    obtain ⟨o, h1, h2⟩ := DH Y hc
    refine .inr (.inl ⟨.inl (hk.trans e), c, o, by rw [hcells]; exact hc, DW _ h1, ?_⟩)
    rw [h2, HQ sc.pnd (by rw [hk, e]; decide), hy]
  refine wpAny_mono (h X' h₁ tk Aj CF.symm rfl rfl rfl rm sx' x' ld) (fun fl s' hq => ?_) (fun e s' hq => ?_)
  .obtain ⟨X'', ex2, ρ', H', v, hG, hex, F2, rfl, k⟩ := hq
   obtain ⟨Fr2, ps2, p2, N2, D2, lo2⟩ := F2
   have hG : X''.G = g := hG
   rw [hG] at Fr2 N2
   refine leaveK_ (L' := X''.L) (m' := X''.m) Fr2 N2 fun FX NX => k ?_
   have sub : ((X.withEx ex2).px ++ ps2.flatten).Sublist (X''.px ++ ps2.flatten) := by
    refine List.Sublist.append ?_ (List.Sublist.refl _)
    exact hex.trans (List.sublist_append_right _ _)
   refine ⟨FX, ps2, p2, D5 NX fun q hq => sub.subset hq, ?_, lo2⟩
   unfold B4 at D2 ⊢
   exact D2.sublist (sub.map _)
  .obtain ⟨X'', ρ', H', msg, e', rfl, sm, E2, k⟩ := hq
   obtain ⟨ps2, h₂, p2, D2, lo2, st2, Fr2, u2⟩ := E2
   have hG : X''.G = g := sm.G
   have hex : X''.ex = X.px := sm.ex
   have hbase : X''.base = X.base := sm.base
   have hl2 : X''.l = Aj :: X.l := sm.l
   have hL2 : X''.L = L' := sm.L
   rw [hbase, hl2, hL2] at st2
   rw [hG] at Fr2
   refine Jy (env := Aj) (outer := X.l) (PySem.Around.frames_deeper hA) (by rw [<- CF]; rfl) st2 X.L fun h'' k1 k2 => k h'' ?_
   have sub : (X.px ++ ps2.flatten).Sublist (X''.px ++ ps2.flatten) := by
    refine List.Sublist.append ?_ (List.Sublist.refl _)
    unfold Fx.px at hex ⊢
    rw [hex]
    exact List.sublist_append_right _ _
   refine ⟨ps2, g, p2, ?_, lo2, k1.sub fun q hq => sub.subset hq, FG, ((Heap.UpToSlots.of_keeps Fr2.keep).trans u2).trans k2⟩
   unfold B4 at D2 ⊢
   exact D2.sublist (sub.map _)
end
abbrev C6 : List Value := [.type "Exception", .type "BaseException", .type "object"]
section
variable {prog : Program} {w : World} {g : Array GenState} {d : Drawn} {t : Nat} {os : OsState} {K : Frag}
variable {nm q : Str} {C D N : Addr} {bs : List Value} {hdct : Bool} {sn : List Str} {sub : List Value} {ab : Bool} {col : Option Bool} {dd : Option Addr} {k0 k1 k2 k3 k5 : Option Value} {B initId : String}
theorem J0 (F : ExcBaseFacts "Exception" "Exception.__new__" initId C6) (X : K.In h) (T : OwnTail h C6 (.ref D :: C6)) {fI : Addr} {v : Value} {Q : PySem.Fin -> Shared -> Prop}
  (hC : h.get? C = some (excClassObj nm q C N bs (.ref D :: C6) hdct sn sub ab col dd k0 k1 k2 k3 k5 "Exception.__new__"))
  (hi : findIn K (.ref C) "__init__" = some (some (.ref fI))) (hf : isFn K (.ref fI) = true)
  (hq : ∀ h2 : Heap, h2 = (h.push { cls := .type "tuple", data := .seq [v].toArray }).push { cls := .ref C, data := .fields #[.ref h.objs.size, .none, .none, .none, .bool false, .none] } ->
   wpAny (model prog w) A (call (.ref fI) [.ref (h.objs.size + 1), v]) (fun r s' => r = .none /\ Q (.done (.ret (.ref (h.objs.size + 1)))) s') E ⟨h2, g, d, t, os⟩) :
  wpAny (model prog w) A (Builtin.«type.__call__» ⟨[.ref C, v], []⟩) Q E ⟨h, g, d, t, os⟩ := by
 repeat (first | with_reducible refine wpAny_loadPart_at hC ?_ | with_reducible refine wpAny_madeBy_exc hC ?_ | wp_step)
 refine codeAny_call_builtin_code (Code.quiet_builtin _ F.quiet) (wpAny_check_new_subT F T hC ?_)
 refine codeAny_exc_new_subT F T hC ?_ (by rw [sizeLine_eq]; show 1 <= _; decide)
 show wpAny _ _ _ _ _ _
 generalize hh2 : (h.push { cls := .type "tuple", data := .seq [v].toArray }).push { cls := .ref C, data := .fields #[.ref h.objs.size, .none, .none, .none, .bool false, .none] } = h2
 have hC₁ : h2.get? C = some (excClassObj nm q C N bs (.ref D :: C6) hdct sn sub ab col dd k0 k1 k2 k3 k5 "Exception.__new__") := by
  rw [<- hh2]; exact DT _ (DT _ hC)
 have hget : h2.get? (h.objs.size + 1) = some { cls := .ref C, data := .fields #[.ref h.objs.size, .none, .none, .none, .bool false, .none] } := by
  rw [<- hh2]; exact Heap.get?_push_at (by simp only [Heap.size_push]) rfl
 have X2 : K.In h2 := by rw [<- hh2]; exact X.keeps fun b o e => DT _ (DT _ e)
 have hcC : (Value.ref C :: Value.ref D :: C6).contains (.ref C) = true := by simp
 unfold isInstance
 repeat (first | with_reducible refine wpAny_loadPart_at hget ?_ | (with_reducible refine wpAny_isSubtype_exc hC₁ ?_; rw [hcC]) | wp_step)
 show wpAny _ _ (typeLookup (.ref C) _) _ _ _
 refine (looks_findIn X2 hi).here (s := ⟨h2, g, d, t, os⟩) ?_
 refine wpAny_holding (Az ((bind_fn X2 _ (beq_iff_eq.mp hf)).here (s := ⟨h2, g, d, t, os⟩) ?_))
 refine Az (wpAny_mono (hq h2 hh2.symm) (fun r s' hr => ?_) fun _ _ e => e)
 obtain ⟨rfl, hr⟩ := hr
 refine BW ?_
 dsimp only
 rw [if_neg (by decide)]
 exact BW hr
theorem Iv (F : ExcBaseFacts "Exception" "Exception.__new__" initId C6) (X : K.In h) (T : OwnTail h C6 (.ref D :: C6)) {fI : Addr} {v : Value} {Q : Value -> Shared -> Prop}
  (hC : h.get? C = some (excClassObj nm q C N bs (.ref D :: C6) hdct sn sub ab col dd k0 k1 k2 k3 k5 "Exception.__new__"))
  (hi : findIn K (.ref C) "__init__" = some (some (.ref fI))) (hf : isFn K (.ref fI) = true)
  (hq : ∀ h2 : Heap, h2 = (h.push { cls := .type "tuple", data := .seq [v].toArray }).push { cls := .ref C, data := .fields #[.ref h.objs.size, .none, .none, .none, .bool false, .none] } ->
   wpAny (model prog w) (A.under (.builtin "type.__call__" ⟨[.ref C, v], []⟩)) (call (.ref fI) [.ref (h.objs.size + 1), v]) (fun r s' => r = .none /\ Q (.ref (h.objs.size + 1)) s') E ⟨h2, g, d, t, os⟩) :
  wpAny (model prog w) A (call (.ref C) [v]) Q E ⟨h, g, d, t, os⟩ := by
 have f1 := tc_lookup
 have f2 := tc_bind (.ref C)
 have hT : (⟨h, g, d, t, os⟩ : Shared).TypeIs (.ref C) "type" := ⟨_, hC, rfl⟩
 refine wpAny_call (codeAny_of_tree ?_)
 show wpAny _ _ (callAny (.ref C) _) _ _ _
 repeat (any_goals (first | assumption | with_reducible refine wpAny_loadPart_at hC ?_ | wp_step))
 refine ⟨rfl, ?_⟩
 refine codeAny_call_builtin_at (Code.quiet_builtin _ (by decide +kernel)) entry_typeCall (wpAny_check_type_call_sub hC (J0 (T := T) F X hC hi hf fun h2 e2 => ?_))
 exact hq h2 e2
end
section
variable {prog : Program} {w : World} {K : Frag} {C D e : Addr} {cd : ClassData} {vs : Array Value}
theorem Qg {name : Str} {v : Value} {Q : Unit -> Shared -> Prop} (X : K.In s.heap) (he : s.heap.get? e = some { cls := .ref C, data := .fields vs }) (hc : clsIn K C = some cd) (hm : cd.mro = .ref C :: .ref D :: C6) (hdct : cd.hasDict = true)
  (hs : findIn K (.ref C) "__setattr__" = some (some (.builtin "object.__setattr__"))) (ht : takerIn K C name = some none)
  (h : ∀ h' tk, h'.get? e = some { cls := .ref C, dict := some s.heap.objs.size, data := .fields vs } -> (∃ t n, h'.get? s.heap.objs.size = some (W.dictOf [⟨PyData.keyHash w.params name, .str name t, v⟩] n)) ->
   (∀ b o, b ≠ e -> s.heap.get? b = some o -> h'.get? b = some o) -> Q () { s with heap := h', toks := tk }) :
  wpAny (model prog w) A (setAttr (.ref e) name v) Q E s := by
 have I : InstAt s.heap e { cls := .ref C, data := .fields vs } C none := ⟨he, rfl, rfl, trivial⟩
 refine set_plain X I hs ?_
 have SF := PySem.F.store_object
 have sub : Looks (model prog w) s.heap (isInstance (.ref e) (.type "object")) true := I.type.andThen (looks_mroIn X (by unfold mroIn; rw [hc, Option.bind_some, hm]; rfl))
 refine codeAny_call_builtin SF.slot.plain SF.entry (@check_slot (model prog w) _ _ _ "object.__setattr__" "object" "__setattr__" (.ref e) [.str name s.toks, v] [] _ SF.kind SF.split sub (SF.args (.ref e) (.str name s.toks) v) ?_)
 obtain ⟨attr, ha, hr⟩ := Option.bind_eq_some_iff.mp ht
 have hmr : Looks (model prog w) s.heap (mroOf (.ref C)) cd.mro := (looks_clsIn X hc).andThen .now
 have L3 : Looks (model prog w) s.heap (Builtin.ObjectAttr.storeTaker? attr) none := by
  cases attr with
  | none => exact .now
  | some a =>
   obtain ⟨b, hb, hb2⟩ := Option.map_eq_some_iff.mp hr
   refine (looks_takesIn X hb).andThen ?_
   cases b with
   | true => cases hb2
   | false => exact .now
 rw [osa_eq, refuse_eq]
 refine Az (Az (I.type.here (s := { s with toks := s.toks + 1 }) (Az (hmr.here (s := { s with toks := s.toks + 1 }) ?_))))
 rw [hm, refuseLoop_ref, refuseLoop_ref, PySem.F.store_Exception.passes]
 refine BW (Az (I.type.here (s := { s with toks := s.toks + 1 }) (Az ((looks_findIn X ha).here (s := { s with toks := s.toks + 1 }) (Az (L3.here (s := { s with toks := s.toks + 1 }) ?_))))))
 dsimp only
 have CV := Heap.lt_size he
 have Ex : e ≠ s.heap.objs.size := Nat.ne_of_lt CV
 refine Az (BW (Az (Az (wpAny_loadPart (s := { s with toks := s.toks + 1 }) he (Az ((looks_clsIn X hc).here (s := { s with toks := s.toks + 1 }) ?_))))))
 rw [hdct, if_neg (by decide)]
 show wpAny _ _ (PySem.alloc { cls := .type "dict", data := .dict #[] } >>= fun d => (update e fun o => { cls := o.cls, dict := some d, data := o.data, slots := o.slots }) >>= fun _ => dictMade (.ref C) e d) _ _ _
 refine Az (wpAny_alloc (Az (wpAny_update (DT _ he) ?_)))
 dsimp only
 generalize hh1 : (s.heap.push { cls := .type "dict", data := .dict #[] }).update e (fun o => { cls := o.cls, dict := some s.heap.objs.size, data := o.data, slots := o.slots }) = h1
 have hd1 : h1.get? s.heap.objs.size = some (W.dictOf [] 0) := by
  rw [<- hh1]
  exact (Heap.get?_update_ne _ _ _ _ (Ne.symm Ex)).trans (Heap.get?_push_size _ rfl)
 have he1 : h1.get? e = some { cls := .ref C, dict := some s.heap.objs.size, data := .fields vs } := by
  rw [<- hh1]
  exact Heap.get?_update_self _ (DT _ he) rfl
 have keep : ∀ b o, b ≠ e -> s.heap.get? b = some o -> h1.get? b = some o := fun b o hb q => by
  rw [<- hh1]
  exact (Heap.get?_update_ne _ _ _ _ hb).trans (DT _ q)
 refine BW (Az (BW (Az ?_)))
 unfold nsSet
 refine Az (Az (wpAny_askSetting (BW (Az (wpAny_mkText (Az (wpAny_loadPart hd1 ?_)))))))
 show wpAny _ _ (if aRefKeyMayBeTheName name #[] = true then _ else updatePart s.heap.objs.size (some (.str name 0)) (Obj.putName name (PyData.keyHash w.params name) (.str name (s.toks + 1)) v)) _ _ _
 rw [aRefKeyMayBeTheName_at, if_neg (by simp)]
 refine wpAny_updatePart hd1 ?_
 have hd2 : (h1.update s.heap.objs.size (Obj.putName name (PyData.keyHash w.params name) (.str name (s.toks + 1)) v)).get? s.heap.objs.size = some (W.dictOf (putL name (PyData.keyHash w.params name) (.str name (s.toks + 1)) v []) (putN name [] 0)) := by
  have := Heap.get?_update_self (Obj.putName name (PyData.keyHash w.params name) (.str name (s.toks + 1)) v) hd1 (by rw [putName_dict]; rfl)
  rw [putName_dict] at this
  exact this
 refine Az (wpAny_lookBehind (s := { s with heap := h1.update s.heap.objs.size (Obj.putName name (PyData.keyHash w.params name) (.str name (s.toks + 1)) v), toks := s.toks + 1 + 1 }) hd2 (by
  refine pastItsLine_dict ?_
  rw [sizeLine_eq]
  show (putL name (PyData.keyHash w.params name) (.str name (s.toks + 1)) v []).toArray.size <= _
  unfold putL
  simp) ?_)
 refine BW (h _ _ ?_ ⟨_, _, hd2⟩ fun b o hb q => ?_)
 .exact (Heap.get?_update_ne _ _ _ _ Ex).trans he1
 .exact (Heap.get?_update_ne _ _ _ _ (Nat.ne_of_lt (Heap.lt_size q))).trans (keep b o hb q)
end
section
variable {prog : Program} {w : World} {K : Frag} {C D e : Addr} {cd : ClassData} {ox : Obj} {es : List DictEntry}
theorem P5 {name : Str} {v : Value} {ex : Bool} {attr : Option Value} {Q : Value -> Shared -> Prop} (X : K.In s.heap) (I : InstAt s.heap e ox C (some (W.dictOf es n))) (hc : clsIn K C = some cd) (hm : cd.mro = .ref C :: .ref D :: C6)
  (hga : findIn K (.ref C) "__getattribute__" = some (some (.builtin "BaseException.__getattribute__"))) (hgt : findIn K (.ref C) "__getattr__" = some none) (hh : hasDictIn K C = true) (ha : findIn K (.ref C) name = some attr) (hn : noGet K attr = true) (hl : getL name es = some (some v)) (hv : handedIn v = true)
  (h : Q v { s with toks := s.toks + 1 }) : wpAny (model prog w) A (getAttr (.ref e) name ex) Q E s := by
 obtain ⟨hp, g, d, t, os⟩ := s
 have GA := PySem.F.attr_Exception.ga
 have f3 := GA.bind (.ref e)
 have hf : findObj K C (some (W.dictOf es n)) name = some (.value v) := findObj_own hh ha hn hl
 have hk : builtinKind "BaseException.__getattribute__" = some .slot := by decide +kernel
 have hsplit : splitId "BaseException.__getattribute__" = some ("BaseException", "__getattribute__") := by decide +kernel
 have sub : Looks (model prog w) hp (isInstance (.ref e) (.type "BaseException")) true := I.type.andThen (looks_mroIn X (by unfold mroIn; rw [hc, Option.bind_some, hm]; rfl))
 have hx2 : (Value.builtin "BaseException.__getattribute__" == Value.builtin "object.__getattribute__") = false := by decide +kernel
 have hx0 : (ex && onTheHeap (Value.builtin "BaseException.__getattribute__")) = false := by cases ex <;> rfl
 unfold getAttr getAttrBy
 refine Az (wpAny_mkText (wpAny_holding (Az (I.type.at (Az ((looks_findIn X hga).at ?_))))))
 dsimp only
 rw [hx2, Bool.and_false, if_neg (by decide)]
 unfold getAttrByItsOwn hookBefore
 rw [if_pos (show onTheHeap (.ref C) = true from rfl)]
 refine Az ((looks_findIn X hgt).at ?_)
 unfold callGetattribute
 rw [hx0, if_neg (by decide)]
 unfold boundAndCalled
 refine Az (wpAny_attempt (wpAny_holding (Az (wpAny_of_eq f3 (wpAny_call (codeAny_call_builtin GA.plain PySem.F.entry_bexc_ga (@check_slot (model prog w) _ _ _ "BaseException.__getattribute__" "BaseException" "__getattribute__" (.ref e) [.str name t] [] _ hk hsplit sub (PySem.F.args_bexc_ga (.ref e) (.str name t)) ?_)))))))
 have L0 := I.type (M := model prog w)
 have L1 := looks_find (M := model prog w) X I hf
 unfold Builtin.«object.__getattribute__»
 refine Az (BW (Az (BW (Az (L0.at (Az (L1.at ?_)))))))
 refine BW ?_
 show wpAny _ _ (handedOut v) _ _ _
 rw [handedOut_of hv]; exact BW h
end
structure UE (U : Un) (C D fI : Addr) (cd : ClassData) : Prop where
 name : nsIn U.K mainGlobals "Refusal" = some (some (.ref C))
 keep : keepIn U.K (.ref C) = true
 obj : ∃ nm q N bs hdct sn sub ab col dd k0 k1 k2 k3 k5, U.K.lookup C = some (excClassObj nm q C N bs (.ref D :: C6) hdct sn sub ab col dd k0 k1 k2 k3 k5 "Exception.__new__")
 tail : tailIn U.K C6 (.ref D :: C6) = true
 init : findIn U.K (.ref C) "__init__" = some (some (.ref fI))
 isfn : isFn U.K (.ref fI) = true
 fn : ∃ oc od osl name qual params scope dV kV doc pm an cdv ct p1 p2 p3 p4, U.K.lookup fI = some ⟨oc, od, .func (fnX name qual params [.Assign [.Attribute (.Name "self" p1) "message" p2] (.Name "message" p3) p4] scope [] dV kV doc pm an cdv ct), osl⟩ /\
  codeIn U.K cdv qual = true /\ NY scope ["self", "message"] /\ DY scope.names "self" = true /\ DY scope.names "message" = true /\
  ∀ s a b, U.K.In s.heap -> BindsTo s (fnX name qual params [.Assign [.Attribute (.Name "self" p1) "message" p2] (.Name "message" p3) p4] scope [] dV kV doc pm an cdv ct) ⟨[a, b], []⟩ [("self", a), ("message", b)]
 cls : clsIn U.K C = some cd
 mro : cd.mro = .ref C :: .ref D :: C6
 hd : cd.hasDict = true
 seta : findIn U.K (.ref C) "__setattr__" = some (some (.builtin "object.__setattr__"))
 taker : takerIn U.K C "message" = some none
 hga : findIn U.K (.ref C) "__getattribute__" = some (some (.builtin "BaseException.__getattribute__"))
 hgt : findIn U.K (.ref C) "__getattr__" = some none
 hmsg : findIn U.K (.ref C) "message" = some none
section
variable {Cc : Ef Fn} {C D fI : Addr} {cd : ClassData}
theorem Oa {X : Fx} {ρ : B0} {H : MH} {h h' : Heap} {a : Addr} {o o' : Obj} {pre post : List (Addr × Obj)} (x : Bc U X ρ H h) (e : X.ex = pre ++ (a, o) :: post) (hs : ∀ b o, b ≠ a -> h.get? b = some o -> h'.get? b = some o) (ho : h'.get? a = some o') :
  Bc U (X.withEx (pre ++ (a, o') :: post)) ρ H h' := by
 obtain ⟨F, ps, p, N, D, lo⟩ := x
 have w : X.px ++ ps.flatten = (X.own ++ pre) ++ (a, o) :: (post ++ ps.flatten) := by simp [Fx.px, e]
 rw [w] at N D
 obtain ⟨h1, h2⟩ : (∀ q ∈ X.own ++ pre, q.1 ≠ a) /\ ∀ q ∈ post ++ ps.flatten, q.1 ≠ a := by
  unfold B4 at D
  rw [List.map_append, List.map_cons] at D
  have d2 := (List.nodup_append.mp D)
  refine ⟨fun q hq => d2.2.2 q.1 (List.mem_map_of_mem hq) a (.head _), fun q hq e => ?_⟩
  have := (List.nodup_cons.mp d2.2.1).1
  exact this (e ▸ List.mem_map_of_mem (f := (·.1)) hq)
 have z := N (a, o) (DK _ (.head _))
 have hL : X.L ≠ a := Ne.symm z.2.1
 have w2 : (X.withEx (pre ++ (a, o') :: post)).px ++ ps.flatten = (X.own ++ pre) ++ (a, o') :: (post ++ ps.flatten) := by simp [Fx.px]
 refine ⟨⟨F.ns.extBut (fun b o hb q => hs b o hb q) hL, fun b o q => hs b o (fun q2 => ?_) (F.keep b o q), F.above⟩, ps, p, ?_, ?_, lo⟩
 .subst q2; have := z.2.2; dsimp only at q; rw [q] at this; cases this
 .rw [w2]
  intro q hq
  rcases List.mem_append.mp hq with hq | hq
  .have y := N q (DW _ hq)
   exact ⟨hs _ _ (h1 q hq) y.1, y.2⟩
  .rcases List.mem_cons.mp hq with rfl | hq
   .exact ⟨ho, z.2⟩
   .have y := N q (DK _ (.tail _ hq))
    exact ⟨hs _ _ (h2 q hq) y.1, y.2⟩
 .rw [w2]
  exact HN (o' := o') D
theorem MM {Q : Flow -> Shared -> Prop} {nm q : Str} {N : Addr} {bs : List Value} {hdct : Bool} {sn : List Str} {sub : List Value} {ab : Bool} {col : Option Bool} {dd : Option Addr} {k0 k1 k2 k3 k5 : Option Value} {M : Model} {x : Sem Value} (hh : A.handled = none)
  (h : wpAny M A x (fun v s₁ => ∃ e t d, v = .ref e /\ s₁.heap.get? C = some (excClassObj nm q C N bs (.ref D :: C6) hdct sn sub ab col dd k0 k1 k2 k3 k5 "Exception.__new__") /\
   s₁.heap.get? e = some { cls := .ref C, dict := some d, data := .fields #[.ref t, .none, .none, .none, .bool false, .none] } /\ E (.ref e) s₁) E s) :
  wpAny M A (raiseStmt env (some x) none) Q E s := by
 have hcB : (Value.ref C :: Value.ref D :: C6).contains (.type "BaseException") = true := rfl
 unfold raiseStmt
 refine Az (wpAny_mono h (fun v s₁ h₁ => ?_) fun _ _ x => x)
 obtain ⟨e, t, d, rfl, hC, he, hE⟩ := h₁
 obtain ⟨hp, g, dr, tk, os⟩ := s₁
 repeat (first | with_reducible refine wpAny_loadPart_at he ?_ | with_reducible refine wpAny_loadPart_at hC ?_ | (with_reducible refine wpAny_isSubtype_exc hC ?_; rw [hcB]) | wp_step)
 exact wpAny_raiseNew_none hh hE
end
section
variable {Cc : Ef Fn} {cpos : Pos} {C D fI : Addr} {cd : ClassData}
theorem PW {m : Nat} {e d : Addr} {t : Value} {k : Int} {u v : Tok} {j : Nat} (cx : Cx U A X Ac n)
  (x : Bc U (X.withEx ((e, { cls := .ref C, dict := some d, data := .fields #[t, .none, .none, .none, .bool false, .none] }) :: X.ex)) ρ H h')
  (hd : h'.get? d = some (W.dictOf [⟨k, .str "message" u, .str (wd m) v⟩] j)) (hde : d ≠ e) (hfr : ∀ env ∈ X.l, ∀ b, env.frame = some b -> b ≠ d) :
  Pw U (.ref C) X m ρ H e h' := by
 obtain ⟨F, ps, p, N, D, lo⟩ := x
 have w : (X.withEx ((e, { cls := .ref C, dict := some d, data := .fields #[t, .none, .none, .none, .bool false, .none] }) :: X.ex)).px ++ ps.flatten = X.own ++ (e, { cls := .ref C, dict := some d, data := .fields #[t, .none, .none, .none, .bool false, .none] }) :: (X.ex ++ ps.flatten) := by simp [Fx.px]
 rw [w] at N D
 have sub : ∀ q ∈ X.px ++ ps.flatten, q ∈ X.own ++ (e, ({ cls := .ref C, dict := some d, data := .fields #[t, .none, .none, .none, .bool false, .none] } : Obj)) :: (X.ex ++ ps.flatten) := fun q hq => by
  simp only [Fx.px, List.append_assoc, List.mem_append, List.mem_cons] at hq ⊢
  rcases hq with h | h | h
  .exact .inl h
  .exact .inr (.inr (.inl h))
  .exact .inr (.inr (.inr h))
 have D2 : B4 (X.px ++ ps.flatten) := by
  unfold B4 at D ⊢
  refine D.sublist (List.Sublist.map _ ?_)
  rw [Fx.px, List.append_assoc]
  exact (List.sublist_cons_self _ _).append_left _
 have ne : ∀ q ∈ X.px ++ ps.flatten, q.1 ≠ e := by
  have pm := Cj (List.perm_middle (l₁ := X.own) (a := (e, ({ cls := .ref C, dict := some d, data := .fields #[t, .none, .none, .none, .bool false, .none] } : Obj))) (l₂ := X.ex ++ ps.flatten)) D
  unfold B4 at pm
  rw [List.map_cons, List.nodup_cons] at pm
  intro q hq z
  refine pm.1 (List.mem_map.mpr ⟨q, ?_, z⟩)
  rw [<- List.append_assoc]
  exact hq
 have he := (N _ (DK _ (.head _))).1
 have gE := (N _ (DK _ (.head _))).2.2
 dsimp only at he gE
 obtain ⟨A₀, outer, B, hl⟩ := cx.B
 have K' := pushX B F cx.hf cx.hk
 rw [<- hl] at K'
 let as := e :: X.l.filterMap (·.frame)
 have inl : ∀ env ∈ X.l, ∀ b, env.frame = some b -> b ∈ as := fun env he b hb => .tail _ (List.mem_filterMap.mpr ⟨env, he, hb⟩)
 have baseE : X.base.get? e = none := fresh_of_stays B.stays gE
 have hidden : ∀ b o, h'.get? b = some o -> b ∉ as -> (hideAll h' as).get? b = some o := fun b o hb hn => hideAll_get _ hb hn
 refine ⟨ps, h', p, D2, lo, ⟨hideAll h' as, d, _, j, v, fun b o q => ?_, fun q hq => ⟨?_, fresh_of_stays B.stays (N q (sub q hq)).2.2⟩, fun b o q => of_hideAll _ q, hideAll_none _ (.head _), funFrames_hide K'.frames inl, ⟨_, _, he, rfl, rfl, rfl, by simp, .inl rfl⟩, hidden _ _ hd ?_, by unfold getL; simp [Value.isStr]⟩, F, Heap.UpToSlots.refl _⟩
 .refine hidden _ _ (K'.stays b o q) fun hm => ?_
  rcases List.mem_cons.mp hm with rfl | hm
  .rw [baseE] at q; cases q
  .rw [(K'.frames.mem hm).1] at q; cases q
 .have Ex := ne q hq
  have N' := N q (sub q hq)
  refine hidden _ _ N'.1 fun hm => ?_
  rcases List.mem_cons.mp hm with z | hm
  .exact Ex z
  .obtain ⟨env, hen, hf⟩ := List.mem_filterMap.mp hm
   rw [hl] at hen
   rcases List.mem_cons.mp hen with rfl | hen
   .rw [cx.hf] at hf
    exact N'.2.1 (Option.some.inj hf).symm
   .obtain ⟨o, ho, _⟩ := (B.frames.mem (List.mem_filterMap.mpr ⟨env, hen, hf⟩)).2
    rw [N'.2.2] at ho; cases ho
 .intro hm
  rcases List.mem_cons.mp hm with z | hm
  .exact hde z
  .obtain ⟨env, hen, hf⟩ := List.mem_filterMap.mp hm
   exact hfr env hen d hf rfl
theorem Ph (ue : UE U C D fI cd) (rm : DN A n 3) {m : Nat} {k : Nat} {p1 p2 : Pos} (hn : D3 ns "Refusal" = true) :
  SS U (.ref C) Cc A Ac env n ns Γ (.raise m) (.Raise (some (.Call (.Name "Refusal" p1) [.Constant (.str (wd m)) k p2] [] cpos)) none pos) := by
 intro X ρ H s vs Q E sx x eo hp
 rw [Ai] at hp
 have cx := sx.cx
 obtain ⟨nm, q, N, bs, hdct, sn, sub, ab, col, dd, k0, k1, k2, k3, k5, hobj⟩ := ue.obj
 rw [arm_exec_Raise]
 refine Az (wpAny_standAt ?_)
 refine MM (C := C) (D := D) (nm := nm) (q := q) (N := N) (bs := bs) (hdct := hdct) (sn := sn) (sub := sub) (ab := ab) (col := col) (dd := dd) (k0 := k0) (k1 := k1) (k2 := k2) (k3 := k3) (k5 := k5) cx.hh ?_
 refine Az ?_
 refine wpAny_mono (Q := fun v s₁ => ∃ e t d, v = .ref e /\ s₁.heap.get? C = some (excClassObj nm q C N bs (.ref D :: C6) hdct sn sub ab col dd k0 k1 k2 k3 k5 "Exception.__new__") /\
   s₁.heap.get? e = some { cls := .ref C, dict := some d, data := .fields #[.ref t, .none, .none, .none, .bool false, .none] } /\ E (.ref e) s₁) ?_ (fun v s' hv => Az (wpAny_standAt (BW hv))) fun _ _ e => e
 refine B5 (DU sx.ek cx.gf x hn ue.name ?_)
 refine AF (P := U.K.In) rfl (fun h X => keeps_K ue.keep h X) ?_
 refine spliced_more (wpAny_Constant_str ?_) (AX rfl)
 have KI := cx.gf.K.keeps x.fr.keep
 refine wpAny_items_nil ⟨KI, ?_⟩
 obtain ⟨hp0, gg, dr, tk0, os⟩ := s
 refine Iv (F := PySem.F.excBase_Exception) (X := KI) (tail_of_in KI ue.tail) (KI _ _ hobj) ue.init ue.isfn fun h2 e2 => ?_
 dsimp only at x KI
 have xa := FS.addEx (a := hp0.objs.size) (o := { cls := .type "tuple", data := .seq [Value.str (wd m) tk0].toArray }) x (h' := hp0.push { cls := .type "tuple", data := .seq [Value.str (wd m) tk0].toArray }) (fun b o e => DT _ e) (Heap.get?_push_size _ rfl) (Nat.le_refl _)
 have xb := FS.addEx (a := hp0.objs.size + 1) (o := { cls := .ref C, data := .fields #[.ref hp0.objs.size, .none, .none, .none, .bool false, .none] }) xa (h' := h2) (fun b o e => by rw [e2]; exact DT _ e) (by rw [e2]; exact Heap.get?_push_at (by simp only [Heap.size_push]) rfl) (by rw [Heap.size_push]; exact Nat.le_refl _)
 have KI2 : U.K.In h2 := by rw [e2]; exact KI.keeps fun b o e => DT _ (DT _ e)
 obtain ⟨oc, od, osl, name, qual, params, scope, dV, kV, doc, pm, an, cdv, ct, q1, q2, q3, q4, hfn, hcd, sc, on1, on2, bind⟩ := ue.fn
 have rm2 : DN A n 1 := ⟨by have := rm.1; omega, by have := rm.2; omega⟩
 have cxu := cx.under rm2 C [Value.str (wd m) tk0]
 have rmu : DN (A.under (.builtin "type.__call__" ⟨[.ref C, .str (wd m) tk0], []⟩)) n (1 + 1) := by
  have := rm
  unfold DN at this ⊢
  rw [depth_under_make, units_under_make]
  omega
 have e0 : hp0.objs.size + 1 ≠ hp0.objs.size := by omega
 refine wpAny_call (QH (k := 1) (X := X.withEx ((hp0.objs.size + 1, { cls := .ref C, data := .fields #[.ref hp0.objs.size, .none, .none, .none, .bool false, .none] }) :: (hp0.objs.size, { cls := .type "tuple", data := .seq [Value.str (wd m) tk0].toArray }) :: X.ex)) (xc := .ref C) (cxu.ex _) rmu (s := ⟨h2, gg, dr, tk0 + 1, os⟩) (binds := [("self", .ref (hp0.objs.size + 1)), ("message", .str (wd m) tk0)]) xb sc (KI2 _ _ hfn) rfl (codeRec_of KI2 hcd) (bind _ _ _ KI2) fun X' h₁ tk Aj CF hex hbase hl rm3 sx' x' ld => ?_)
 have ek' := sx'.ek
 refine wpAny_execs_cons (plainObj_wpAny_Assign_Attribute ?_ (by rfl))
 refine JD ek' x' on2 (ld "message" _ rfl) ?_
 refine JD ek' x' on1 (ld "self" _ rfl) ?_
 have he1 : h₁.get? (hp0.objs.size + 1) = some { cls := .ref C, data := .fields #[.ref hp0.objs.size, .none, .none, .none, .bool false, .none] } := x'.exGet (p := (hp0.objs.size + 1, _)) (by rw [hex]; exact DK _ (.head _))
 have KI1 : U.K.In h₁ := sx'.cx.gf.K.keeps x'.fr.keep
 refine Qg (s := ⟨h₁, gg, dr, tk, os⟩) (D := D) KI1 he1 ue.cls ue.mro ue.hd ue.seta ue.taker fun h3 tk3 g1 g2 g3 => ?_
 refine wpAny_execs_nil ?_
 obtain ⟨t3, n3, hd3⟩ := g2
 have x3 := Oa (X := X') (pre := X.own) (post := (hp0.objs.size, { cls := .type "tuple", data := .seq [Value.str (wd m) tk0].toArray }) :: X.ex) x' (by rw [hex]) g3 g1
 refine ⟨_, (hp0.objs.size + 1, { cls := .ref C, dict := some h₁.objs.size, data := .fields #[.ref hp0.objs.size, .none, .none, .none, .bool false, .none] }) :: (hp0.objs.size, { cls := .type "tuple", data := .seq [Value.str (wd m) tk0].toArray }) :: X.ex, ρ, H, .none, ?_, ?_, x3, rfl, fun FX => ⟨rfl, hp0.objs.size + 1, hp0.objs.size, h₁.objs.size, rfl, ?_, g1, ?_⟩⟩
 .rfl
 .exact List.Sublist.refl _
 .have : X.G.get? C = some _ := cx.gf.K _ _ hobj
  exact FX.fr.keep _ _ this
 .refine hp X ρ (hp0.objs.size + 1) h3 tk3 .refl (B8 _) ?_
  refine PW (h' := h3) (d := h₁.objs.size) cx (FS.dropEx0 (X := X) (FS.swapEx (X := X) FX) |> fun z => z) hd3 (Nat.ne_of_gt (Heap.lt_size he1)) (fun env he b hb hbd => ?_)
  obtain ⟨A₁, outer₁, B₁, hl₁⟩ := sx'.cx.B
  rw [hl] at hl₁
  have e3 : outer₁ = X.l := (List.cons.inj hl₁).2.symm
  rw [e3] at B₁
  obtain ⟨o, ho, _⟩ := (B₁.frames.mem (List.mem_filterMap.mpr ⟨env, he, hb⟩)).2
  have := Heap.lt_size (x'.fr.keep _ _ ho)
  rw [hbd] at this
  exact absurd this (Nat.lt_irrefl _)
end
def Fh (ns : Ft) (nm : Str) (x : String) : Bool := nm == Str.ofString x && D3 ns nm
def Hu : List Nat -> List PySem.Expr -> Bool
 | [], [] => true
 | k :: r, .Constant (.str t) _ _ :: es => t == wd k && Hu r es
 | _, _ => false
def MY (ns : Ft) (Γ : List Str) (params : Arguments) (sc : Scope) : Bool :=
 params.posonlyargs.isEmpty && params.args.isEmpty && params.vararg.isNone && params.kwonlyargs.isEmpty && params.kw_defaults.isEmpty && params.kwarg.isNone && params.defaults.isEmpty &&
 sc.kind == .function && !sc.isCoroutine && !sc.isGenerator && (sc.names.all fun p => match p.2 with
  | .free => ns.lookup p.1 == some .cell && Γ.contains p.1
  | .globalImplicit => true
  | _ => false)
def EP (t : Bool) (e : PySem.Expr) : Bool := !t || (match e with | .Compare _ [_] [_] _ => true | e => HS e)
mutual
def Bp (t k : Bool) (ns : Ft) (Γ : List Str) : ME Fn -> PySem.Expr -> Bool
 | .var i, e => EP t e && (match e with | .Name nm _ => Γ[i]? == some nm && DY ns nm | _ => false)
 | .cst v, e => EP t e && (match e with | .Constant c _ _ => QI v c | _ => false)
 | .usub j, e => EP t e && (match e with | .UnaryOp .USub (.Constant (.int i) _ _) _ => i == (j : Int) | _ => false)
 | .gmax, e => EP t e && (match e with | .Name nm _ => Fh ns nm "MOST_LENGTH" | _ => false)
 | .attr m a, e => EP t e && (match e with | .Attribute o nm _ => nm == wd a && Dg.contains a && AY o && Bp false k ns Γ m o | _ => false)
 | .idx m i, e => EP t e && (match e with | .Subscript o sl _ => Bp false k ns Γ m o && Bp false k ns Γ i sl | _ => false)
 | .cutTo m i, e => EP t e && (match e with | .Subscript (.Name nm p) (.Slice none (some j) none _) _ => Bp false k ns Γ m (.Name nm p) && Bp false k ns Γ i j | _ => false)
 | .cutFrom m i, e => EP t e && (match e with | .Subscript (.Name nm p) (.Slice (some j) none none _) _ => Bp false k ns Γ m (.Name nm p) && Bp false k ns Γ i j | _ => false)
 | .bin op a b, e => EP t e && (match e with | .BinOp l o r _ => o == Pb op && Bp false k ns Γ a l && Bp false k ns Γ b r | _ => false)
 | .cmp op a b, e => EP t e && (match e with | .Compare l [o] [r] _ => o == LX op && !behindInMarks (LX op) r && Bp false k ns Γ a l && Bp false k ns Γ b r | _ => false)
 | .isNone neg m, e => EP t e && (match e with | .Compare l [o] [.Constant .none _ _] _ => o == (if neg then .IsNot else .Is) && Bp false k ns Γ m l | _ => false)
 | .inW neg m ws, e => EP t e && (match e with | .Compare l [o] [.Tuple es _ _] _ => o == (if neg then .NotIn else .In) && decide (ws.length <= 100) && Hu ws es && Bp false k ns Γ m l | _ => false)
 | .and2 a b, e => (match e with
  | .BoolOp .And [x, y] _ => Bp t k ns Γ a x && Bp t k ns Γ b y
  | .BoolOp .And (x :: y :: z :: r) p => Bp t k ns Γ a x && Bp t k ns Γ b (.BoolOp .And (y :: z :: r) p)
  | _ => false)
 | .or2 a b, e => (match e with
  | .BoolOp .Or [x, y] _ => Bp t k ns Γ a x && Bp t k ns Γ b y
  | .BoolOp .Or (x :: y :: z :: r) p => Bp t k ns Γ a x && Bp t k ns Γ b (.BoolOp .Or (y :: z :: r) p)
  | _ => false)
 | .not m, e => (match e with | .UnaryOp .Not x _ => Bp t k ns Γ m x | _ => false)
 | .ite c a b, e => (match e with | .IfExp ec ea eb _ => Bp true k ns Γ c ec && Bp t k ns Γ a ea && Bp t k ns Γ b eb | _ => false)
 | .lst ms, e => EP t e && (match e with | .List es _ => es.all As && Lc k ns Γ ms es | _ => false)
 | .tup ms, e => EP t e && (match e with | .Tuple es _ _ => es.all As && Lc k ns Γ ms es | _ => false)
 | .dct0, e => EP t e && (match e with | .Dict [] [] _ => true | _ => false)
 | .dct0I, e => EP t e && (match e with | .Dict [] [] _ => true | _ => false)
 | .dct1 j m, e => EP t e && (match e with | .Dict [some (.Constant (.str t) _ _)] [x] _ => t == wd j && Bp false k ns Γ m x | _ => false)
 | .call f ms, e => EP t e && (match e with | .Call (.Name nm _) es [] _ => nm == Oq f && D3 ns nm && !Ky f && !MZ f && es.all As && Lc k ns Γ ms es | _ => false)
 | .mk c ms, e => EP t e && (match e with | .Call (.Name nm _) es [] _ => nm == Str.ofString (Hq c) && D3 ns nm && es.all As && Lc k ns Γ ms es | _ => false)
 | .len m, e => EP t e && (match e with | .Call (.Name nm _) [x] [] _ => Fh ns nm "len" && As x && Bp false k ns Γ m x | _ => false)
 | .listOf m, e => EP t e && (match e with | .Call (.Name nm _) [x] [] _ => Fh ns nm "list" && As x && Bp false k ns Γ m x | _ => false)
 | .dictOf m, e => EP t e && (match e with | .Call (.Name nm _) [x] [] _ => Fh ns nm "dict" && As x && Bp false k ns Γ m x | _ => false)
 | .strOf m, e => EP t e && (match e with | .Call (.Name nm _) [x] [] _ => Fh ns nm "str" && As x && Bp false k ns Γ m x | _ => false)
 | .max2 a b, e => EP t e && (match e with | .Call (.Name nm _) [x, y] [] _ => Fh ns nm "max" && As x && As y && Bp false k ns Γ a x && Bp false k ns Γ b y | _ => false)
 | .isV m, e => EP t e && (match e with | .Call (.Name nm _) [x, .Name n2 _] [] _ => Fh ns nm "isinstance" && Fh ns n2 "Vector" && As x && Bp false k ns Γ m x | _ => false)
 | .isT m ty, e => EP t e && (match e with | .Call (.Name nm _) [x, .Name n2 _] [] _ => Fh ns nm "isinstance" && Fh ns n2 (IU ty) && As x && Bp false k ns Γ m x | _ => false)
 | .append o m, e => EP t e && (match e with | .Call (.Attribute x nm ap) [y] [] p => nm == Str.ofString "append" && AY x && ap.endLine == p.line && As y && Bp false k ns Γ o x && Bp false k ns Γ m y | _ => false)
 | .extend o m, e => EP t e && (match e with | .Call (.Attribute x nm ap) [y] [] p => nm == Str.ofString "extend" && AY x && ap.endLine == p.line && As y && Bp false k ns Γ o x && Bp false k ns Γ m y | _ => false)
 | .index o m, e => EP t e && (match e with | .Call (.Attribute x nm ap) [y] [] p => nm == Str.ofString "index" && AY x && ap.endLine == p.line && As y && Bp false k ns Γ o x && Bp false k ns Γ m y | _ => false)
 | .get1 o m, e => EP t e && (match e with | .Call (.Attribute x nm ap) [y] [] p => nm == Str.ofString "get" && AY x && ap.endLine == p.line && As y && Bp false k ns Γ o x && Bp false k ns Γ m y | _ => false)
 | .starts o m, e => EP t e && (match e with | .Call (.Attribute x nm ap) [y] [] p => nm == Str.ofString "startswith" && AY x && ap.endLine == p.line && As y && Bp false k ns Γ o x && Bp false k ns Γ m y | _ => false)
 | .get2 o m d, e => EP t e && (match e with | .Call (.Attribute x nm ap) [y, z] [] p => nm == Str.ofString "get" && AY x && ap.endLine == p.line && As y && As z && Bp false k ns Γ o x && Bp false k ns Γ m y && Bp false k ns Γ d z | _ => false)
 | .pop o, e => EP t e && (match e with | .Call (.Attribute x nm ap) [] [] p => nm == Str.ofString "pop" && AY x && ap.endLine == p.line && Bp false k ns Γ o x | _ => false)
 | .reverse o, e => EP t e && (match e with | .Call (.Attribute x nm ap) [] [] p => nm == Str.ofString "reverse" && AY x && ap.endLine == p.line && Bp false k ns Γ o x | _ => false)
 | .mcall o f, e => EP t e && (match e with | .Call (.Attribute x nm ap) [] [] p => nm == Str.ofString "copy" && (match f with | .A3 => true | _ => false) && AY x && ap.endLine == p.line && Bp false k ns Γ o x | _ => false)
 | .comp m it, e => EP t e && (match e with | .ListComp elt [⟨.Name x _, iter, [], 0⟩] sc _ => HF ns Γ sc x && E9 iter && Bp false k ns Γ it iter && Bp false false (Cp ns sc.names) (Γ ++ [x]) m elt | _ => false)
 | .compR m it, e => EP t e && (match e with | .ListComp elt [⟨.Name x _, .Call (.Name r _) [a] [] _, [], 0⟩] sc _ => HF ns Γ sc x && Fh ns r "range" && As a && Bp false k ns Γ it a && Bp false false (Cp ns sc.names) (Γ ++ [x]) m elt | _ => false)
 | .compIf m c it, e => EP t e && (match e with | .ListComp elt [⟨.Name x _, .Call (.Name r _) [a] [] _, [t], 0⟩] sc _ => HF ns Γ sc x && Fh ns r "range" && As a && Bp false k ns Γ it a && Bp false false (Cp ns sc.names) (Γ ++ [x]) m elt && Bp true false (Cp ns sc.names) (Γ ++ [x]) c t | _ => false)
 | .dcomp m it, e => EP t e && (match e with | .DictComp (.Name y _) vx [⟨.Name x _, iter, [], 0⟩] sc _ => y == x && HF ns Γ sc x && E9 iter && DY (Cp ns sc.names) x && Bp false k ns Γ it iter && Bp false false (Cp ns sc.names) (Γ ++ [x]) m vx | _ => false)
 | .kept m, e => EP t e && k && (match e with | .Call (.Name nm _) [.Lambda params body sc _] [] _ => Fh ns nm "_law_kept" && MY ns Γ params sc && Bp false false sc.names Γ m body | _ => false)
 | .bad, _ => true
def Lc (k : Bool) (ns : Ft) (Γ : List Str) : List (ME Fn) -> List PySem.Expr -> Bool
 | [], es => es.isEmpty
 | m :: ms, es => (match es with | e :: r => Bp false k ns Γ m e && Lc k ns Γ ms r | [] => false)
end
def DI (U : Un) (xc : Value) (C : Ef Fn) (A : Around) (X : Fx) (env : PySem.Env) (Γ : List Str) (ns : Ft) (n : Nat) : Prop :=
 ∀ (m : ME Fn) (nm : Str) (params : Arguments) (body : PySem.Expr) (sc : Scope) (lp np pos : Pos), Fh ns nm "_law_kept" = true -> MY ns Γ params sc = true ->
  (∀ A' X' Aj, Cx U A' X' Aj n -> DN A' n 1 -> AZ X' Aj Aj sc.names -> SE U xc C A' X' Aj Γ m body) ->
  SE U xc C A X env Γ (.kept m) (.Call (.Name nm np) [.Lambda params body sc lp] [] pos)
structure Al (U : Un) (xc : Value) (fa : Fn -> Addr) (n : Nat) (C : Ef Fn) : Prop where
 uf : UF U
 ug : UG U
 ub : UB U
 uc : UC U fa
 um : UM U fa
 bg : OK C.bg
 Ab : C.Ab = U.Ab
 init : C.initOf = initOf
 gmx : ∃ t, nsIn U.K mainGlobals "MOST_LENGTH" = some (some (.int 1000000 t))
 ok : ∀ pin, Hx { U with pin := pin } xc fa n C.call
 ue : ∃ Ce D fI cd, xc = .ref Ce /\ UE U Ce D fI cd
theorem UF.pin (h : UF U) {a : Addr} {o : Obj} : UF (U.pinAt a o) := ⟨fun c x hx => let ⟨p, q, r⟩ := h.attr c x hx; ⟨p, q, r⟩, h.dict, h.seta, h.over⟩
theorem UG.pin (h : UG U) {a : Addr} {o : Obj} : UG (U.pinAt a o) := by cases h; constructor <;> assumption
theorem UB.pin (h : UB U) {a : Addr} {o : Obj} : UB (U.pinAt a o) := ⟨h.blt, h.cls⟩
theorem UC.pin (h : UC U fa) {a : Addr} {o : Obj} : UC (U.pinAt a o) fa := ⟨h.glo, h.keep⟩
theorem UM.pin (h : UM U fa) {a : Addr} {o : Obj} : UM (U.pinAt a o) fa := ⟨h.copyG, h.copyF, h.isFn, h.makes, h.init, h.high, h.keepC⟩
theorem UE.pin {Ce D fI : Addr} {cd : ClassData} (h : UE U Ce D fI cd) {a : Addr} {o : Obj} : UE (U.pinAt a o) Ce D fI cd := by cases h; constructor <;> assumption
theorem Al.pin (h : Al U xc fa n C) {a : Addr} {o : Obj} : Al (U.pinAt a o) xc fa n C :=
 ⟨h.uf.pin, h.ug.pin, h.ub.pin, h.uc.pin, h.um.pin, h.bg, h.Ab, h.init, h.gmx, fun p => h.ok p, let ⟨a, b, c, d, e, f⟩ := h.ue; ⟨a, b, c, d, e, f.pin⟩⟩
theorem Al.call (h : Al U xc fa n C) : Hx U xc fa n C.call := h.ok U.pin
theorem Mv {M : Model} {l r : PySem.Expr} {o : CmpOp} {Q : Bool -> Shared -> Prop} (h : wpAny M A (eval (.Compare l [o] [r] pos) env) (fun c s => wpAny M A (truthy c) Q E s) E s) : wpAny M A (isTrue (.Compare l [o] [r] pos) env (eval (.Compare l [o] [r] pos) env)) Q E s := by
 have e : isTrue (.Compare l [o] [r] pos) env (eval (.Compare l [o] [r] pos) env) = (eval (.Compare l [o] [r] pos) env >>= fun c => holding [c] (truthy c)) := by
  rw [isTrue_Compare1, eval_Compare1]
  simp only [bind_assoc]
 rw [e]
 exact Az (wpAny_mono h (fun c s' hc => wpAny_holding hc) fun _ _ e => e)
theorem BE {t : Bool} {m : ME Fn} {e : PySem.Expr} (ht : EP t e = true) (h : SE U xc C A X env Γ m e) : SE U xc C A X env Γ m e /\ (t = true -> ST U xc C A X env Γ m e) := by
 refine ⟨h, fun et => ?_⟩
 subst et
 unfold EP at ht
 simp only [Bool.not_true, Bool.false_or] at ht
 split at ht
 .intro ρ H s vs Q E x eo hp
  refine Mv (wpAny_mono (h ρ H s vs _ E x eo (Jf hp)) (fun v s' hv => ?_) fun _ _ e => e)
  obtain ⟨t, rfl, hq⟩ := hv
  exact wpAny_truthy_bool hq
 .exact Oi ht h
theorem DR {nm : Str} {x : String} (h : Fh ns nm x = true) : nm = Str.ofString x /\ D3 ns (Str.ofString x) = true := by
 unfold Fh at h
 rw [Ao] at h
 have := beq_iff_eq.mp h.1
 subst this
 exact ⟨rfl, h.2⟩
theorem Kd : ∀ {ws : List Nat} {es : List PySem.Expr}, Hu ws es = true -> Px U xc C A X env Γ (ws.map fun k => .cst (.w k)) es
 | [], [], _ => KE
 | [], _ :: _, h => by simp [Hu] at h
 | _ :: _, [], h => by cases h
 | k :: r, e :: es, h => by
  cases e <;> first | (cases h; done) | skip
  rename_i c j p
  cases c <;> first | (cases h; done) | skip
  rename_i t
  have h : (t == wd k && Hu r es) = true := h
  rw [Ao] at h
  obtain rfl := eq_of_beq h.1
  exact Jl rfl (OP (beq_iff_eq.mpr rfl)) (Kd h.2)
theorem Fc {elt : PySem.Expr} {gens : List Comprehension} {sc : Scope} {m : ME Fn} (h : Py U xc C A X env Γ m (D4 sc gens pos (.ListComp elt gens sc pos) (newList []) env)) : SE U xc C A X env Γ m (.ListComp elt gens sc pos) := by
 intro ρ H s vs Q E x eo hp
 rw [eval_ListComp]
 exact h ρ H s vs none Q Q E x eo hp fun _ _ _ _ => K3
theorem JX {kx vx : PySem.Expr} {gens : List Comprehension} {sc : Scope} {m : ME Fn} (h : Py U xc C A X env Γ m (D4 sc gens pos (.DictComp kx vx gens sc pos) newDict env)) : SE U xc C A X env Γ m (.DictComp kx vx gens sc pos) := by
 intro ρ H s vs Q E x eo hp
 rw [arm_eval_DictComp]
 exact h ρ H s vs none Q Q E x eo hp fun _ _ _ _ => K3
abbrev SU (m : ME Fn) : Prop := ∀ (t k : Bool) (ns : Ft) (Γ : List Str) (e : PySem.Expr), Bp t k ns Γ m e = true -> ∀ (U : Un) (xc : Value) (fa : Fn -> Addr) (n : Nat) (C : Ef Fn) (A : Around) (X : Fx) (Ac env : PySem.Env), Al U xc fa n C -> Cx U A X Ac n -> DN A n 1 -> AZ X Ac env ns ->
 (k = true -> DI U xc C A X env Γ ns n) -> SE U xc C A X env Γ m e /\ (t = true -> ST U xc C A X env Γ m e)
abbrev Sz (ms : List (ME Fn)) : Prop := ∀ (k : Bool) (ns : Ft) (Γ : List Str) (es : List PySem.Expr), es.all As = true -> Lc k ns Γ ms es = true -> ∀ (U : Un) (xc : Value) (fa : Fn -> Addr) (n : Nat) (C : Ef Fn) (A : Around) (X : Fx) (Ac env : PySem.Env), Al U xc fa n C -> Cx U A X Ac n -> DN A n 1 -> AZ X Ac env ns ->
 (k = true -> DI U xc C A X env Γ ns n) -> Px U xc C A X env Γ ms es
mutual
theorem Af : ∀ m : ME Fn, SU m
 | .var i => by
  intro t k ns Γ e h U xc fa n C A X Ac env al cx rm ek kr
  unfold Bp at h
  rw [Ao] at h
  obtain ⟨ht, h⟩ := h
  split at h
  .simp only [Ao] at h
   obtain ⟨h1, h2⟩ := h
   exact BE ht (Pe ek (eq_of_beq h1) h2)
  .cases h
 | .cst v => by
  intro t k ns Γ e h U xc fa n C A X Ac env al cx rm ek kr
  unfold Bp at h
  rw [Ao] at h
  obtain ⟨ht, h⟩ := h
  split at h
  .skip
   exact BE ht (OP h)
  .cases h
 | .usub j => by
  intro t k ns Γ e h U xc fa n C A X Ac env al cx rm ek kr
  unfold Bp at h
  rw [Ao] at h
  obtain ⟨ht, h⟩ := h
  split at h
  .skip
   obtain rfl := eq_of_beq h
   exact BE ht Qb
  .cases h
 | .gmax => by
  intro t k ns Γ e h U xc fa n C A X Ac env al cx rm ek kr
  unfold Bp at h
  rw [Ao] at h
  obtain ⟨ht, h⟩ := h
  split at h
  .skip
   obtain ⟨rfl, hg⟩ := DR h
   obtain ⟨t0, hm⟩ := al.gmx
   exact BE ht (Qe ek cx.gf hg hm)
  .cases h
 | .attr m a => by
  intro t k ns Γ e h U xc fa n C A X Ac env al cx rm ek kr
  unfold Bp at h
  rw [Ao] at h
  obtain ⟨ht, h⟩ := h
  split at h
  .simp only [Ao] at h
   obtain ⟨⟨⟨h1, h2⟩, h3⟩, h4⟩ := h
   obtain rfl := eq_of_beq h1
   exact BE ht (PV al.uf cx (by simpa using h2) h3 (Af m _ _ _ _ _ h4 U xc fa n C A X Ac env al cx rm ek kr).1)
  .cases h
 | .idx m i => by
  intro t k ns Γ e h U xc fa n C A X Ac env al cx rm ek kr
  unfold Bp at h
  rw [Ao] at h
  obtain ⟨ht, h⟩ := h
  split at h
  .simp only [Ao] at h
   obtain ⟨h1, h2⟩ := h
   exact BE ht (QV (Af m _ _ _ _ _ h1 U xc fa n C A X Ac env al cx rm ek kr).1 (Af i _ _ _ _ _ h2 U xc fa n C A X Ac env al cx rm ek kr).1)
  .cases h
 | .cutTo m i => by
  intro t k ns Γ e h U xc fa n C A X Ac env al cx rm ek kr
  unfold Bp at h
  rw [Ao] at h
  obtain ⟨ht, h⟩ := h
  split at h
  .simp only [Ao] at h
   obtain ⟨h1, h2⟩ := h
   exact BE ht (OZ al.Ab cx.gf (Af m _ _ _ _ _ h1 U xc fa n C A X Ac env al cx rm ek kr).1 (Af i _ _ _ _ _ h2 U xc fa n C A X Ac env al cx rm ek kr).1)
  .cases h
 | .cutFrom m i => by
  intro t k ns Γ e h U xc fa n C A X Ac env al cx rm ek kr
  unfold Bp at h
  rw [Ao] at h
  obtain ⟨ht, h⟩ := h
  split at h
  .simp only [Ao] at h
   obtain ⟨h1, h2⟩ := h
   exact BE ht (L9 cx.gf (Af m _ _ _ _ _ h1 U xc fa n C A X Ac env al cx rm ek kr).1 (Af i _ _ _ _ _ h2 U xc fa n C A X Ac env al cx rm ek kr).1)
  .cases h
 | .bin op a b => by
  intro t k ns Γ e h U xc fa n C A X Ac env al cx rm ek kr
  unfold Bp at h
  rw [Ao] at h
  obtain ⟨ht, h⟩ := h
  split at h
  .simp only [Ao] at h
   obtain ⟨⟨h1, h2⟩, h3⟩ := h
   obtain rfl := eq_of_beq h1
   exact BE ht (Q9 cx (Af a _ _ _ _ _ h2 U xc fa n C A X Ac env al cx rm ek kr).1 (Af b _ _ _ _ _ h3 U xc fa n C A X Ac env al cx rm ek kr).1)
  .cases h
 | .cmp op a b => by
  intro t k ns Γ e h U xc fa n C A X Ac env al cx rm ek kr
  unfold Bp at h
  rw [Ao] at h
  obtain ⟨ht, h⟩ := h
  split at h
  .simp only [Ao] at h
   obtain ⟨⟨⟨h1, h2⟩, h3⟩, h4⟩ := h
   obtain rfl := eq_of_beq h1
   exact BE ht (Rt cx (by simpa using h2) (Af a _ _ _ _ _ h3 U xc fa n C A X Ac env al cx rm ek kr).1 (Af b _ _ _ _ _ h4 U xc fa n C A X Ac env al cx rm ek kr).1)
  .cases h
 | .isNone neg m => by
  intro t k ns Γ e h U xc fa n C A X Ac env al cx rm ek kr
  unfold Bp at h
  rw [Ao] at h
  obtain ⟨ht, h⟩ := h
  split at h
  .simp only [Ao] at h
   obtain ⟨h1, h2⟩ := h
   obtain rfl := eq_of_beq h1
   exact BE ht (N5 (Af m _ _ _ _ _ h2 U xc fa n C A X Ac env al cx rm ek kr).1)
  .cases h
 | .inW neg m ws => by
  intro t k ns Γ e h U xc fa n C A X Ac env al cx rm ek kr
  unfold Bp at h
  rw [Ao] at h
  obtain ⟨ht, h⟩ := h
  split at h
  .simp only [Ao] at h
   obtain ⟨⟨⟨h1, h2⟩, h3⟩, h4⟩ := h
   obtain rfl := eq_of_beq h1
   exact BE ht (Q0 (by simpa using h2) (Af m _ _ _ _ _ h4 U xc fa n C A X Ac env al cx rm ek kr).1 (Kd h3))
  .cases h
 | .and2 a b => by
  intro t k ns Γ e h U xc fa n C A X Ac env al cx rm ek kr
  unfold Bp at h
  split at h
  .rw [Ao] at h
   have ha := Af a _ _ _ _ _ h.1 U xc fa n C A X Ac env al cx rm ek kr
   have hb := Af b _ _ _ _ _ h.2 U xc fa n C A X Ac env al cx rm ek kr
   exact ⟨M2 (t := true) ha.1 (M8 hb.1), fun et => M4 (t := true) (ha.2 et) (MU (t := true) (hb.2 et))⟩
  .rw [Ao] at h
   have ha := Af a _ _ _ _ _ h.1 U xc fa n C A X Ac env al cx rm ek kr
   have hb := Af b _ _ _ _ _ h.2 U xc fa n C A X Ac env al cx rm ek kr
   exact ⟨M2 (t := true) ha.1 (La hb.1), fun et => M4 (t := true) (ha.2 et) (Le (hb.2 et))⟩
  .cases h
 | .or2 a b => by
  intro t k ns Γ e h U xc fa n C A X Ac env al cx rm ek kr
  unfold Bp at h
  split at h
  .rw [Ao] at h
   have ha := Af a _ _ _ _ _ h.1 U xc fa n C A X Ac env al cx rm ek kr
   have hb := Af b _ _ _ _ _ h.2 U xc fa n C A X Ac env al cx rm ek kr
   exact ⟨M2 (t := false) ha.1 (M8 hb.1), fun et => M4 (t := false) (ha.2 et) (MU (t := false) (hb.2 et))⟩
  .rw [Ao] at h
   have ha := Af a _ _ _ _ _ h.1 U xc fa n C A X Ac env al cx rm ek kr
   have hb := Af b _ _ _ _ _ h.2 U xc fa n C A X Ac env al cx rm ek kr
   exact ⟨M2 (t := false) ha.1 (La hb.1), fun et => M4 (t := false) (ha.2 et) (Le (hb.2 et))⟩
  .cases h
 | .not m => by
  intro t k ns Γ e h U xc fa n C A X Ac env al cx rm ek kr
  unfold Bp at h
  split at h
  .have hm := Af m _ _ _ _ _ h U xc fa n C A X Ac env al cx rm ek kr
   exact ⟨QU hm.1, fun et => Rl (hm.2 et)⟩
  .cases h
 | .ite c a b => by
  intro t k ns Γ e h U xc fa n C A X Ac env al cx rm ek kr
  unfold Bp at h
  split at h
  .simp only [Ao] at h
   obtain ⟨⟨h1, h2⟩, h3⟩ := h
   have hc := Af c _ _ _ _ _ h1 U xc fa n C A X Ac env al cx rm ek kr
   have ha := Af a _ _ _ _ _ h2 U xc fa n C A X Ac env al cx rm ek kr
   have hb := Af b _ _ _ _ _ h3 U xc fa n C A X Ac env al cx rm ek kr
   exact ⟨Rg (hc.2 rfl) ha.1 hb.1, fun et => Rj (hc.2 rfl) (ha.2 et) (hb.2 et)⟩
  .cases h
 | .lst ms => by
  intro t k ns Γ e h U xc fa n C A X Ac env al cx rm ek kr
  unfold Bp at h
  rw [Ao] at h
  obtain ⟨ht, h⟩ := h
  split at h
  .simp only [Ao] at h
   obtain ⟨h1, h2⟩ := h
   exact BE ht (RJ cx.gf (Eu ms _ _ _ _ h1 h2 U xc fa n C A X Ac env al cx rm ek kr))
  .cases h
 | .tup ms => by
  intro t k ns Γ e h U xc fa n C A X Ac env al cx rm ek kr
  unfold Bp at h
  rw [Ao] at h
  obtain ⟨ht, h⟩ := h
  split at h
  .simp only [Ao] at h
   obtain ⟨h1, h2⟩ := h
   exact BE ht (RA cx.gf (Eu ms _ _ _ _ h1 h2 U xc fa n C A X Ac env al cx rm ek kr))
  .cases h
 | .dct0 => by
  intro t k ns Γ e h U xc fa n C A X Ac env al cx rm ek kr
  unfold Bp at h
  rw [Ao] at h
  obtain ⟨ht, h⟩ := h
  split at h
  .exact BE ht (PE cx.gf)
  .cases h
 | .dct0I => by
  intro t k ns Γ e h U xc fa n C A X Ac env al cx rm ek kr
  unfold Bp at h
  rw [Ao] at h
  obtain ⟨ht, h⟩ := h
  split at h
  .exact BE ht (Pj cx.gf)
  .cases h
 | .dct1 j m => by
  intro t k ns Γ e h U xc fa n C A X Ac env al cx rm ek kr
  unfold Bp at h
  rw [Ao] at h
  obtain ⟨ht, h⟩ := h
  split at h
  .simp only [Ao] at h
   obtain ⟨h1, h2⟩ := h
   obtain rfl := eq_of_beq h1
   exact BE ht (Qs cx.gf (Af m _ _ _ _ _ h2 U xc fa n C A X Ac env al cx rm ek kr).1)
  .cases h
 | .call f ms => by
  intro t k ns Γ e h U xc fa n C A X Ac env al cx rm ek kr
  unfold Bp at h
  rw [Ao] at h
  obtain ⟨ht, h⟩ := h
  split at h
  .simp only [Ao] at h
   obtain ⟨⟨⟨⟨⟨h1, h2⟩, h3⟩, h4⟩, h5⟩, h6⟩ := h
   obtain rfl := eq_of_beq h1
   exact BE ht (PT al.uc cx ek al.call h2 (by simpa using h3) (by simpa using h4) h5 (Eu ms _ _ _ _ h5 h6 U xc fa n C A X Ac env al cx rm ek kr))
  .cases h
 | .mk c ms => by
  intro t k ns Γ e h U xc fa n C A X Ac env al cx rm ek kr
  unfold Bp at h
  rw [Ao] at h
  obtain ⟨ht, h⟩ := h
  split at h
  .simp only [Ao] at h
   obtain ⟨⟨⟨h1, h2⟩, h3⟩, h4⟩ := h
   obtain rfl := eq_of_beq h1
   exact BE ht (R0 al.um al.ub cx rm ek al.call al.init h2 h3 (Eu ms _ _ _ _ h3 h4 U xc fa n C A X Ac env al cx rm ek kr))
  .cases h
 | .len m => by
  intro t k ns Γ e h U xc fa n C A X Ac env al cx rm ek kr
  unfold Bp at h
  rw [Ao] at h
  obtain ⟨ht, h⟩ := h
  split at h
  .simp only [Ao] at h
   obtain ⟨⟨h1, h2⟩, h3⟩ := h
   obtain ⟨rfl, hg⟩ := DR h1
   exact BE ht (Rb ek cx.gf al.ub hg h2 (Af m _ _ _ _ _ h3 U xc fa n C A X Ac env al cx rm ek kr).1)
  .cases h
 | .listOf m => by
  intro t k ns Γ e h U xc fa n C A X Ac env al cx rm ek kr
  unfold Bp at h
  rw [Ao] at h
  obtain ⟨ht, h⟩ := h
  split at h
  .simp only [Ao] at h
   obtain ⟨⟨h1, h2⟩, h3⟩ := h
   obtain ⟨rfl, hg⟩ := DR h1
   exact BE ht (NI ek cx.gf al.ub hg h2 (Af m _ _ _ _ _ h3 U xc fa n C A X Ac env al cx rm ek kr).1)
  .cases h
 | .dictOf m => by
  intro t k ns Γ e h U xc fa n C A X Ac env al cx rm ek kr
  unfold Bp at h
  rw [Ao] at h
  obtain ⟨ht, h⟩ := h
  split at h
  .simp only [Ao] at h
   obtain ⟨⟨h1, h2⟩, h3⟩ := h
   obtain ⟨rfl, hg⟩ := DR h1
   exact BE ht (NJ ek cx.gf al.ub hg h2 (Af m _ _ _ _ _ h3 U xc fa n C A X Ac env al cx rm ek kr).1)
  .cases h
 | .strOf m => by
  intro t k ns Γ e h U xc fa n C A X Ac env al cx rm ek kr
  unfold Bp at h
  rw [Ao] at h
  obtain ⟨ht, h⟩ := h
  split at h
  .simp only [Ao] at h
   obtain ⟨⟨h1, h2⟩, h3⟩ := h
   obtain ⟨rfl, hg⟩ := DR h1
   exact BE ht (Ow ek cx.gf al.ub hg h2 (Af m _ _ _ _ _ h3 U xc fa n C A X Ac env al cx rm ek kr).1)
  .cases h
 | .max2 a b => by
  intro t k ns Γ e h U xc fa n C A X Ac env al cx rm ek kr
  unfold Bp at h
  rw [Ao] at h
  obtain ⟨ht, h⟩ := h
  split at h
  .simp only [Ao] at h
   obtain ⟨⟨⟨⟨h1, h2⟩, h3⟩, h4⟩, h5⟩ := h
   obtain ⟨rfl, hg⟩ := DR h1
   exact BE ht (Qi cx ek al.ub hg h2 h3 (Af a _ _ _ _ _ h4 U xc fa n C A X Ac env al cx rm ek kr).1 (Af b _ _ _ _ _ h5 U xc fa n C A X Ac env al cx rm ek kr).1)
  .cases h
 | .isV m => by
  intro t k ns Γ e h U xc fa n C A X Ac env al cx rm ek kr
  unfold Bp at h
  rw [Ao] at h
  obtain ⟨ht, h⟩ := h
  split at h
  .simp only [Ao] at h
   obtain ⟨⟨⟨h1, h2⟩, h3⟩, h4⟩ := h
   obtain ⟨rfl, hg⟩ := DR h1
   obtain ⟨rfl, hg2⟩ := DR h2
   exact BE ht (Rv cx.gf ek al.ub hg hg2 h3 (Af m _ _ _ _ _ h4 U xc fa n C A X Ac env al cx rm ek kr).1)
  .cases h
 | .isT m ty => by
  intro t k ns Γ e h U xc fa n C A X Ac env al cx rm ek kr
  unfold Bp at h
  rw [Ao] at h
  obtain ⟨ht, h⟩ := h
  split at h
  .simp only [Ao] at h
   obtain ⟨⟨⟨h1, h2⟩, h3⟩, h4⟩ := h
   obtain ⟨rfl, hg⟩ := DR h1
   obtain ⟨rfl, hg2⟩ := DR h2
   exact BE ht (QZ al.uf al.ug cx.gf ek al.ub hg hg2 h3 (Af m _ _ _ _ _ h4 U xc fa n C A X Ac env al cx rm ek kr).1)
  .cases h
 | .append o m => by
  intro t k ns Γ e h U xc fa n C A X Ac env al cx rm ek kr
  unfold Bp at h
  rw [Ao] at h
  obtain ⟨ht, h⟩ := h
  split at h
  .simp only [Ao] at h
   obtain ⟨⟨⟨⟨⟨h1, h2⟩, h3⟩, h4⟩, h5⟩, h6⟩ := h
   obtain rfl := eq_of_beq h1
   exact BE ht (Ob h2 h3 h4 (Af o _ _ _ _ _ h5 U xc fa n C A X Ac env al cx rm ek kr).1 (Af m _ _ _ _ _ h6 U xc fa n C A X Ac env al cx rm ek kr).1)
  .cases h
 | .extend o m => by
  intro t k ns Γ e h U xc fa n C A X Ac env al cx rm ek kr
  unfold Bp at h
  rw [Ao] at h
  obtain ⟨ht, h⟩ := h
  split at h
  .simp only [Ao] at h
   obtain ⟨⟨⟨⟨⟨h1, h2⟩, h3⟩, h4⟩, h5⟩, h6⟩ := h
   obtain rfl := eq_of_beq h1
   exact BE ht (NM h2 h3 h4 (Af o _ _ _ _ _ h5 U xc fa n C A X Ac env al cx rm ek kr).1 (Af m _ _ _ _ _ h6 U xc fa n C A X Ac env al cx rm ek kr).1)
  .cases h
 | .index o m => by
  intro t k ns Γ e h U xc fa n C A X Ac env al cx rm ek kr
  unfold Bp at h
  rw [Ao] at h
  obtain ⟨ht, h⟩ := h
  split at h
  .simp only [Ao] at h
   obtain ⟨⟨⟨⟨⟨h1, h2⟩, h3⟩, h4⟩, h5⟩, h6⟩ := h
   obtain rfl := eq_of_beq h1
   exact BE ht (OF h2 h3 h4 (Af o _ _ _ _ _ h5 U xc fa n C A X Ac env al cx rm ek kr).1 (Af m _ _ _ _ _ h6 U xc fa n C A X Ac env al cx rm ek kr).1)
  .cases h
 | .get1 o m => by
  intro t k ns Γ e h U xc fa n C A X Ac env al cx rm ek kr
  unfold Bp at h
  rw [Ao] at h
  obtain ⟨ht, h⟩ := h
  split at h
  .simp only [Ao] at h
   obtain ⟨⟨⟨⟨⟨h1, h2⟩, h3⟩, h4⟩, h5⟩, h6⟩ := h
   obtain rfl := eq_of_beq h1
   exact BE ht (PL h2 h3 h4 (Af o _ _ _ _ _ h5 U xc fa n C A X Ac env al cx rm ek kr).1 (Af m _ _ _ _ _ h6 U xc fa n C A X Ac env al cx rm ek kr).1)
  .cases h
 | .starts o m => by
  intro t k ns Γ e h U xc fa n C A X Ac env al cx rm ek kr
  unfold Bp at h
  rw [Ao] at h
  obtain ⟨ht, h⟩ := h
  split at h
  .simp only [Ao] at h
   obtain ⟨⟨⟨⟨⟨h1, h2⟩, h3⟩, h4⟩, h5⟩, h6⟩ := h
   obtain rfl := eq_of_beq h1
   exact BE ht (N4 al.bg h2 h3 h4 (Af o _ _ _ _ _ h5 U xc fa n C A X Ac env al cx rm ek kr).1 (Af m _ _ _ _ _ h6 U xc fa n C A X Ac env al cx rm ek kr).1)
  .cases h
 | .get2 o m d => by
  intro t k ns Γ e h U xc fa n C A X Ac env al cx rm ek kr
  unfold Bp at h
  rw [Ao] at h
  obtain ⟨ht, h⟩ := h
  split at h
  .simp only [Ao] at h
   obtain ⟨⟨⟨⟨⟨⟨⟨h1, h2⟩, h3⟩, h4⟩, h5⟩, h6⟩, h7⟩, h8⟩ := h
   obtain rfl := eq_of_beq h1
   exact BE ht (Qd h2 h3 h4 h5 (Af o _ _ _ _ _ h6 U xc fa n C A X Ac env al cx rm ek kr).1 (Af m _ _ _ _ _ h7 U xc fa n C A X Ac env al cx rm ek kr).1 (Af d _ _ _ _ _ h8 U xc fa n C A X Ac env al cx rm ek kr).1)
  .cases h
 | .pop o => by
  intro t k ns Γ e h U xc fa n C A X Ac env al cx rm ek kr
  unfold Bp at h
  rw [Ao] at h
  obtain ⟨ht, h⟩ := h
  split at h
  .simp only [Ao] at h
   obtain ⟨⟨⟨h1, h2⟩, h3⟩, h4⟩ := h
   obtain rfl := eq_of_beq h1
   exact BE ht (Ro h2 h3 (Af o _ _ _ _ _ h4 U xc fa n C A X Ac env al cx rm ek kr).1)
  .cases h
 | .reverse o => by
  intro t k ns Γ e h U xc fa n C A X Ac env al cx rm ek kr
  unfold Bp at h
  rw [Ao] at h
  obtain ⟨ht, h⟩ := h
  split at h
  .simp only [Ao] at h
   obtain ⟨⟨⟨h1, h2⟩, h3⟩, h4⟩ := h
   obtain rfl := eq_of_beq h1
   exact BE ht (L5 h2 h3 (Af o _ _ _ _ _ h4 U xc fa n C A X Ac env al cx rm ek kr).1)
  .cases h
 | .mcall o f => by
  intro t k ns Γ e h U xc fa n C A X Ac env al cx rm ek kr
  unfold Bp at h
  rw [Ao] at h
  obtain ⟨ht, h⟩ := h
  split at h
  .simp only [Ao] at h
   obtain ⟨⟨⟨⟨h1, h2⟩, h3⟩, h4⟩, h5⟩ := h
   obtain rfl := eq_of_beq h1
   obtain rfl : f = .A3 := by cases f <;> first | rfl | cases h2
   exact BE ht (Qw al.uc al.um cx al.call h3 h4 (Af o _ _ _ _ _ h5 U xc fa n C A X Ac env al cx rm ek kr).1)
  .cases h
 | .comp m it => by
  intro t k ns Γ e h U xc fa n C A X Ac env al cx rm ek kr
  unfold Bp at h
  rw [Ao] at h
  obtain ⟨ht, h⟩ := h
  split at h
  .simp only [Ao] at h
   obtain ⟨⟨⟨h1, h2⟩, h3⟩, h4⟩ := h
   exact BE ht (Fc (I0 cx ek (DE h1) h2 (Af it _ _ _ _ _ h3 U xc fa n C A X Ac env al cx rm ek kr).1 (fun X' Aj cx' ek' => (Af m _ _ _ _ _ h4 U xc fa n C A X' Ac Aj al cx' rm ek' (by intro q; cases q)).1)))
  .cases h
 | .compR m it => by
  intro t k ns Γ e h U xc fa n C A X Ac env al cx rm ek kr
  unfold Bp at h
  rw [Ao] at h
  obtain ⟨ht, h⟩ := h
  split at h
  .simp only [Ao] at h
   obtain ⟨⟨⟨⟨h1, h2⟩, h3⟩, h4⟩, h5⟩ := h
   obtain ⟨rfl, hg⟩ := DR h2
   exact BE ht (Fc (Ig cx ek al.ub (DE h1) hg h3 (Af it _ _ _ _ _ h4 U xc fa n C A X Ac env al cx rm ek kr).1 (fun X' Aj cx' ek' => (Af m _ _ _ _ _ h5 U xc fa n C A X' Ac Aj al cx' rm ek' (by intro q; cases q)).1)))
  .cases h
 | .compIf m c it => by
  intro t k ns Γ e h U xc fa n C A X Ac env al cx rm ek kr
  unfold Bp at h
  rw [Ao] at h
  obtain ⟨ht, h⟩ := h
  split at h
  .simp only [Ao] at h
   obtain ⟨⟨⟨⟨⟨h1, h2⟩, h3⟩, h4⟩, h5⟩, h6⟩ := h
   obtain ⟨rfl, hg⟩ := DR h2
   exact BE ht (Fc (LU cx ek al.ub (DE h1) hg h3 (Af it _ _ _ _ _ h4 U xc fa n C A X Ac env al cx rm ek kr).1 (fun X' Aj cx' ek' => (Af m _ _ _ _ _ h5 U xc fa n C A X' Ac Aj al cx' rm ek' (by intro q; cases q)).1) (fun X' Aj cx' ek' => (Af c _ _ _ _ _ h6 U xc fa n C A X' Ac Aj al cx' rm ek' (by intro q; cases q)).2 rfl)))
  .cases h
 | .dcomp m it => by
  intro t k ns Γ e h U xc fa n C A X Ac env al cx rm ek kr
  unfold Bp at h
  rw [Ao] at h
  obtain ⟨ht, h⟩ := h
  split at h
  .simp only [Ao] at h
   obtain ⟨⟨⟨⟨⟨h1, h2⟩, h3⟩, h4⟩, h5⟩, h6⟩ := h
   obtain rfl := eq_of_beq h1
   exact BE ht (JX (Jo cx ek (DE h2) h3 ⟨_, rfl⟩ h4 (Af it _ _ _ _ _ h5 U xc fa n C A X Ac env al cx rm ek kr).1 (fun a o X' Aj cx' ek' => (Af m _ _ _ _ _ h6 (U.pinAt a o) xc fa n C A X' Ac Aj al.pin cx' rm ek' (by intro q; cases q)).1)))
  .cases h
 | .kept m => by
  intro t k ns Γ e h U xc fa n C A X Ac env al cx rm ek kr
  unfold Bp at h
  rw [Ao] at h
  obtain ⟨ht, h⟩ := h
  rw [Ao] at ht
  obtain ⟨ht, hk⟩ := ht
  split at h
  .simp only [Ao] at h
   obtain ⟨⟨h1, h2⟩, h3⟩ := h
   exact BE ht (kr hk m _ _ _ _ _ _ _ h1 h2 fun A' X' Aj cx' rm' ek' => (Af m _ _ _ _ _ h3 U xc fa n C A' X' Aj Aj al cx' rm' ek' (by intro q; cases q)).1)
  .cases h
 | .bad => by
  intro t k ns Γ e h U xc fa n C A X Ac env al cx rm ek kr
  have e0 : ∀ vs H, Aa C (.bad : ME Fn) vs H = .bad := fun vs H => by rw [Aa]; rfl
  refine ⟨fun ρ H s vs Q E x eo hp => ?_, fun _ ρ H s vs Q E x eo hp => ?_⟩
  .rw [e0] at hp; exact hp.elim
  .unfold bnd at hp; rw [e0] at hp; exact hp.elim
theorem Eu : ∀ ms : List (ME Fn), Sz ms
 | [] => by
  intro k ns Γ es hs h U xc fa n C A X Ac env al cx rm ek kr
  rw [Lc] at h
  cases es with
  | nil => exact KE
  | cons _ _ => cases h
 | m :: ms => by
  intro k ns Γ es hs h U xc fa n C A X Ac env al cx rm ek kr
  cases es with
  | nil => cases h
  | cons e r =>
   have h : (Bp false k ns Γ m e && Lc k ns Γ ms r) = true := h
   rw [Ao] at h
   rw [List.all_cons, Ao] at hs
   exact Jl hs.1 (Af m _ _ _ _ _ h.1 U xc fa n C A X Ac env al cx rm ek kr).1 (Eu ms _ _ _ _ hs.2 h.2 U xc fa n C A X Ac env al cx rm ek kr)
end
def Gb (ns : Ft) (nm : Str) (px p : Pos) (sc : Scope) : Bool := ns.lookup nm == some .local && px.line == p.line && !(sc.names.any fun (n, k) => n == nm && (k == .local || k == .cell))
def Nv (ns : Ft) (Γ : List Str) : List Nat -> List PySem.Expr -> Bool
 | [], [] => true
 | i :: is, .Name nm _ :: es => Γ[i]? == some nm && Bo ns nm && Nv ns Γ is es
 | _, _ => false
def QR : MS Fn -> Bool
 | .bad => true
 | _ => false
mutual
def Ll (k : Bool) (ns : Ft) (Γ : List Str) : MS Fn -> Stmt -> Bool
 | .asg i m, st => (match st with
  | .Assign [.Name nm px] (.ListComp elt gens sc p) _ => Γ[i]? == some nm && Gb ns nm px p sc && Bp false k ns Γ m (.ListComp elt gens sc p)
  | .Assign [.Name nm px] (.DictComp kx vx gens sc p) _ => Γ[i]? == some nm && Gb ns nm px p sc && Bp false k ns Γ m (.DictComp kx vx gens sc p)
  | .Assign [.Name nm _] e _ => Γ[i]? == some nm && Eh e && Bo ns nm && Bp false k ns Γ m e
  | _ => false)
 | .asgT is m, st => (match is, st with
  | [i, j], .Assign [.Tuple [.Name a pa, .Name b pb] _ _] (.Tuple [v1, v2] k2 p2) _ => As v1 && As v2 && ns.lookup a == some .local && ns.lookup b == some .local && pb.line == pa.line && a != b && !([v1, v2].all (foldedForSure 8)) && !([v1, v2].all (constantsAlone 8)) && i != j && Γ[i]? == some a && Γ[j]? == some b && Bp false k ns Γ m (.Tuple [v1, v2] k2 p2)
  | is, .Assign [.Tuple es _ _] e _ => OU e && Nv ns Γ is es && Bp false k ns Γ m e
  | _, _ => false)
 | .setA o a m, st => (match st with | .Assign [.Attribute x nm _] e _ => nm == wd a && Dg.contains a && Eh e && Bp false k ns Γ m e && Bp false k ns Γ o x | _ => false)
 | .setI o i m, st => (match st with | .Assign [.Subscript x j _] e _ => Eh e && Bp false k ns Γ m e && Bp false k ns Γ o x && Bp false k ns Γ i j | _ => false)
 | .augL i m, st => (match st with | .AugAssign (.Name nm _) .Add e _ => Γ[i]? == some nm && ns.lookup nm == some .local && Bp false k ns Γ m e | _ => false)
 | .ex m, st => (match st with | .Expr e _ => Eh e && Bp false k ns Γ m e | _ => false)
 | .ret m, st => (match st with | .Return (some e) _ => Bp false k ns Γ m e | _ => false)
 | .ret0, st => (match st with | .Return none _ => true | _ => false)
 | .ifs c t e, st => (match st with | .If ec bt be _ => Bp true k ns Γ c ec && Hh k ns Γ t bt && Hh k ns Γ e be | _ => false)
 | .forN i m b, st => (match st with | .For (.Name nm _) (.Call (.Name r _) [e] [] _) body [] _ => Fh ns r "range" && As e && Γ[i]? == some nm && Bo ns nm && Bp false k ns Γ m e && Hh k ns Γ b body | _ => false)
 | .forR i m m2 b, st => (match st with | .For (.Name nm _) (.Call (.Name r _) [e, e2] [] _) body [] _ => Fh ns r "range" && As e && As e2 && Γ[i]? == some nm && Bo ns nm && Bp false k ns Γ m e && Bp false k ns Γ m2 e2 && Hh k ns Γ b body | _ => false)
 | .forE i m b, st => (match st with | .For (.Name nm _) e body [] _ => E9 e && Γ[i]? == some nm && Bo ns nm && Bp false k ns Γ m e && Hh k ns Γ b body | _ => false)
 | .forD i m b, st => (match st with | .For (.Name nm _) e body [] _ => E9 e && Γ[i]? == some nm && Bo ns nm && Bp false k ns Γ m e && Hh false ns Γ b body | _ => false)
 | .raise m, st => (match st with | .Raise (some (.Call (.Name nm _) [.Constant (.str t) _ _] [] _)) none _ => Fh ns nm "Refusal" && t == wd m | _ => false)
 | .bad, _ => true
def Hh (k : Bool) (ns : Ft) (Γ : List Str) : List (MS Fn) -> List Stmt -> Bool
 | [], st => st.isEmpty
 | m :: ms, st => (match st with | x :: r => Ll k ns Γ m x && (QR m || Hh k ns Γ ms r) | [] => false)
end
theorem No {sem : Option (Value -> Sem Unit) -> Sem Value} : Py U xc C A X env Γ (.bad : ME Fn) sem := by
 intro ρ H s vs use Qf Q E x eo hp
 have e0 : ∀ vs H, Aa C (.bad : ME Fn) vs H = .bad := fun vs H => by rw [Aa]; rfl
 rw [e0] at hp; exact hp.elim
theorem NU {k : Bool} {m : ME Fn} {elt : PySem.Expr} {gens : List Comprehension} {sc : Scope} {p : Pos} (h : Bp false k ns Γ m (.ListComp elt gens sc p) = true) (al : Al U xc fa n C) (cx : Cx U A X Ac n) (rm : DN A n 1) (ek : AZ X Ac env ns)
  (kr : k = true -> DI U xc C A X env Γ ns n) : Py U xc C A X env Γ m (D4 sc gens p (.ListComp elt gens sc p) (newList []) env) := by
 cases m <;> first | exact No | skip
 case comp m it =>
  unfold Bp at h
  rw [Ao] at h
  replace h := h.2
  split at h
  .rename_i heq
   cases heq
   simp only [Ao] at h
   obtain ⟨⟨⟨h1, h2⟩, h3⟩, h4⟩ := h
   exact I0 cx ek (DE h1) h2 (Af it _ _ _ _ _ h3 U xc fa n C A X Ac env al cx rm ek kr).1 (fun X' Aj cx' ek' => (Af m _ _ _ _ _ h4 U xc fa n C A X' Ac Aj al cx' rm ek' (by intro q; cases q)).1)
  .cases h
 case compR m it =>
  unfold Bp at h
  rw [Ao] at h
  replace h := h.2
  split at h
  .rename_i heq
   cases heq
   simp only [Ao] at h
   obtain ⟨⟨⟨⟨h1, h2⟩, h3⟩, h4⟩, h5⟩ := h
   obtain ⟨rfl, hg⟩ := DR h2
   exact Ig cx ek al.ub (DE h1) hg h3 (Af it _ _ _ _ _ h4 U xc fa n C A X Ac env al cx rm ek kr).1 (fun X' Aj cx' ek' => (Af m _ _ _ _ _ h5 U xc fa n C A X' Ac Aj al cx' rm ek' (by intro q; cases q)).1)
  .cases h
 case compIf m c it =>
  unfold Bp at h
  rw [Ao] at h
  replace h := h.2
  split at h
  .rename_i heq
   cases heq
   simp only [Ao] at h
   obtain ⟨⟨⟨⟨⟨h1, h2⟩, h3⟩, h4⟩, h5⟩, h6⟩ := h
   obtain ⟨rfl, hg⟩ := DR h2
   exact LU cx ek al.ub (DE h1) hg h3 (Af it _ _ _ _ _ h4 U xc fa n C A X Ac env al cx rm ek kr).1 (fun X' Aj cx' ek' => (Af m _ _ _ _ _ h5 U xc fa n C A X' Ac Aj al cx' rm ek' (by intro q; cases q)).1) (fun X' Aj cx' ek' => (Af c _ _ _ _ _ h6 U xc fa n C A X' Ac Aj al cx' rm ek' (by intro q; cases q)).2 rfl)
  .cases h
 all_goals (exfalso; unfold Bp at h; first | (cases h; done) | (simp at h; done) | (rw [Ao] at h; have h := h.2; cases h; done) | (rw [Ao, Ao] at h; have h := h.2; cases h; done))
theorem NT {k : Bool} {m : ME Fn} {kx vx : PySem.Expr} {gens : List Comprehension} {sc : Scope} {p : Pos} (h : Bp false k ns Γ m (.DictComp kx vx gens sc p) = true) (al : Al U xc fa n C) (cx : Cx U A X Ac n) (rm : DN A n 1) (ek : AZ X Ac env ns)
  (kr : k = true -> DI U xc C A X env Γ ns n) : Py U xc C A X env Γ m (D4 sc gens p (.DictComp kx vx gens sc p) newDict env) := by
 cases m <;> first | exact No | skip
 case dcomp m it =>
  unfold Bp at h
  rw [Ao] at h
  replace h := h.2
  split at h
  .rename_i heq
   cases heq
   simp only [Ao] at h
   obtain ⟨⟨⟨⟨⟨h1, h2⟩, h3⟩, h4⟩, h5⟩, h6⟩ := h
   obtain rfl := eq_of_beq h1
   exact Jo cx ek (DE h2) h3 ⟨_, rfl⟩ h4 (Af it _ _ _ _ _ h5 U xc fa n C A X Ac env al cx rm ek kr).1 (fun a o X' Aj cx' ek' => (Af m _ _ _ _ _ h6 (U.pinAt a o) xc fa n C A X' Ac Aj al.pin cx' rm ek' (by intro q; cases q)).1)
  .cases h
 all_goals (exfalso; unfold Bp at h; first | (cases h; done) | (simp at h; done) | (rw [Ao] at h; have h := h.2; cases h; done) | (rw [Ao, Ao] at h; have h := h.2; cases h; done))
theorem NW {X : Fx} {nm : Str} {px p pos : Pos} {sc : Scope} {elt : PySem.Expr} {gens : List Comprehension} (h : Gb ns nm px p sc = true) (ek : AZ X Ac env ns) : swapsWith (.ListComp elt gens sc p) (some (.Name nm px)) pos.line env = pure true /\ ns.lookup nm = some .local := by
 unfold Gb at h
 simp only [Ao, Bool.not_eq_true'] at h
 obtain ⟨⟨h1, h2⟩, h3⟩ := h
 refine ⟨?_, beq_iff_eq.mp h1⟩
 have bk : (env.blockKind == .function) = true := by unfold PySem.Env.blockKind; rw [ek.kind]; rfl
 have kk : (env.kindOf nm == some .local) = true := by unfold PySem.Env.kindOf; rw [ek.names]; exact h1
 unfold swapsWith
 show (pure (env.blockKind == .function && env.kindOf nm == some .local && px.line == p.line && !(sc.names.any fun (n, k) => n == nm && (k == .local || k == .cell))) : Sem Bool) = pure true
 rw [bk, kk, h2, h3]; rfl
theorem Mf {X : Fx} {nm : Str} {px p pos : Pos} {sc : Scope} {kx vx : PySem.Expr} {gens : List Comprehension} (h : Gb ns nm px p sc = true) (ek : AZ X Ac env ns) : swapsWith (.DictComp kx vx gens sc p) (some (.Name nm px)) pos.line env = pure true /\ ns.lookup nm = some .local := by
 unfold Gb at h
 simp only [Ao, Bool.not_eq_true'] at h
 obtain ⟨⟨h1, h2⟩, h3⟩ := h
 refine ⟨?_, beq_iff_eq.mp h1⟩
 have bk : (env.blockKind == .function) = true := by unfold PySem.Env.blockKind; rw [ek.kind]; rfl
 have kk : (env.kindOf nm == some .local) = true := by unfold PySem.Env.kindOf; rw [ek.names]; exact h1
 unfold swapsWith
 show (pure (env.blockKind == .function && env.kindOf nm == some .local && px.line == p.line && !(sc.names.any fun (n, k) => n == nm && (k == .local || k == .cell))) : Sem Bool) = pure true
 rw [bk, kk, h2, h3]; rfl
theorem O6 : ∀ {is : List Nat} {es : List PySem.Expr}, Nv ns Γ is es = true -> ∃ tg : List (Str × Pos), es = tg.map (fun p => .Name p.1 p.2) /\ tg.length = is.length /\ ∀ (j i : Nat) (p : Str × Pos), is[j]? = some i -> tg[j]? = some p -> Γ[i]? = some p.1 /\ Bo ns p.1 = true
 | [], [], _ => ⟨[], rfl, rfl, fun j i p e => by simp at e⟩
 | [], _ :: _, h => by cases h
 | _ :: _, [], h => by cases h
 | i :: is, e :: es, h => by
  cases e <;> first | (cases h; done) | skip
  rename_i nm px
  have h : (Γ[i]? == some nm && Bo ns nm && Nv ns Γ is es) = true := h
  simp only [Ao] at h
  obtain ⟨⟨h1, h2⟩, h3⟩ := h
  obtain ⟨tg, rfl, hl, hi⟩ := O6 h3
  refine ⟨(nm, px) :: tg, rfl, by simp [hl], fun j i' p e1 e2 => ?_⟩
  cases j with
  | zero => cases e1; cases e2; exact ⟨eq_of_beq h1, h2⟩
  | succ j => exact hi j i' p (by simpa using e1) (by simpa using e2)
abbrev Sv (m : MS Fn) : Prop := ∀ (k : Bool) (ns : Ft) (Γ : List Str) (st : Stmt), Ll k ns Γ m st = true -> Γ.Nodup -> ∀ (U : Un) (xc : Value) (fa : Fn -> Addr) (n : Nat) (C : Ef Fn) (A : Around) (Ac env : PySem.Env), Al U xc fa n C -> DN A n 3 -> env = Ac ->
 (k = true -> ∀ X, SX U A X Ac env n ns -> DI U xc C A X env Γ ns n) -> SS U xc C A Ac env n ns Γ m st
abbrev RT (ms : List (MS Fn)) : Prop := ∀ (k : Bool) (ns : Ft) (Γ : List Str) (st : List Stmt), Hh k ns Γ ms st = true -> Γ.Nodup -> ∀ (U : Un) (xc : Value) (fa : Fn -> Addr) (n : Nat) (C : Ef Fn) (A : Around) (Ac env : PySem.Env), Al U xc fa n C -> DN A n 3 -> env = Ac ->
 (k = true -> ∀ X, SX U A X Ac env n ns -> DI U xc C A X env Γ ns n) -> Od U xc C A Ac env n ns Γ ms st
theorem MT (rm : DN A n 3) : DN A n 1 := ⟨by have := rm.1; omega, by have := rm.2; omega⟩
theorem L2 {k : Bool} {m : ME Fn} {e : PySem.Expr} (h : Bp false k ns Γ m e = true) (al : Al U xc fa n C) (rm : DN A n 3) (kr : k = true -> ∀ X, SX U A X Ac env n ns -> DI U xc C A X env Γ ns n) : Ld U xc C A Ac env n ns Γ m e :=
 fun X sx => (Af m _ _ _ _ _ h U xc fa n C A X Ac env al sx.cx (MT rm) sx.ek fun hk => kr hk X sx).1
theorem Td {k : Bool} {m : ME Fn} {e : PySem.Expr} (h : Bp true k ns Γ m e = true) (al : Al U xc fa n C) (rm : DN A n 3) (kr : k = true -> ∀ X, SX U A X Ac env n ns -> DI U xc C A X env Γ ns n) : SM U xc C A Ac env n ns Γ m e :=
 fun X sx => (Af m _ _ _ _ _ h U xc fa n C A X Ac env al sx.cx (MT rm) sx.ek fun hk => kr hk X sx).2 rfl
theorem Rp {st : Stmt} : SS U xc C A Ac env n ns Γ (.bad : MS Fn) st := by
 intro X ρ H s vs Q E sx x eo hp
 have e0 : ∀ vs H, Ai C (.bad : MS Fn) vs H = .bad := fun vs H => by rw [Ai]; rfl
 rw [e0] at hp; exact hp.elim
theorem Qc {ms : List (MS Fn)} {st : List Stmt} : Od U xc C A Ac env n ns Γ (.bad :: ms : List (MS Fn)) st := by
 intro X ρ H s vs Q E sx x eo hp
 have e0 : ∀ vs H, Ai C (.bad : MS Fn) vs H = .bad := fun vs H => by rw [Ai]; rfl
 rw [Ae] at hp
 unfold bnd at hp
 rw [e0] at hp; exact hp.elim
mutual
theorem NR : ∀ m : MS Fn, Sv m
 | .asg i m => by
  intro k ns Γ st h nd U xc fa n C A Ac env al rm he kr
  unfold Ll at h
  split at h
  .simp only [Ao] at h
   obtain ⟨⟨h1, h2⟩, h3⟩ := h
   rename_i nm px elt gens sc p pos
   have hl : ns.lookup nm = some .local := by unfold Gb at h2; simp only [Ao] at h2; exact beq_iff_eq.mp h2.1.1
   refine M3 (sem := fun env => D4 sc gens p (.ListComp elt gens sc p) (newList []) env) (eq_of_beq h1) nd hl (fun X env ek => ?_) fun X sx => NU h3 al sx.cx (MT rm) sx.ek fun hk => kr hk X sx
   rw [exec_Assign_Name_used _ _ _ _ (NW h2 ek).1]
   rfl
  .simp only [Ao] at h
   obtain ⟨⟨h1, h2⟩, h3⟩ := h
   rename_i nm px kx vx gens sc p pos
   have hl : ns.lookup nm = some .local := by unfold Gb at h2; simp only [Ao] at h2; exact beq_iff_eq.mp h2.1.1
   refine M3 (sem := fun env => D4 sc gens p (.DictComp kx vx gens sc p) newDict env) (eq_of_beq h1) nd hl (fun X env ek => ?_) fun X sx => NT h3 al sx.cx (MT rm) sx.ek fun hk => kr hk X sx
   rw [exec_Assign_Name_used _ _ _ _ (Mf h2 ek).1]
   rfl
  .simp only [Ao] at h
   obtain ⟨⟨⟨h1, h2⟩, h3⟩, h4⟩ := h
   exact Q7 h2 (eq_of_beq h1) nd h3 (L2 h4 al rm kr)
  .cases h
 | .asgT is m => by
  intro k ns Γ st h nd U xc fa n C A Ac env al rm he kr
  unfold Ll at h
  split at h
  .simp only [Ao, Bool.not_eq_true', bne_iff_ne] at h
   obtain ⟨⟨⟨⟨⟨⟨⟨⟨⟨⟨⟨h1, h2⟩, h3⟩, h4⟩, h5⟩, h6⟩, h7⟩, h8⟩, h9⟩, h10⟩, h11⟩, h12⟩ := h
   exact OH h1 h2 (eq_of_beq h3) (eq_of_beq h4) h5 h6 h7 h8 h9 (eq_of_beq h10) (eq_of_beq h11) nd (L2 h12 al rm kr)
  .simp only [Ao] at h
   obtain ⟨⟨h1, h2⟩, h3⟩ := h
   obtain ⟨tg, rfl, hl, hi⟩ := O6 h2
   exact PN h1 hl hi nd (L2 h3 al rm kr)
  .cases h
 | .setA o a m => by
  intro k ns Γ st h nd U xc fa n C A Ac env al rm he kr
  unfold Ll at h
  split at h
  .simp only [Ao] at h
   obtain ⟨⟨⟨⟨h1, h2⟩, h3⟩, h4⟩, h5⟩ := h
   obtain rfl := eq_of_beq h1
   exact PY al.uf h3 (by simpa using h2) (L2 h4 al rm kr) (L2 h5 al rm kr)
  .cases h
 | .setI o i m => by
  intro k ns Γ st h nd U xc fa n C A Ac env al rm he kr
  unfold Ll at h
  split at h
  .simp only [Ao] at h
   obtain ⟨⟨⟨h1, h2⟩, h3⟩, h4⟩ := h
   exact PS h1 (L2 h2 al rm kr) (L2 h3 al rm kr) (L2 h4 al rm kr)
  .cases h
 | .augL i m => by
  intro k ns Γ st h nd U xc fa n C A Ac env al rm he kr
  unfold Ll at h
  split at h
  .simp only [Ao] at h
   obtain ⟨⟨h1, h2⟩, h3⟩ := h
   exact Qu (eq_of_beq h1) nd (eq_of_beq h2) (L2 h3 al rm kr)
  .cases h
 | .ex m => by
  intro k ns Γ st h nd U xc fa n C A Ac env al rm he kr
  unfold Ll at h
  split at h
  .simp only [Ao] at h
   exact RR h.1 (L2 h.2 al rm kr)
  .cases h
 | .ret m => by
  intro k ns Γ st h nd U xc fa n C A Ac env al rm he kr
  unfold Ll at h
  split at h
  .exact QY (L2 h al rm kr)
  .cases h
 | .ret0 => by
  intro k ns Γ st h nd U xc fa n C A Ac env al rm he kr
  unfold Ll at h
  split at h
  .exact Qo
  .cases h
 | .ifs c t e => by
  intro k ns Γ st h nd U xc fa n C A Ac env al rm he kr
  unfold Ll at h
  split at h
  .simp only [Ao] at h
   obtain ⟨⟨h1, h2⟩, h3⟩ := h
   exact Ry (Td h1 al rm kr) (CM t _ _ _ _ h2 nd U xc fa n C A Ac env al rm he kr) (CM e _ _ _ _ h3 nd U xc fa n C A Ac env al rm he kr)
  .cases h
 | .forN i m b => by
  intro k ns Γ st h nd U xc fa n C A Ac env al rm he kr
  unfold Ll at h
  split at h
  .simp only [Ao] at h
   obtain ⟨⟨⟨⟨⟨h1, h2⟩, h3⟩, h4⟩, h5⟩, h6⟩ := h
   obtain ⟨rfl, hg⟩ := DR h1
   exact PA al.ub he hg h2 (eq_of_beq h3) nd h4 (L2 h5 al rm kr) (CM b _ _ _ _ h6 nd U xc fa n C A Ac env al rm he kr)
  .cases h
 | .forR i m m2 b => by
  intro k ns Γ st h nd U xc fa n C A Ac env al rm he kr
  unfold Ll at h
  split at h
  .simp only [Ao] at h
   obtain ⟨⟨⟨⟨⟨⟨⟨h1, h2⟩, h3⟩, h4⟩, h5⟩, h6⟩, h7⟩, h8⟩ := h
   obtain ⟨rfl, hg⟩ := DR h1
   exact P4 al.ub he hg h2 h3 (eq_of_beq h4) nd h5 (L2 h6 al rm kr) (L2 h7 al rm kr) (CM b _ _ _ _ h8 nd U xc fa n C A Ac env al rm he kr)
  .cases h
 | .forE i m b => by
  intro k ns Γ st h nd U xc fa n C A Ac env al rm he kr
  unfold Ll at h
  split at h
  .simp only [Ao] at h
   obtain ⟨⟨⟨⟨h1, h2⟩, h3⟩, h4⟩, h5⟩ := h
   exact PX he h1 (eq_of_beq h2) nd h3 (L2 h4 al rm kr) (CM b _ _ _ _ h5 nd U xc fa n C A Ac env al rm he kr)
  .cases h
 | .forD i m b => by
  intro k ns Γ st h nd U xc fa n C A Ac env al rm he kr
  unfold Ll at h
  split at h
  .simp only [Ao] at h
   obtain ⟨⟨⟨⟨h1, h2⟩, h3⟩, h4⟩, h5⟩ := h
   exact Qy he h1 (eq_of_beq h2) nd h3 (L2 h4 al rm kr) (fun a o => CM b _ _ _ _ h5 nd (U.pinAt a o) xc fa n C A Ac env al.pin rm he (by intro q; cases q))
  .cases h
 | .raise m => by
  intro k ns Γ st h nd U xc fa n C A Ac env al rm he kr
  unfold Ll at h
  split at h
  .rw [Ao] at h
   obtain ⟨rfl, hg⟩ := DR h.1
   obtain rfl := eq_of_beq h.2
   obtain ⟨Ce, D, fI, cd, rfl, ue⟩ := al.ue
   exact Ph ue rm hg
  .cases h
 | .bad => by
  intro k ns Γ st h nd U xc fa n C A Ac env al rm he kr
  exact Rp
theorem CM : ∀ ms : List (MS Fn), RT ms
 | [] => by
  intro k ns Γ st h nd U xc fa n C A Ac env al rm he kr
  cases st with
  | nil => exact P2
  | cons _ _ => cases h
 | m :: ms => by
  intro k ns Γ st h nd U xc fa n C A Ac env al rm he kr
  cases st with
  | nil => cases h
  | cons x r =>
   have h : (Ll k ns Γ m x && (QR m || Hh k ns Γ ms r)) = true := h
   rw [Ao, Bool.or_eq_true] at h
   rcases h.2 with h2 | h2
   .have hm : m = .bad := by cases m <;> first | rfl | cases h2
    subst hm
    exact Qc
   .exact Pa (NR m _ _ _ _ h.1 nd U xc fa n C A Ac env al rm he kr) (CM ms _ _ _ _ h2 nd U xc fa n C A Ac env al rm he kr)
end
def Γf (f : Fn) : List Str := (Oz f).map Str.ofString
def Hm (f : Fn) : Bool := decide ((Γf f).Nodup) && (Γf f).length == (prog f).vars && decide ((prog f).params <= (prog f).vars) && (prog f).dflt.all (fun v => decide (v = .none)) && decide ((prog f).dflt.length <= (prog f).params)
theorem KK (f : Fn) : Hm f = true := by cases f <;> decide +kernel
structure My (U : Un) (fa : Fn -> Addr) (f : Fn) : Prop where
 ex : ∃ oc od osl name qual params body scope dV kV doc pm an cdv ct, U.K.lookup (fa f) = some ⟨oc, od, .func (fnX name qual params body scope [] dV kV doc pm an cdv ct), osl⟩ /\ codeIn U.K cdv qual = true /\
  NY scope ((Γf f).take (prog f).params) /\ Hh false scope.names (Γf f) (prog f).body body = true /\
  ∀ s args, U.K.In s.heap -> args.length <= (prog f).params -> (prog f).params <= args.length + (prog f).dflt.length -> BindsTo s (fnX name qual params body scope [] dV kV doc pm an cdv ct) ⟨args, []⟩ (((Γf f).take (prog f).params).zip (args ++ List.replicate ((prog f).params - args.length) .none))
structure Txt (U : Un) (xc : Value) (fa : Fn -> Addr) (Ab : List Int) (bg : F8) : Prop where
 uf : UF U
 ug : UG U
 ub : UB U
 uc : UC U fa
 um : UM U fa
 bg : OK bg
 Ab : Ab = U.Ab
 gmx : ∃ t, nsIn U.K mainGlobals "MOST_LENGTH" = some (some (.int 1000000 t))
 ue : ∃ Ce D fI cd, xc = .ref Ce /\ UE U Ce D fI cd
 fns : ∀ f, MZ f = false -> My U fa f
section
variable {Ab : List Int} {bg : F8}
theorem Txt.pinned (h : Txt U xc fa Ab bg) (pin : Addr -> Option Obj) : Txt { U with pin := pin } xc fa Ab bg := by
 refine ⟨⟨fun c x hx => let ⟨p, q, r⟩ := h.uf.attr c x hx; ⟨p, q, r⟩, h.uf.dict, h.uf.seta, h.uf.over⟩, ?_, ⟨h.ub.blt, h.ub.cls⟩, ⟨h.uc.glo, h.uc.keep⟩, ⟨h.um.copyG, h.um.copyF, h.um.isFn, h.um.makes, h.um.init, h.um.high, h.um.keepC⟩, h.bg, h.Ab, h.gmx, ?_, fun f hf => ⟨(h.fns f hf).ex⟩⟩
 .have := h.ug; cases this; constructor <;> assumption
 .obtain ⟨a, b, c, d, e, f⟩ := h.ue
  refine ⟨a, b, c, d, e, ?_⟩
  cases f; constructor <;> assumption
theorem Ju : ∀ {Γ : List Str} {xs : List Value} {i : Nat} {x : Str} {v : Value}, Γ.Nodup -> Γ[i]? = some x -> xs[i]? = some v -> (Γ.zip xs).lookup x = some v
 | [], _, _, _, _, _, e, _ => by simp at e
 | _ :: _, [], _, _, _, _, _, e => by simp at e
 | y :: Γ, w :: xs, 0, x, v, _, e1, e2 => by
  simp only [List.getElem?_cons_zero, Option.some.injEq] at e1 e2
  subst e1 e2
  rw [List.zip_cons_cons, List.lookup_cons, beq_self_eq_true]
 | y :: Γ, w :: xs, i + 1, x, v, nd, e1, e2 => by
  rw [List.nodup_cons] at nd
  simp only [List.getElem?_cons_succ] at e1 e2
  have Ex : (x == y) = false := by
   refine beq_eq_false_iff_ne.mpr fun q => nd.1 ?_
   rw [<- q]; exact List.mem_of_getElem? e1
  rw [List.zip_cons_cons, List.lookup_cons, Ex]
  exact Ju nd.2 e1 e2
theorem DO.nones {sa : Addr} : ∀ {vs : List V}, (∀ v ∈ vs, v = .none) -> DO sa ρ vs (List.replicate vs.length .none)
 | [], _ => trivial
 | v :: vs, h => ⟨by rw [h v (.head _)]; rfl, DO.nones fun w hw => h w (.tail _ hw)⟩
theorem G6 {Γ : List Str} {xs : List Value} (h : xs.length = Γ.length) : (Γ.zip xs).map (·.1) = Γ := by
 induction Γ generalizing xs with
 | nil => rfl
 | cons y Γ ih => cases xs with
  | nil => cases h
  | cons w xs => rw [List.zip_cons_cons, List.map_cons, ih (by simpa using h)]
theorem Nd {X' : Fx} {Aj : PySem.Env} {vs : List V} {xs : List Value} {p q : Nat} (nd : Γ.Nodup) (hp : p <= Γ.length) (hv : DO U.sa ρ vs xs) (hl : vs.length = p) (hq : q = Γ.length)
  (ld : ∀ x v, ((Γ.take p).zip xs).lookup x = some v -> Ht X' Aj x v) : EO U X' ρ Aj Γ (vs.map some ++ List.replicate (q - p) Option.none) := by
 refine ⟨by simp [hl, hq]; omega, fun i v x h1 h2 h3 => ?_⟩
 have hi : i < vs.length := by
  by_cases hi : i < vs.length
  .exact hi
  .rw [List.getElem?_append_right (by simpa using hi), List.getElem?_replicate] at h1
   split at h1 <;> cases h1
 rw [List.getElem?_append_left (by simpa using hi), List.getElem?_map] at h1
 cases hvi : vs[i]? with
 | none => rw [hvi] at h1; cases h1
 | some w =>
  rw [hvi] at h1
  cases h1
  obtain ⟨y, hy, ry⟩ := hv.get hvi
  refine ⟨y, ry, ld x y (Ju (nd.sublist (List.take_sublist _ _)) (i := i) ?_ hy)⟩
  rw [List.getElem?_take, if_pos (by omega)]
  exact h2
theorem P1 (d : Nat) : ∀ U : Un, Txt U xc fa Ab bg -> Hx U xc fa d (Ee prog Ab bg initOf d) := by
 induction d with
 | zero =>
  intro U tx f A X Ac ρ H s vs vs' R hf cx x hv hp
  exact hp.elim
 | succ d ih =>
  intro U tx f A X Ac ρ H s vs vs' R hf cx x hv hp
  have sh := KK f
  unfold Hm at sh
  simp only [Ao, decide_eq_true_eq, List.all_eq_true] at sh
  obtain ⟨⟨⟨⟨nd, BN⟩, hpv⟩, hdf⟩, hdl⟩ := sh
  have BN := eq_of_beq BN
  rw [Ee] at hp
  by_cases hc : (vs ++ List.drop (vs.length + (prog f).dflt.length - (prog f).params) (prog f).dflt).length = (prog f).params /\ vs.length + (prog f).dflt.length ≥ (prog f).params
  .rw [if_pos hc] at hp
   obtain ⟨oc, od, osl, name, qual, params, body, scope, dV, kV, doc, pm, an, cdv, ct, hl, hcd, sc, EN, hb⟩ := (tx.fns f hf).ex
   have KI := cx.gf.K.keeps x.fr.keep
   have hvl := hv.length
   have hp' : vs.length <= (prog f).params := by have := hc.1; rw [List.length_append] at this; omega
   have hb' := hb s vs' KI (by rw [hvl]; exact hp') (by rw [hvl]; exact hc.2)
   have rm : DN A d (7 + 1) := ⟨by have := cx.hd; omega, by have := cx.hu; omega⟩
   have cxd : Cx U A X Ac d := ⟨cx.B, cx.hA, cx.hf, cx.hk, cx.hh, by have := cx.hd; omega, by have := cx.hu; omega, cx.gf⟩
   have dl : (List.drop (vs.length + (prog f).dflt.length - (prog f).params) (prog f).dflt).length = (prog f).params - vs'.length := by rw [hvl]; have := hc.1; rw [List.length_append] at this; omega
   have Ed : DO U.sa ρ (vs ++ List.drop (vs.length + (prog f).dflt.length - (prog f).params) (prog f).dflt) (vs' ++ List.replicate ((prog f).params - vs'.length) .none) := by
    refine hv.append ?_
    rw [<- dl]
    exact DO.nones fun v hm => hdf v (List.mem_of_mem_drop hm)
   have bn : (((Γf f).take (prog f).params).zip (vs' ++ List.replicate ((prog f).params - vs'.length) .none)).map (·.1) = (Γf f).take (prog f).params := by
    refine G6 ?_
    rw [List.length_append, List.length_replicate, List.length_take, BN]; omega
   refine QH (k := 7) (xc := xc) cxd rm x (by rw [bn]; exact sc) (KI _ _ hl) rfl (codeRec_of KI hcd) hb' fun X' h₁ tk Aj CF hex hbase C7 rm' sx' x' ld => ?_
   have al : Al U xc fa d { Ab := Ab, bg := bg, initOf := initOf, call := Ee prog Ab bg initOf d } :=
    ⟨tx.uf, tx.ug, tx.ub, tx.uc, tx.um, tx.bg, tx.Ab, rfl, tx.gmx, fun pin => ih _ (tx.pinned pin), tx.ue⟩
   refine CM (prog f).body false scope.names (Γf f) body EN nd U xc fa d _ (A.deeper Aj) Aj Aj al ⟨by have := rm'.1; omega, by have := rm'.2; omega⟩ rfl (by intro q; cases q) X' ρ H _ _ _ _ sx' x' (Nd nd (by rw [BN]; exact hpv) Ed hc.1 BN.symm ld) ?_
   unfold bnd at hp
   cases e : Ae { Ab := Ab, bg := bg, initOf := initOf, call := Ee prog Ab bg initOf d } (prog f).body ((vs ++ List.drop (vs.length + (prog f).dflt.length - (prog f).params) (prog f).dflt).map some ++ List.replicate ((prog f).vars - (prog f).params) Option.none) H with
   | bad => rw [e] at hp; exact hp
   | exc m H1 =>
    rw [e] at hp
    exact fun X'' ρ' e' h' C3 sm l x2 => ⟨X'', ρ', H1, m, e', rfl, sm, x2, fun h'' x3 => hp ρ' e' h'' C3 l x3⟩
   | ok r H1 =>
    rw [e] at hp
    obtain ⟨vs2, fl⟩ := r
    intro X'' ρ' h' C3 sm sxx l F eo2
    have sub : (X.withEx X.ex).px.Sublist X''.ex := by rw [sm.ex, hex]; exact List.Sublist.refl _
    cases fl with
    | none => exact ⟨X'', X.ex, ρ', H1, .none, sm.G, sub, F, rfl, fun FX => hp ρ' .none h' C3 l FX rfl⟩
    | some v => exact fun v' r => ⟨X'', X.ex, ρ', H1, v', sm.G, sub, F, rfl, fun FX => hp ρ' v' h' C3 l FX r⟩
  .rw [if_neg hc] at hp; exact hp.elim
end
theorem JZ {q : Pos} {a b : Int} {c cv : Value} : ∀ {l : List Value}, TriplesOk l -> codeAmong q (l ++ [rawInt a, rawInt b, c]) = some cv -> codeAmong q l = some cv \/ cv = c := by
 intro l h
 fun_induction TriplesOk l with
 | case1 =>
  intro e
  simp only [List.nil_append, codeAmong, rawInt] at e
  split at e
  .exact .inr (Option.some.inj e).symm
  .cases e
 | case2 x t y u z rest ih =>
  intro e
  simp only [List.cons_append, codeAmong] at e ⊢
  split at e
  .rename_i q; rw [if_pos q]; exact .inl e
  .rename_i q; rw [if_neg q]; exact ih h e
 | case3 => exact h.elim
section
variable {lp : Pos} {c : Addr} {params : Arguments} {body : PySem.Expr} {sc : Scope}
structure Jv (ns : Ft) (Γ : List Str) (params : Arguments) (sc : Scope) : Prop where
 ps : params = ⟨[], [], none, [], [], none, []⟩
 kind : sc.kind = .function
 co : sc.isCoroutine = false
 gen : sc.isGenerator = false
 all : ∀ p ∈ sc.names, (p.2 = .free /\ ns.lookup p.1 = some .cell /\ p.1 ∈ Γ) \/ p.2 = .globalImplicit
theorem Ps (h : MY ns Γ params sc = true) : Jv ns Γ params sc := by
 unfold MY at h
 simp only [Ao, Bool.not_eq_true', List.all_eq_true, List.isEmpty_iff, Option.isNone_iff_eq_none, beq_iff_eq] at h
 obtain ⟨⟨⟨⟨⟨⟨⟨⟨⟨⟨h1, h2⟩, h3⟩, h4⟩, h5⟩, h6⟩, h7⟩, h8⟩, h9⟩, h10⟩, h11⟩ := h
 obtain ⟨a1, a2, a3, a4, a5, a6, a7⟩ := params
 dsimp only at h1 h2 h3 h4 h5 h6 h7
 subst h1 h2 h3 h4 h5 h6 h7
 refine ⟨rfl, h8, h9, h10, fun p hp => ?_⟩
 have := h11 p hp
 obtain ⟨x, k⟩ := p
 dsimp only at this ⊢
 cases k <;> simp only [Ao, beq_iff_eq, List.contains_iff_mem] at this
 all_goals first | exact .inr rfl | exact .inl ⟨rfl, this⟩ | cases this
theorem Jv.cells (k : Jv ns Γ params sc) (ek : AZ X Ac env ns) : ∀ p ∈ sc.names, p.2 = .free -> (env.cells.lookup p.1).isSome = true := fun p hp e => by
 rcases k.all p hp with ⟨_, h, _⟩ | h
 .refine ek.hc p.1 (.inl ?_)
  unfold PySem.Env.kindOf
  rw [ek.names]; exact h
 .rw [h] at e; cases e
theorem FS.tab {Pn : Addr} (x : Bc U X ρ H h) (h0 : H[0]? = some .tab) (hPn : U.tabA = Pn) :
  ∃ ps codes, h.get? Pn = some (tabObj ps) /\ X.G.get? Pn = none /\ Pn ≠ X.L /\ TriplesOk ps.toList /\ KS ps.toList codes /\ (∀ q ∈ codes, h.get? q.1 = some q.2) /\
  ∀ f o ps' new h', (∀ b o, b ≠ Pn -> h.get? b = some o -> h'.get? b = some o) -> h'.get? Pn = some (tabObj ps') -> TriplesOk ps'.toList -> KS ps'.toList (new ++ codes) ->
   (∀ q ∈ new, h.objs.size <= q.1 /\ q.1 < f /\ h'.get? q.1 = some q.2) -> B4 new -> h.objs.size <= f -> h'.get? f = some o -> Bc U (X.withEx ((f, o) :: X.ex)) ρ H h' := by
 obtain ⟨F, ps, p, N, D, lo⟩ := x
 obtain ⟨a, l, pre, post, e1, e2, ⟨pt, codes, rfl, ea, tok, cin⟩, back⟩ := p.at h0
 subst e2
 obtain rfl : Pn = a.1 := hPn.symm.trans ea.symm
 have hH : H.set 0 .tab = H := by
  cases H with
  | nil => rfl
  | cons c r => simp only [List.getElem?_cons_zero, Option.some.injEq] at h0; rw [h0]; rfl
 have back := fun l' z => hH ▸ back .tab l' z
 have mem : ∀ q ∈ (a.1, tabObj pt) :: codes, q ∈ X.px ++ (pre ++ ((a.1, tabObj pt) :: codes) :: post).flatten := fun q hq => by
  refine DK _ ?_
  rw [List.flatten_append, List.flatten_cons]
  exact DK _ (DW _ hq)
 have NP := N _ (mem _ (.head _))
 refine ⟨pt, codes, NP.1, NP.2.2, NP.2.1, tok, cin, fun q hq => (N q (mem q (.tail _ hq))).1, fun f o ps' new h' k1 k2 t' c' hn dn hf ho => ?_⟩
 have hs : ∀ q ∈ X.px ++ (pre ++ ((a.1, tabObj pt) :: codes) :: post).flatten, q.1 < h.objs.size := fun q hq => Heap.lt_size (N q hq).1
 have hLs : X.L < h.objs.size := F.ns.lt
 have fresh : ∀ b, h.objs.size <= b -> X.G.get? b = none := fun b hb => Heap.get?_none_of_le (Nat.le_trans F.above (Nat.le_trans (Nat.le_of_lt hLs) hb))
 refine ⟨⟨F.ns.extBut (fun b o hb q => k1 b o hb q) (Ne.symm NP.2.1), fun b o q => k1 b o (fun z => ?_) (F.keep b o q), F.above⟩, pre ++ ((a.1, tabObj ps') :: (new ++ codes)) :: post, back _ ⟨ps', new ++ codes, rfl, ea, t', c'⟩, ?_, ?_, ?_⟩
 .rw [z, NP.2.2] at q; cases q
 .have w0 : X.px ++ (pre ++ ((a.1, tabObj pt) :: codes) :: post).flatten = (X.px ++ pre.flatten) ++ (a.1, tabObj pt) :: (codes ++ post.flatten) := by simp
  rw [w0] at N D
  intro q hq
  have hq' : q = (f, o) \/ q = (a.1, tabObj ps') \/ q ∈ new \/ (q ∈ X.px ++ pre.flatten \/ q ∈ codes ++ post.flatten) := by
   simp only [Fx.px, List.flatten_append, List.flatten_cons, List.mem_append, List.mem_cons] at hq ⊢
   rcases hq with (h | h | h) | h | (h | h | h) | h
   .exact .inr (.inr (.inr (.inl (.inl (.inl h)))))
   .exact .inl h
   .exact .inr (.inr (.inr (.inl (.inl (.inr h)))))
   .exact .inr (.inr (.inr (.inl (.inr h))))
   .exact .inr (.inl h)
   .exact .inr (.inr (.inl h))
   .exact .inr (.inr (.inr (.inr (.inl h))))
   .exact .inr (.inr (.inr (.inr (.inr h))))
  have apart : ∀ q, q ∈ X.px ++ pre.flatten \/ q ∈ codes ++ post.flatten -> q.1 ≠ a.1 := by
   have d := Cj List.perm_middle D
   unfold B4 at d
   rw [List.map_cons, List.nodup_cons] at d
   intro q hq z
   refine d.1 (List.mem_map.mpr ⟨q, ?_, z⟩)
   exact List.mem_append.mpr hq
  rcases hq' with rfl | rfl | h | h
  .exact ⟨ho, Nat.ne_of_gt (Nat.lt_of_lt_of_le hLs hf), fresh _ hf⟩
  .exact ⟨k2, NP.2⟩
  .have := hn q h
   exact ⟨this.2.2, Nat.ne_of_gt (Nat.lt_of_lt_of_le hLs this.1), fresh _ this.1⟩
  .have y := N q (by
    rcases h with h | h
    .exact DW _ h
    .exact DK _ (.tail _ h))
   exact ⟨k1 _ _ (apart q h) y.1, y.2⟩
 .have pm : ((X.withEx ((f, o) :: X.ex)).px ++ (pre ++ ((a.1, tabObj ps') :: (new ++ codes)) :: post).flatten).Perm ((f, o) :: new ++ (X.px ++ (pre ++ ((a.1, tabObj ps') :: codes) :: post).flatten)) := by
   have e1 : (X.withEx ((f, o) :: X.ex)).px ++ (pre ++ ((a.1, tabObj ps') :: (new ++ codes)) :: post).flatten = X.own ++ (f, o) :: ((X.ex ++ pre.flatten ++ [(a.1, tabObj ps')]) ++ new ++ (codes ++ post.flatten)) := by simp [Fx.px]
   have e2 : (f, o) :: new ++ (X.px ++ (pre ++ ((a.1, tabObj ps') :: codes) :: post).flatten) = (f, o) :: (new ++ (X.own ++ (X.ex ++ pre.flatten ++ [(a.1, tabObj ps')])) ++ (codes ++ post.flatten)) := by simp [Fx.px]
   rw [e1, e2]
   refine List.perm_middle.trans (List.Perm.cons _ ?_)
   have := (List.perm_append_comm (l₁ := X.own ++ (X.ex ++ pre.flatten ++ [(a.1, tabObj ps')])) (l₂ := new)).append_right (codes ++ post.flatten)
   simpa only [List.append_assoc] using this
  refine Cj pm.symm ?_
  have D' : B4 (X.px ++ (pre ++ ((a.1, tabObj ps') :: codes) :: post).flatten) := by
   unfold B4 at D ⊢
   simpa using D
  have hs' : ∀ q ∈ X.px ++ (pre ++ ((a.1, tabObj ps') :: codes) :: post).flatten, q.1 < h.objs.size := fun q hq => by
   have : q.1 ∈ (X.px ++ (pre ++ ((a.1, tabObj pt) :: codes) :: post).flatten).map (·.1) := by
    have := List.mem_map_of_mem (f := (·.1)) hq
    simpa using this
   obtain ⟨r, hr, e⟩ := List.mem_map.mp this
   rw [<- e]; exact hs r hr
  refine Hc D' ?_ fun p hp q hq => ?_
  .unfold B4 at dn ⊢
   rw [List.map_cons, List.nodup_cons]
   refine ⟨fun hm => ?_, dn⟩
   obtain ⟨r, hr, e⟩ := List.mem_map.mp hm
   exact Nat.lt_irrefl _ (Nat.lt_of_lt_of_eq (hn r hr).2.1 e.symm)
  .rcases List.mem_cons.mp hp with rfl | hp
   .exact Nat.lt_of_lt_of_le (hs' q hq) hf
   .exact Nat.lt_of_lt_of_le (hs' q hq) (hn p hp).1
 .intro q hq
  simp only [List.flatten_append, List.flatten_cons, List.mem_append, List.mem_cons] at hq
  have hP3 : 3 < a.1 := lo (a.1, tabObj pt) (by simp)
  rcases hq with h | (rfl | h | h) | h
  .exact lo q (by simp [h])
  .exact hP3
  .exact Nat.lt_of_lt_of_le hP3 (Nat.le_trans (Nat.le_of_lt (hs _ (mem _ (.head _)))) (hn q h).1)
  .exact lo q (by simp [h])
  .exact lo q (by simp [h])
theorem Pd {Q : Value -> Shared -> Prop} (cx : Cx U A X Ac n) (ek : AZ X Ac env ns) (hcode : env.code = .ref c) (hCd : CodeHd X.G c U.tabA) (hq : env.qual ++ "<lambda>" = Di) (x : Bc U X ρ H s.heap) (h0 : H[0]? = some .tab) (k : Jv ns Γ params sc)
  (h : ∀ f pm c' ctv h' tk, Bc U (X.withEx ((f, kla_obj "<lambda>" Di params body sc (BU env.cells sc.names []) pm c' ctv) :: X.ex)) ρ H h' -> h'.CodeRec (.ref c') Di -> Q (.ref f) { s with heap := h', toks := tk }) :
  wpAny (model U.prog U.w) A (eval (.Lambda params body sc lp) env) Q E s := by
 refine kla_eval (by rw [k.ps]; rfl) ?_
 rw [hq]
 have T := cx.gf.T
 have F := x.fr
 obtain ⟨ps, codes, g1, g2, g3, tok, cin, gc, re⟩ := FS.tab x h0 rfl
 have hgs := T.g.keeps F.keep
 obtain ⟨bm, ob, b1, b2, b3, b4, b5, b6⟩ := T.bmain
 have hgP : mainGlobals ≠ U.tabA := fun q => by
  obtain ⟨o, es, ep, e, hd, _⟩ := hgs
  rw [q, g1] at e; cases e; cases hd
 have hbP : bm ≠ U.tabA := fun q => by
  have e := F.keep _ _ b3
  rw [q, g1] at e; cases e; cases b4
 have hbG : bm ≠ mainGlobals := fun q => by
  obtain ⟨o, es, ep, e, hd, _⟩ := T.g
  rw [q, e] at b3; cases b3; rw [hd] at b6; cases b6
 cases hf : codeAmong lp ps.toList with
 | none =>
  refine kla_makeFunction (mg := U.mg) (C0 (k.cells ek)) ek.glo hgs hcode (hCd.keeps F.keep) g1 tok hf hgP ⟨bm, ob, b1, b2, hbG, hbP, F.keep _ _ b3, b4, b5, b6⟩ fun c' ctv h' tk hx hge CV hrec htb => ?_
  obtain ⟨c₂, oc, vs, t, e2, hoc, hd, hv⟩ := hrec
  cases e2
  have hp : ∀ b o, h'.get? b = some o -> (h'.push (kla_obj "<lambda>" Di params body sc (BU env.cells sc.names []) ((U.mg "__name__").getD .none) c' ctv)).get? b = some o := fun b o e => DT _ e
  refine h _ _ c' ctv _ tk (re _ _ _ [(c', oc)] _ (fun b o hb e => hp b o (hx b o hb e)) (hp _ _ htb) ?_ ?_ ?_ ?_ (Nat.le_of_lt (Nat.lt_of_le_of_lt hge CV)) (Heap.get?_push_size _ rfl)) ⟨c', oc, vs, t, rfl, hp _ _ hoc, hd, hv⟩
  .rw [Array.toList_append]; exact TriplesOk_snoc _ _ _ _ tok
  .intro q cv e
   rw [Array.toList_append] at e
   rcases JZ tok e with e | rfl
   .obtain ⟨a, b, c, d, e1, e2, e3⟩ := cin q cv e
    exact ⟨a, b, c, d, e1, .tail _ e2, e3⟩
   .exact ⟨c', oc, vs, t, rfl, .head _, hd, hv⟩
  .intro q hq
   rcases List.mem_singleton.mp hq with rfl
   exact ⟨hge, CV, hp _ _ hoc⟩
  .exact List.nodup_cons.mpr ⟨by simp, List.nodup_nil⟩
 | some cv =>
  obtain ⟨c', oc, vs, t, rfl, hm, hd, hv⟩ := cin lp cv hf
  refine kla_makeFunctionHit (mg := U.mg) (C0 (k.cells ek)) ek.glo hgs hcode (hCd.keeps F.keep) g1 tok hf ⟨bm, ob, b1, b2, hbG, hbP, F.keep _ _ b3, b4, b5, b6⟩ fun ctv h' tk hk hsz => ?_
  have hp : ∀ b o, s.heap.get? b = some o -> (h'.push (kla_obj "<lambda>" Di params body sc (BU env.cells sc.names []) ((U.mg "__name__").getD .none) c' ctv)).get? b = some o := fun b o e => DT _ (hk b o e)
  refine h _ _ c' ctv _ tk (re _ _ ps [] _ (fun b o _ e => hp b o e) (hp _ _ g1) tok (by simpa using cin) (by intro q hq; cases hq) List.nodup_nil hsz (Heap.get?_push_size _ rfl)) ⟨c', oc, vs, t, rfl, hp _ _ (gc _ hm), hd, hv⟩
end
section
variable {X0 : Fx} {lenv lf : PySem.Env} {lp : Pos} {c : Addr} {params : Arguments} {body : PySem.Expr} {sc : Scope} {R : Result -> Shared -> Prop}
theorem Co {l : Ft} {x : Str} {k : NameKind} (e : l.lookup x = some k) : (x, k) ∈ l := by
 induction l with
 | nil => cases e
 | cons p r ih =>
  rw [List.lookup_cons] at e
  cases q : x == p.1 with
  | true => rw [q] at e; cases e; rw [eq_of_beq q]; exact .head _
  | false => rw [q] at e; exact .tail _ (ih e)
theorem Jv.lk (k : Jv ns Γ params sc) {x : Str} (h : sc.names.lookup x = some .local \/ sc.names.lookup x = some .cell \/ sc.names.lookup x = some .free) : sc.names.lookup x = some .free /\ ns.lookup x = some .cell := by
 rcases h with h | h | h
 .rcases k.all _ (Co h) with ⟨e, _⟩ | e <;> cases e
 .rcases k.all _ (Co h) with ⟨e, _⟩ | e <;> cases e
 .rcases k.all _ (Co h) with ⟨_, e, _⟩ | e
  .exact ⟨h, e⟩
  .cases e
theorem O0 {m : ME Fn} {f c' : Addr} {pm ctv : Value} (cx : Cx U A X Ac n) (hr : DN A n 2) (x : Bc U X ρ H s.heap) (k : Jv ns Γ params sc) (lek : AZ X0 lf lenv ns) (eo : EO U X0 ρ lenv Γ vs) (hsub : ∀ p ∈ X0.px, p ∈ X.px)
  (ho : (f, kla_obj "<lambda>" Di params body sc (BU lenv.cells sc.names []) pm c' ctv) ∈ X.px) (hcd : s.heap.CodeRec (.ref c') Di)
  (hse : ∀ A' X' Aj, Cx U A' X' Aj n -> DN A' n 1 -> AZ X' Aj Aj sc.names -> SE U xc C A' X' Aj Γ m body)
  (hp : Ay (AP U) U xc X ρ (Aa C m vs H) (fun v s' => R (.ok (.ret v)) s') (fun e s' => R (.error e) s') s) :
  codeAny (model U.prog U.w) A (.call (.ref f) ⟨[], []⟩) R s := by
 obtain ⟨A₀, outer, B, hl⟩ := cx.B
 have hA := cx.hA
 obtain ⟨F, ps, p, N, D, lo⟩ := x
 have hA' := hA
 rw [hl] at hA'
 refine kla_code (binds := []) (news := X.px ++ ps.flatten) B F cx.gf.K N cx.gf.T hA' cx.hf cx.hk (DW _ ho) hcd (by have := cx.hd; omega) (by rw [k.ps]; rfl) (by intro y hy; cases hy) (fun g L' h₁ FG F' N' BG _ _ => ?_) k.co k.gen k.kind ?_
 .generalize CF : envX Di sc L' f (.ref c') (BU lenv.cells sc.names []) = Aj
  let X' : Fx := { G := g, L := L', m := fun y => ([] : List (Str × Value)).reverse.lookup y, own := [], ex := X.px, base := X.base, l := Aj :: X.l }
  have hcells : Aj.cells = BU lenv.cells sc.names [] := by rw [<- CF]
  have hnames : Aj.scope.names = sc.names := by rw [<- CF]
  have hkd : ∀ y, Aj.kindOf y = sc.names.lookup y := fun y => by unfold PySem.Env.kindOf; rw [hnames]
  have hlk : ∀ y, sc.names.lookup y = some .free -> (BU lenv.cells sc.names []).lookup y = lenv.cells.lookup y /\ (lenv.cells.lookup y).isSome = true := fun y hy =>
   ⟨CX _ _ (k.cells lek) (.inl (Co hy)) (.inl rfl), k.cells lek _ (Co hy) rfl⟩
  have gf' : GF U g := cx.gf.keeps FG.keep
  have hdp : (A.deeper Aj).depth = A.depth + 1 := rfl
  have hun : (A.deeper Aj).units = A.units + 3 := rfl
  have cx' : Cx U (A.deeper Aj) X' Aj n := by
   refine ⟨⟨A, X.l, ?_, rfl⟩, PySem.Around.frames_deeper hA, by rw [<- CF], by rw [<- CF]; exact k.kind, cx.hh, ?_, ?_, gf'⟩
   .show Below A X.base X.l g
    rw [hl]; exact BG
   .rw [hdp]; have := hr.1; omega
   .rw [hun]; have := hr.2; omega
  have rm : DN (A.deeper Aj) n 1 := by
   constructor
   .rw [hdp]; have := hr.1; omega
   .rw [hun]; have := hr.2; omega
  have ek' : AZ X' Aj Aj sc.names := by
   refine ⟨hnames, by rw [<- CF]; exact k.kind, by rw [<- CF], by rw [<- CF], by rw [<- CF], fun y hy => ?_⟩
   rw [hcells]
   rw [hkd] at hy
   have hy' := (k.lk (.inr hy)).1
   rw [(hlk y hy').1]; exact (hlk y hy').2
  have eo' : EO U X' ρ Aj Γ vs := by
   refine ⟨eo.len, fun i v y h1 h2 h3 => ?_⟩
   rw [hkd] at h3
   have h4 : sc.names.lookup y = some .local \/ sc.names.lookup y = some .cell \/ sc.names.lookup y = some .free := by
    unfold Se at h3
    split at h3
    .rename_i e; exact .inl e
    .rename_i e; exact .inr (.inl e)
    .rename_i e; exact .inr (.inr e)
    .cases h3
   obtain ⟨hf, hn⟩ := k.lk h4
   have hlk' : lenv.kindOf y = some .cell := by unfold PySem.Env.kindOf; rw [lek.names]; exact hn
   obtain ⟨z, hz, lz⟩ := eo.get i v y h1 h2 (by rw [hlk']; rfl)
   refine ⟨z, hz, ?_⟩
   rcases lz with ⟨e, _⟩ | ⟨_, cc, o, b1, b2, b3⟩ | ⟨e, _⟩
   .rw [hlk'] at e; cases e
   .refine .inr (.inl ⟨.inr ((hkd y).trans hf), cc, o, ?_, ?_, b3⟩)
    .rw [hcells, (hlk y hf).1]; exact b1
    .exact DK _ (hsub _ b2)
   .rw [hlk'] at e; cases e
  have x' : Bc U X' ρ H h₁ := ⟨F', ps, p, N', D, lo⟩
  refine hse _ X' Aj cx' rm ek' ρ H _ vs _ _ x' eo' ?_
  unfold Ay at hp ⊢
  cases e : Aa C m vs H with
  | bad => rw [e] at hp; exact hp
  | ok v H1 =>
   rw [e] at hp
   intro ρ2 v' h2 tk2 l2 F2 r2
   obtain ⟨Fr2, ps2, p2, N2, D2, lo2⟩ := F2
   refine leaveK_ (L' := X'.L) (m' := X'.m) Fr2 N2 fun FX NX => ?_
   exact hp ρ2 v' h2 tk2 l2 ⟨FX, ps2, p2, NX, D2, lo2⟩ r2
  | exc msg H1 =>
   rw [e] at hp
   intro ρ2 e2 h2 tk2 l2 E2
   obtain ⟨ps2, h₂, p2, D2, lo2, st2, Fr2, u2⟩ := E2
   refine Jy (env := Aj) (outer := X.l) (PySem.Around.frames_deeper hA) (by rw [<- CF]) st2 X.L fun h'' k1 k2 => hp ρ2 e2 h'' tk2 l2 ?_
   exact ⟨ps2, g, p2, D2, lo2, k1, FG, ((Heap.UpToSlots.of_keeps Fr2.keep).trans u2).trans k2⟩
 .intro y hy e
  rcases k.all y hy with ⟨q, _⟩ | q <;> rw [q] at e <;> cases e
end
structure Mm (B : Heap) (L L₁ : Addr) (mL m1 : Str -> Option Value) (cls : Value) (e d : Addr) (h : Heap) : Prop where
 nsL : h.Ns L mL
 ns1 : h.Ns L₁ m1
 st : B.StaysIn h
 eo : ∃ oe vs, h.get? e = some oe /\ oe.cls = cls /\ oe.dict = some d /\ oe.data = .fields vs /\
  (vs[1]? = some .none \/ ∃ T oT ts, vs[1]? = some (.ref T) /\ B.get? T = none /\ T ≠ e /\ h.get? T = some oT /\ oT.data = .fields ts /\ 3 < ts.size)
section
variable {M : Model} {B : Heap} {L L₁ e d : Addr} {mL m1 : Str -> Option Value} {cls : Value}
theorem Mm.flight (x : Mm B L L₁ mL m1 cls e d s.heap) {Q : Unit -> Shared -> Prop} (hQ : ∀ h', Mm B L L₁ mL m1 cls e d h' -> Q () { s with heap := h' }) : wpAny M A (setFlight (.ref e) none) Q E s := by
 obtain ⟨a1, a2, a3, oe, vs, h1, h2, h3, h4, h6⟩ := x
 unfold setFlight
 rcases h6 with h6 | ⟨T, oT, ts, h6, h7, h8, h9, h10, h11⟩
 .refine Az (wpAny_field h1 h4 h6 ?_)
  rw [if_neg (by decide)]
  exact BW (hQ s.heap ⟨a1, a2, a3, oe, vs, h1, h2, h3, h4, .inl h6⟩)
 .refine Az (wpAny_field h1 h4 h6 ?_)
  rw [if_pos (show (Value.ref T != Value.none) = true from by simp)]
  have other : ∀ b, b ≠ T -> (s.heap.update T (Obj.mapFields (·.setIfInBounds 3 (((none : Option Addr).elim Value.none fun f => rawInt f))))).get? b = s.heap.get? b := fun b hb => Heap.get?_update_other _ _ (Ne.symm hb)
  have ns : ∀ {a : Addr} {m : Str -> Option Value}, s.heap.Ns a m -> a ≠ T := fun hn q => by
   obtain ⟨o, es, ep, ho, hd, _⟩ := hn
   rw [q, h9] at ho; cases ho
   rw [h10] at hd; cases hd
  refine wpAny_setField h9 h10 h11 (hQ _ ⟨?_, ?_, ?_, oe, vs, (other e (Ne.symm h8)).trans h1, h2, h3, h4, .inr ⟨T, _, _, h6, h7, h8, Heap.get?_update_self _ h9 (Obj.isFreed_of_fields (Obj.data_mapFields h10 _)), Obj.data_mapFields h10 _, by simpa using h11⟩⟩)
  .obtain ⟨o, es, ep, ho, r⟩ := a1
   exact ⟨o, es, ep, (other _ (ns ⟨o, es, ep, ho, r⟩)).trans ho, r⟩
  .obtain ⟨o, es, ep, ho, r⟩ := a2
   exact ⟨o, es, ep, (other _ (ns ⟨o, es, ep, ho, r⟩)).trans ho, r⟩
  .exact fun b o hb => (other b fun q => by rw [q, h7] at hb; cases hb).trans (a3 b o hb)
theorem Mm.over {h h' : Heap} {m1' : Str -> Option Value} (x : Mm B L L₁ mL m1 cls e d h) (hL : L ≠ L₁) (hB : B.get? L₁ = none) (hn : h'.Ns L₁ m1') (hs : Heap.SameBut L₁ h h') : Mm B L L₁ mL m1' cls e d h' := by
 obtain ⟨a1, a2, a3, oe, vs, h1, h2, h3, h4, h6⟩ := x
 have nd : ∀ {a : Addr} {o : Obj} {vs : Array Value}, h.get? a = some o -> o.data = .fields vs -> a ≠ L₁ := fun ho hd q => by
  obtain ⟨o, es, ep, ho', hd', _⟩ := a2
  rw [q, ho'] at ho; cases ho
  rw [hd'] at hd; cases hd
 refine ⟨?_, hn, fun b o hb => hs.extBut b o (fun q => by rw [q, hB] at hb; cases hb) (a3 b o hb), oe, vs, hs.extBut _ _ (nd h1 h4) h1, h2, h3, h4, ?_⟩
 .exact a1.extBut hs.extBut hL
 .rcases h6 with h6 | ⟨T, oT, ts, h6, h7, h8, h9, h10, h11⟩
  .exact .inl h6
  .exact .inr ⟨T, oT, ts, h6, h7, h8, hs.extBut _ _ (nd h9 h10) h9, h10, h11⟩
theorem Qk {base : Heap} {l : List PySem.Env} {h h₂ : Heap} {msg : Nat} {news : List (Addr × Obj)} (x : Fl cls base l L₁ e msg news h) (hl : L₁ ∈ l.filterMap (·.frame)) (hl2 : L ∈ l.filterMap (·.frame)) (nL : h₂.Ns L mL) (n1 : h₂.Ns L₁ m1) (u : h₂.UpToSlots h) :
  ∃ B d es n t, base.StaysIn B /\ (∀ q ∈ news, B.get? q.1 = some q.2 /\ base.get? q.1 = none) /\ B.get? L₁ = none /\ B.get? L = none /\ B.get? d = some (W.dictOf es n) /\ getL "message" es = some (some (.str (wd msg) t)) /\ Mm B L L₁ mL m1 cls e d h := by
 obtain ⟨B, d, es, n, t, b1, b2, b3, b4, b5, ⟨oe, vs, h1, h2, h3, h4, h5, h6⟩, b7, b8⟩ := x
 refine ⟨B, d, es, n, t, b1, b2, (b5.mem hl).1, (b5.mem hl2).1, b7, b8, u.ns nL, u.ns n1, b3, oe, vs, h1, h2, h3, h4, ?_⟩
 rcases h6 with h6 | ⟨T, oT, ts, h6, h7, h8, h9, h10, h11⟩
 .exact .inl h6
 .refine .inr ⟨T, oT, ts, h6, h7, h8, h9, h10, ?_⟩
  rcases h11 with h | h <;> exact (Array.getElem?_eq_some_iff.mp h).1
end
abbrev FP (p1 p2 p3 p4 p5 p6 p7 p8 p9 : Pos) : List Stmt :=
 [.Try [.Return (some (.Call (.Name "ask" p1) [] [] p2)) p3] [.ExceptHandler (some (.Name "Refusal" p4)) (some "error") [.Return (some (.Attribute (.Name "error" p5) "message" p6)) p7] p8] [] [] p9]
structure UK (U : Un) (fK : Addr) : Prop where
 name : nsIn U.K mainGlobals "_law_kept" = some (some (.ref fK))
 keep : keepIn U.K (.ref fK) = true
 fn : ∃ oc od osl name qual params scope dV kV doc pm an cdv ct p1 p2 p3 p4 p5 p6 p7 p8 p9, U.K.lookup fK = some ⟨oc, od, .func (fnX name qual params (FP p1 p2 p3 p4 p5 p6 p7 p8 p9) scope [] dV kV doc pm an cdv ct), osl⟩ /\
  codeIn U.K cdv qual = true /\ scope.kind = .function /\ scope.isCoroutine = false /\ scope.isGenerator = false /\ (∀ x ∈ scope.names, x.2 ≠ .cell) /\ scope.names.lookup ("ask" : Str) = some .local /\ scope.names.lookup ("error" : Str) = some .local /\ scope.names.lookup ("Refusal" : Str) = some .globalImplicit /\
  ∀ s a, U.K.In s.heap -> BindsTo s (fnX name qual params (FP p1 p2 p3 p4 p5 p6 p7 p8 p9) scope [] dV kV doc pm an cdv ct) ⟨[a], []⟩ [("ask", a)]
section
variable {Ce D fI fK f : Addr} {cd : ClassData} {R : Result -> Shared -> Prop} {r : Mine.R V} {o : Obj}
def Ov : Mine.R V -> Mine.R V
 | .exc e H' => .ok (.w e) H'
 | r => r
theorem Cx.framesIn (cx : Cx U A X Ac n) : X.L ∈ X.l.filterMap (·.frame) := by
 obtain ⟨A₀, outer, _, hl⟩ := cx.B
 rw [hl]
 exact List.mem_filterMap.mpr ⟨Ac, .head _, cx.hf⟩
theorem Ms (uk : UK U fK) (ue : UE U Ce D fI cd) (cx : Cx U A X Ac n) (hr : DN A n 3) (hb : X.base = X.G) (x : Bc U (X.withEx ((f, o) :: X.ex)) ρ H s.heap) (hfo : ∃ fd, o.data = .func fd)
  (hrun : ∀ A₁ X₁ env₁ h₁ tk R', Cx U A₁ X₁ env₁ n -> DN A₁ n 2 -> X₁.px = X.own ++ (f, o) :: X.ex -> (∀ b o, s.heap.get? b = some o -> h₁.get? b = some o) -> Bc U X₁ ρ H h₁ ->
   Ay (AP U) U (.ref Ce) X₁ ρ r (fun v s' => R' (.ok (.ret v)) s') (fun e s' => R' (.error e) s') { s with heap := h₁, toks := tk } -> codeAny (model U.prog U.w) A₁ (.call (.ref f) ⟨[], []⟩) R' { s with heap := h₁, toks := tk })
  (hp : Ay (AP U) U (.ref Ce) X ρ (Ov r) (fun v s' => R (.ok (.ret v)) s') (fun e s' => R (.error e) s') s) :
  codeAny (model U.prog U.w) A (.call (.ref fK) ⟨[.ref f], []⟩) R s := by
 obtain ⟨A₀, outer, B, hl⟩ := cx.B
 have hA := cx.hA
 obtain ⟨oc, od, osl, name, qual, params, scope, dV, kV, doc, pm, an, cdv, ct, p1, p2, p3, p4, p5, p6, p7, p8, p9, hfn, hcd, sk, sco, sgen, scell, sask, serr, sref, bind⟩ := uk.fn
 have KI := cx.gf.K.keeps x.fr.keep
 obtain ⟨F, ps, p, N, D', lo⟩ := x
 have hA' := hA
 rw [hl] at hA'
 obtain ⟨FG, BG, st, lv⟩ := groundX (R := R) (news := (X.withEx ((f, o) :: X.ex)).px ++ ps.flatten) B F N hA' cx.hf cx.hk
 have hgf : s.heap.get? f = some o := (N (f, o) (by simp [Fx.px])).1
 refine codeAny_call_def (fd := fnX name qual params (FP p1 p2 p3 p4 p5 p6 p7 p8 p9) scope [] dV kV doc pm an cdv ct) (body := FP p1 p2 p3 p4 p5 p6 p7 p8 p9) (binds := [("ask", .ref f)]) (by have := cx.hd; omega) (KI _ _ hfn) rfl (cx.gf.nolimit.keeps F.keep) (codeRec_of KI hcd) rfl (bind _ _ KI) scell (by intro y hy; rcases List.mem_singleton.mp hy with rfl; exact sask) (fun h₁ Eg hk₁ => ?_) sco sgen sk
 generalize CF : callEnv (fnX name qual params (FP p1 p2 p3 p4 p5 p6 p7 p8 p9) scope [] dV kV doc pm an cdv ct) s.heap.objs.size fK = env₁
 generalize hg : hideAll s.heap (((X.withEx ((f, o) :: X.ex)).px ++ ps.flatten).map (·.1)) = g at FG BG st lv
 let X₁ : Fx := { G := g, L := s.heap.objs.size, m := fun y => ([("ask", .ref f)] : List (Str × Value)).reverse.lookup y, own := [], ex := X.own ++ (f, o) :: X.ex, base := X.base, l := env₁ :: X.l }
 have hfr₁ : env₁.frame = some s.heap.objs.size := by rw [<- CF]; rfl
 have hglo : env₁.globals = mainGlobals := by rw [<- CF]; rfl
 have hloc₁ : env₁.locals = s.heap.objs.size := by rw [<- CF]; rfl
 have hnames : env₁.scope.names = scope.names := by rw [<- CF]; rfl
 have hkind : env₁.scope.kind = .function := by rw [<- CF]; exact sk
 have hkd : ∀ y, env₁.kindOf y = scope.names.lookup y := fun y => by unfold PySem.Env.kindOf; rw [hnames]
 have gf' : GF U g := cx.gf.keeps st
 have hdp : (A.deeper env₁).depth = A.depth + 1 := rfl
 have hun : (A.deeper env₁).units = A.units + 3 := rfl
 have F₁ : Fr g s.heap.objs.size h₁ X₁.m := ⟨Eg, fun b o e => hk₁ b o (of_hideAll _ (by rw [hg]; exact e)), Nat.le_of_eq (by rw [<- hg]; exact hideAll_size _ _)⟩
 have N₁ : News g s.heap.objs.size h₁ (X₁.px ++ ps.flatten) := fun q hq => ⟨hk₁ _ _ (N q hq).1, Nat.ne_of_lt (Heap.lt_size (N q hq).1), by rw [<- hg]; exact hideAll_none _ (List.mem_map_of_mem hq)⟩
 have x₁ : Bc U X₁ ρ H h₁ := ⟨F₁, ps, p, N₁, D', lo⟩
 have cx₁ : Cx U (A.deeper env₁) X₁ env₁ n := by
  refine ⟨⟨A, X.l, ?_, rfl⟩, PySem.Around.frames_deeper hA, hfr₁, hkind, cx.hh, ?_, ?_, gf'⟩
  .show Below A X.base X.l g
   rw [hl]; exact BG
  .rw [hdp]; have := hr.1; omega
  .rw [hun]; have := hr.2; omega
 have rm₁ : DN (A.deeper env₁) n 2 := by
  constructor
  .rw [hdp]; have := hr.1; omega
  .rw [hun]; have := hr.2; omega
 have hpx : ∀ q ∈ X.px ++ ps.flatten, q ∈ X₁.px ++ ps.flatten := fun q hq => by
  simp only [X₁, Fx.px, List.nil_append, List.append_assoc, List.mem_append, List.cons_append, List.mem_cons] at hq ⊢
  rcases hq with h | h | h
  .exact .inl h
  .exact .inr (.inr (.inl h))
  .exact .inr (.inr (.inr h))
 have dsub : ∀ ps' : List (Addr × Obj), B4 (X₁.px ++ ps') -> B4 (X.px ++ ps') := fun ps' h => by
  unfold B4 at h ⊢
  refine h.sublist (List.Sublist.map _ ?_)
  refine List.Sublist.append ?_ (List.Sublist.refl _)
  show (X.own ++ X.ex).Sublist ([] ++ (X.own ++ (f, o) :: X.ex))
  rw [List.nil_append]
  exact (List.sublist_cons_self _ _).append_left _
 refine wpAny_execs_cons (wpAny_Try_except (wpAny_execs_cons (wpAny_Return_some ?_)))
 refine B5 (wpAny_Name (wpAny_loadName_local hkind ((hkd _).trans sask) (by rw [hloc₁]; exact Eg) (v := .ref f) rfl ?_) (by decide))
 obtain ⟨fd, hfd⟩ := hfo
 have hfn₁ : FnAt f h₁ := by
  obtain ⟨a, b, c, e⟩ := o
  dsimp only at hfd
  subst hfd
  exact ⟨a, b, fd, e, hk₁ _ _ hgf⟩
 refine AF (P := FnAt f) (es := []) rfl (fun h X => keeps_F h X) ?_
 refine wpAny_items_nil ⟨hfn₁, wpAny_call ?_⟩
 refine hrun (A.deeper env₁) X₁ env₁ h₁ _ _ cx₁ rm₁ rfl hk₁ x₁ ?_
 cases r with
 | bad => exact hp
 | ok v H1 =>
  intro ρ2 v' h2 tk2 l2 F2 r2
  obtain ⟨Fr2, ps2, p2, N2, D2, lo2⟩ := F2
  refine lv _ _ (leaveK_ (L' := X₁.L) (m' := X₁.m) Fr2 N2 fun FX NX => ?_)
  refine hp ρ2 v' h2 tk2 l2 ⟨FX, ps2, p2, D5 NX fun q hq => ?_, dsub _ D2, lo2⟩ r2
  simp only [X₁, Fx.px, List.nil_append, List.append_assoc, List.mem_append, List.cons_append, List.mem_cons] at hq ⊢
  rcases hq with h | h | h
  .exact .inl h
  .exact .inr (.inr (.inl h))
  .exact .inr (.inr (.inr h))
 | exc msg H1 =>
  intro ρ2 e h2 tk2 l2 E2
  obtain ⟨ps2, h₂, q2, D2, lo2, st2, Fr2, u2⟩ := E2
  refine Jq (s := { s with heap := h2, toks := tk2 }) (L' := X₁.L) (PySem.Around.frames_deeper hA) hfr₁ st2 rfl fun h3 k1 k2 => ?_
  refine Gv (env := env₁) (s := { s with heap := h3, toks := tk2 }) (L := X₁.L) k1 (.inl rfl) fun h4 k3 _ _ k4 => ?_
  have u4 := (u2.trans k2).trans k4
  have hXL : g.Ns X.L X.m := FG.ns
  have hX2 : h₂.Ns X.L X.m := hXL.keeps Fr2.keep
  have fr1 : X₁.L ∈ X₁.l.filterMap (·.frame) := List.mem_filterMap.mpr ⟨env₁, .head _, hfr₁⟩
  have fr0 : X.L ∈ X₁.l.filterMap (·.frame) := by
   obtain ⟨e', he', hf'⟩ := List.mem_filterMap.mp cx.framesIn
   exact List.mem_filterMap.mpr ⟨e', .tail _ he', hf'⟩
  obtain ⟨BB, d, es, nn, t, b1, b2, bL1, bL, b7, b8, hd⟩ := Qk (L := X.L) k3 fr1 fr0 hX2 Fr2.ns u4
  have Ex : X.L ≠ s.heap.objs.size := Nat.ne_of_lt F.ns.lt
  have KB : U.K.In BB := by
   have := cx.gf.K
   rw [<- hb] at this
   exact this.keeps b1
  have hns4 : h4.Ns mainGlobals U.mg := by
   have := cx.gf.T.g
   rw [<- hb] at this
   exact (this.keeps b1).keeps hd.st
  obtain ⟨nm, qq, N', bs, hdct, sn, sub, ab, col, dd, c0, c1, c2, c3, c5, hobj⟩ := ue.obj
  refine wpAny_handleBy_cons (codeAny_handlers_test ?_) (by intro q; cases q)
  refine Name_function_global hkind ((hkd _).trans sref) ?_ (by decide)
  refine loadGlobal_global (mg := U.mg) (by rw [hglo]; exact hns4) (mg_of cx.gf.K cx.gf.T.g ue.name) ?_
  obtain ⟨oe, vs, g1, g2, g3, g4, g5⟩ := hd.eo
  refine wpAny_excMatches_sub_self (hd.st _ _ (KB _ _ hobj)) g1 g2 rfl ?_
  refine codeAny_handlers_suite_as (hd.flight (s := { s with heap := h4, toks := tk2 }) fun h5 hd5 => ?_)
  have hpk : (env₁.scope.kind == .class || (env₁.scope.kind == .module && env₁.locals != env₁.globals)) = false := by rw [hkind]; rfl
  refine wpAny_storeName_local ((hkd _).trans serr) (by rw [hloc₁]; exact hd5.ns1) (fun h6 hn6 hs6 => ?_) hpk
  rw [hloc₁] at hn6 hs6
  have hd6 := hd5.over Ex bL1 hn6 hs6
  obtain ⟨oe6, vs6, i1, i2, i3, i4, _⟩ := hd6.eo
  have K6 : U.K.In h6 := KB.keeps hd6.st
  have hdi : hasDictIn U.K Ce = true := by unfold hasDictIn; rw [ue.cls]; exact ue.hd
  refine wpAny_execs_cons (wpAny_Return_some (Attribute_any_ (wpAny_Name (wpAny_loadName_local hkind ((hkd _).trans serr) (by rw [hloc₁]; exact hn6) (v := .ref e) (if_pos rfl) ?_) (by decide)) ?_))
  .refine P5 (s := { s with heap := h6, toks := tk2 + 1 }) (n := nn) K6 ⟨i1, i2, by unfold notCls; rw [i4], by rw [i3]; exact hd6.st _ _ b7⟩ ue.cls ue.mro ue.hga ue.hgt hdi ue.hmsg rfl b8 rfl ?_
   refine wpAny_nameGoes (s := { s with heap := h6, toks := tk2 + 1 + 1 }) ((hkd _).trans serr) (by rw [hloc₁]; exact hn6) hpk fun h7 m7 hn7 hs7 => ?_
   rw [hloc₁] at hn7 hs7
   have hd7 := hd6.over Ex bL1 hn7 hs7
   refine hp ρ2 (.str (wd msg) t) h7 _ l2 ⟨⟨hd7.nsL, fun b o q => ?_, F.above⟩, ps2, q2, fun q hq => ?_, dsub _ D2, lo2⟩ ⟨t, rfl⟩
   .rw [<- hb] at q; exact hd7.st _ _ (b1 _ _ q)
   .have hq' : q ∈ X₁.px ++ ps2.flatten := by
     simp only [X₁, Fx.px, List.nil_append, List.append_assoc, List.mem_append, List.cons_append, List.mem_cons] at hq ⊢
     rcases hq with h | h | h
     .exact .inl h
     .exact .inr (.inr (.inl h))
     .exact .inr (.inr (.inr h))
    have y := b2 q hq'
    refine ⟨hd7.st _ _ y.1, fun z => ?_, by rw [<- hb]; exact y.2⟩
    rw [z, bL] at y; cases y.1
  .show (do let o <- attributeBase (.Name ("error" : Str) p5) ("message" : Str) env₁ (eval (.Name ("error" : Str) p5) env₁); _ : Sem Value) = _
   rw [Dn rfl]
end
section
variable {Ce D fI fK c : Addr} {cd : ClassData}
theorem JS {h h' : Heap} {cv : Value} {q : Str} (x : h.CodeRec cv q) (k : ∀ b o, h.get? b = some o -> h'.get? b = some o) : h'.CodeRec cv q := by
 obtain ⟨a, o, vs, t, e, ho, r⟩ := x
 exact ⟨a, o, vs, t, e, k _ _ ho, r⟩
theorem N3 (uk : UK U fK) (ue : UE U Ce D fI cd) (cx : Cx U A X env n) (ek : AZ X env env ns) (hr : DN A n 3) (hb : X.base = X.G) (hcode : env.code = .ref c) (hCd : CodeHd X.G c U.tabA) (hq : env.qual ++ "<lambda>" = Di) :
  DI U (.ref Ce) C A X env Γ ns n := by
 intro m nm params body sc lp np pos hnm hlam hse ρ H s vs Q E x eo hp
 rw [Aa] at hp
 dsimp only at hp
 by_cases h0 : H[0]? = some .tab
 .rw [if_pos h0] at hp
  obtain ⟨rfl, hg⟩ := DR hnm
  have k := Ps hlam
  refine B5 (DU ek cx.gf x hg uk.name ?_)
  refine AF (P := U.K.In) rfl (fun h X => keeps_K uk.keep h X) ?_
  refine spliced_more (Pd cx ek hcode hCd hq x h0 k fun f pm c' ctv h' tk x' hcd' => ?_) (AX rfl)
  have KI := cx.gf.K.keeps x'.fr.keep
  refine wpAny_items_nil ⟨KI, wpAny_call ?_⟩
  refine Ms (r := Aa C m vs H) uk ue cx hr hb x' ⟨_, rfl⟩ (fun A₁ X₁ env₁ h₁ tk R' cx₁ rm₁ hpx hk x₁ hp₁ => ?_) ?_
  .refine O0 cx₁ rm₁ x₁ k ek eo (fun p hp => ?_) (by rw [hpx]; exact DK _ (.head _)) (JS hcd' hk) hse hp₁
   rw [hpx]
   rcases List.mem_append.mp hp with hp | hp
   .exact DW _ hp
   .exact DK _ (.tail _ hp)
  .have e2 : J4 (Aa C m vs) H = Ov (Aa C m vs H) := by unfold J4 Ov; rfl
   rw [e2] at hp
   exact hp
 .rw [if_neg h0] at hp; exact hp.elim
end
structure LK (U : Un) (fL c : Addr) : Prop where
 fn : ∃ oc od osl name qual params body scope dV kV doc pm an ct, U.K.lookup fL = some ⟨oc, od, .func (fnX name qual params body scope [] dV kV doc pm an (.ref c) ct), osl⟩ /\ codeIn U.K (.ref c) qual = true /\
  NY scope ((Γf .Bq).take 1) /\ Hh true scope.names (Γf .Bq) (prog .Bq).body body = true /\ (qual ++ ".<locals>.") ++ "<lambda>" = Di /\
  ∀ s a, U.K.In s.heap -> BindsTo s (fnX name qual params body scope [] dV kV doc pm an (.ref c) ct) ⟨[a], []⟩ (((Γf .Bq).take 1).zip [a])
 hdc : codeHdIn U.K c U.tabA = true
theorem GP : (prog .Bq).params = 1 := by rfl
theorem O3 : (prog .Bq).dflt = [] := by rfl
section
variable {Ab : List Int} {bg : F8} {G : Heap} {fL c fK : Addr} {d : Nat} {R : Result -> Shared -> Prop}
theorem PM (tx : Txt U xc fa Ab bg) (uk : UK U fK) (lk : LK U fL c) (gf : GF U G) (hlim : s.heap.NoLimit) (KI : U.K.In s.heap) (hG : ∀ b o, G.get? b = some o -> s.heap.get? b = some o) (hsz : G.objs.size <= s.heap.objs.size)
  (hP : s.heap.get? U.tabA = some (tabObj #[])) (hGP : G.get? U.tabA = none) (h3 : 3 < U.tabA) (hd1 : 400 + 8 * d < recursionLimit) (hd2 : 1000 + 200 * d < cLine)
  (hm : ∃ H', Ee prog Ab bg initOf (d + 1) .Bq [.ext] [.tab] = .ok (.bool true) H' /\ H'[0]? = some .tab)
  (hR : ∀ h' C3, (∀ b o, G.get? b = some o -> h'.get? b = some o) -> GrownAt U.tabA h' -> R (.ok (.ret (.bool true))) { s with heap := h', toks := C3 }) :
  codeAny (model U.prog U.w) callerA (.call (.ref fL) ⟨[.ref U.sa], []⟩) R s := by
 obtain ⟨oc, od, osl, name, qual, params, body, scope, dV, kV, doc, pm, an, ct, hl, hcd, sc, EN, hq, hbind⟩ := lk.fn
 have sh := KK .Bq
 unfold Hm at sh
 simp only [Ao, decide_eq_true_eq, List.all_eq_true] at sh
 obtain ⟨⟨⟨⟨nd, BN⟩, hpv⟩, hdf⟩, hdl⟩ := sh
 have BN := eq_of_beq BN
 have hb' := hbind s (.ref U.sa) KI
 have hl1 : ((Γf .Bq).take 1).length = 1 := by rw [List.length_take]; rw [GP] at hpv; omega
 have bn : (((Γf .Bq).take 1).zip [Value.ref U.sa]).map (·.1) = (Γf .Bq).take 1 := G6 (by rw [hl1]; rfl)
 have names0 : ∀ k, (cellsFrom k scope.names []).map (·.1) = (cellsFrom 0 scope.names []).map (·.1) := fun k => cellsFrom_names scope.names k 0 [] [] rfl
 have cell' : ∀ k y, scope.names.lookup y = some .cell -> ((cellsFrom k scope.names []).lookup y).isSome = true := fun k y hy => C9 (names0 k).symm (sc.cell y hy)
 refine codeAny_call_function (by show 1 + claimMargin < recursionLimit; decide) (KI _ _ hl) rfl sc.co sc.gen rfl (codeRec_of KI hcd) (hb' _ _ _ _ ?_)
 refine wpAny_newFunctionEnv_cells sc.kind (fun y hy => ?_) fun Aj he s' x => ?_
 .rcases sc.par y.1 (by rw [<- bn]; exact List.mem_map_of_mem hy) with e | e
  .exact .inl e
  .exact .inr ⟨e, cell' _ _ e⟩
 subst he
 refine ⟨hlim.keeps x.toInCall.keep, codeAny_func ?_⟩
 obtain ⟨h₁, tk, rfl, _⟩ := x.done
 have hk₁ := x.toInCall.keep
 obtain ⟨cells, NC, Y⟩ := Cl.news (h₀ := s.heap) (Nat.le_refl _) fun n c hm => ⟨x.cell n c (lookup_of_mem_nodup (names0 _ ▸ sc.nd) hm), x.above n c hm⟩
 have Eg : h₁.Ns s.heap.objs.size (bindL (envOfC qual scope s.heap.objs.size fL (.ref c)).kindOf (((Γf .Bq).take 1).zip [Value.ref U.sa]) fun _ => none) := x.toInCall.ns
 have Y : CellsAre (bindC (envOfC qual scope s.heap.objs.size fL (.ref c)).kindOf (((Γf .Bq).take 1).zip [Value.ref U.sa]) fun _ => none) (cellsFrom (s.heap.objs.size + 1) scope.names []) cells := Y
 show wpAny (model U.prog U.w) (callerA.deeper (envOfC qual scope s.heap.objs.size fL (.ref c))) (execs body (envOfC qual scope s.heap.objs.size fL (.ref c))) _ _ _
 clear x
 generalize CF : envOfC qual scope s.heap.objs.size fL (.ref c) = Aj at *
 have addrs := EJ Y
 have ca := ED scope.names (s.heap.objs.size + 1) [] List.nodup_nil (by intro p hp; cases hp)
 have cnd : (cells.map (·.1)).Nodup := by rw [addrs]; exact ca.1
 have cabove : ∀ q ∈ cells, s.heap.objs.size < q.1 := fun q hq => by
  have : q.1 ∈ cells.map (·.1) := List.mem_map_of_mem hq
  rw [addrs] at this
  obtain ⟨r, hr, e⟩ := List.mem_map.mp this
  rcases ca.2 r hr with hr | hr
  .cases hr
  .rw [<- e]; exact hr
 let X' : Fx := { G := G, L := s.heap.objs.size, m := bindL Aj.kindOf (((Γf .Bq).take 1).zip [Value.ref U.sa]) fun _ => none, own := cells, ex := [], base := G, l := [Aj] }
 have hcells : Aj.cells = cellsFrom (s.heap.objs.size + 1) scope.names [] := by rw [<- CF]; rfl
 have hnames : Aj.scope.names = scope.names := by rw [<- CF]; rfl
 have hdp : (callerA.deeper Aj).depth = 302 := rfl
 have hun : (callerA.deeper Aj).units = 7 := rfl
 have rl : recursionLimit = 1000 := rfl
 have cx' : Cx U (callerA.deeper Aj) X' Aj d := by
  refine ⟨⟨callerA, [], below_caller G, rfl⟩, rfl, by rw [<- CF]; rfl, by rw [<- CF]; exact sc.kind, rfl, ?_, ?_, gf⟩
  .rw [hdp]; omega
  .rw [hun]; omega
 have rm : DN (callerA.deeper Aj) d 7 := by
  constructor
  .rw [hdp]; omega
  .rw [hun]; omega
 have ek' : AZ X' Aj Aj scope.names := by
  refine ⟨hnames, by rw [<- CF]; exact sc.kind, by rw [<- CF]; rfl, by rw [<- CF]; rfl, by rw [<- CF]; rfl, fun y hy => ?_⟩
  rw [hcells]
  unfold PySem.Env.kindOf at hy
  rw [hnames] at hy
  rcases hy with hy | hy
  .exact cell' _ y hy
  .exact absurd rfl (sc.free y _ hy)
 have sx' : SX U (callerA.deeper Aj) X' Aj Aj d scope.names := by
  refine ⟨cx', ek', by rw [<- CF]; rfl, fun y c hy => ?_, fun y z c hy hz => ?_, fun _ _ => rfl⟩
  .rw [hcells] at hy
   obtain ⟨o, h1, h2⟩ := DH Y hy
   exact ⟨o, _, h1, h2⟩
  .rw [hcells] at hy hz
   exact Es ca.1 hy hz
 have hP1 : U.tabA < s.heap.objs.size := Heap.lt_size hP
 have x' : Bc U X' [(U.tabA, 0)] [.tab] h₁ := by
  refine ⟨⟨Eg, fun b o e => hk₁ b o (hG b o e), hsz⟩, [[(U.tabA, tabObj #[])]], ⟨⟨#[], [], rfl, rfl, trivial, fun pos cv e => by cases e⟩, trivial⟩, fun q hq => ?_, ?_, ?_⟩
  .simp only [Fx.px, X', List.append_nil, List.flatten_cons, List.flatten_nil, List.mem_append, List.mem_singleton] at hq
   rcases hq with hq | rfl
   .have y := NC q hq
    refine ⟨y.1, y.2.1, ?_⟩
    cases e : G.get? q.1 with
    | none => rfl
    | some o => have := hG _ _ e; rw [y.2.2] at this; cases this
   .exact ⟨hk₁ _ _ hP, Nat.ne_of_lt hP1, hGP⟩
  .show B4 ((cells ++ []) ++ [(U.tabA, tabObj #[])])
   rw [List.append_nil]
   refine Cj List.perm_append_comm (Cj List.perm_append_comm (Hc (n := cells) (l := [(U.tabA, tabObj #[])]) ?_ cnd ?_))
   .exact List.nodup_cons.mpr ⟨by simp, List.nodup_nil⟩
   .intro p hp q hq
    rcases List.mem_singleton.mp hq with rfl
    exact Nat.lt_trans hP1 (cabove p hp)
  .intro q hq
   simp only [List.flatten_cons, List.flatten_nil, List.append_nil, List.mem_singleton] at hq
   subst hq; exact h3
 have ld : ∀ x v, (((Γf .Bq).take 1).zip [Value.ref U.sa]).lookup x = some v -> Ht X' Aj x v := fun y v hy => by
  have hm : y ∈ (((Γf .Bq).take 1).zip [Value.ref U.sa]).map (·.1) := List.mem_map.mpr ⟨(y, v), En.lookup_memV hy, rfl⟩
  have hnd : ((((Γf .Bq).take 1).zip [Value.ref U.sa]).map (·.1)).Nodup := by rw [bn]; exact sc.pnd
  have hk : Aj.kindOf y = scope.names.lookup y := by unfold PySem.Env.kindOf; rw [hnames]
  rw [bn] at hm
  rcases sc.par y hm with e | e
  .refine .inl ⟨hk.trans e, by rw [<- CF]; rfl, ?_⟩
   show bindL Aj.kindOf _ (fun _ => none) y = some v
   rw [En hnd (hk.trans e), hy]
  .have hs := cell' (s.heap.objs.size + 1) y e
   obtain ⟨c, hc⟩ := Option.isSome_iff_exists.mp hs
   obtain ⟨o, h1, h2⟩ := DH Y hc
   refine .inr (.inl ⟨.inl (hk.trans e), c, o, by rw [hcells]; exact hc, DW _ h1, ?_⟩)
   rw [h2, HQ hnd (by rw [hk, e]; decide), hy]
 obtain ⟨Ce, De, fI, cde, rfl, ue⟩ := tx.ue
 have al : Al U (.ref Ce) fa d { Ab := Ab, bg := bg, initOf := initOf, call := Ee prog Ab bg initOf d } :=
  ⟨tx.uf, tx.ug, tx.ub, tx.uc, tx.um, tx.bg, tx.Ab, rfl, tx.gmx, fun pin => P1 d _ (tx.pinned pin), ⟨Ce, De, fI, cde, rfl, ue⟩⟩
 have hq' : Aj.qual ++ "<lambda>" = Di := by rw [<- CF]; exact hq
 obtain ⟨H', hm, h0⟩ := hm
 rw [Ee] at hm
 rw [if_pos (by decide)] at hm
 refine CM (prog .Bq).body true scope.names (Γf .Bq) body EN nd U (.ref Ce) fa d { Ab := Ab, bg := bg, initOf := initOf, call := Ee prog Ab bg initOf d } (callerA.deeper Aj) Aj Aj al ⟨by have := rm.1; omega, by have := rm.2; omega⟩ rfl (fun _ X sx => ?_) X' [(U.tabA, 0)] [.tab] _ _ _ _ sx' x' (Nd (vs := [.ext]) nd (p := 1) (q := (prog .Bq).vars) (by rw [BN]; exact hpv) (xs := [Value.ref U.sa]) ⟨rfl, trivial⟩ rfl BN.symm ld) ?_
 .refine N3 uk ue sx.cx sx.ek ⟨by have := rm.1; omega, by have := rm.2; omega⟩ (sx.og Aj ?_) (by rw [<- CF]; rfl) (codeHd_of_K sx.cx.gf.K lk.hdc) hq'
  have hA := sx.cx.hA
  have : (callerA.deeper Aj).frames = some [Aj] := rfl
  rw [this] at hA
  exact (Option.some.inj hA).symm
 .unfold bnd at hm
  have e0 : ([V.ext] ++ List.drop ([V.ext].length + (prog .Bq).dflt.length - (prog .Bq).params) (prog .Bq).dflt).map some ++ List.replicate ((prog .Bq).vars - (prog .Bq).params) Option.none = [V.ext].map some ++ List.replicate ((prog .Bq).vars - 1) Option.none := by
   rw [O3, GP]; rfl
  rw [e0] at hm
  cases e : Ae { Ab := Ab, bg := bg, initOf := initOf, call := Ee prog Ab bg initOf d } (prog .Bq).body ([V.ext].map some ++ List.replicate ((prog .Bq).vars - 1) Option.none) [.tab] with
  | bad => rw [e] at hm; cases hm
  | exc m H1 => rw [e] at hm; cases hm
  | ok r H1 =>
   rw [e] at hm
   obtain ⟨vs2, fl⟩ := r
   intro X'' ρ' h' C3 sm sxx l F eo2
   have keep : ∀ b o, G.get? b = some o -> h'.get? b = some o := fun b o q => F.fr.keep b o (by rw [sm.G]; exact q)
   have gr : H1[0]? = some .tab -> GrownAt U.tabA h' := fun h => by
    obtain ⟨ps, codes, g1, _⟩ := FS.tab F h rfl
    exact ⟨ps, g1⟩
   cases fl with
   | none => cases hm
   | some v =>
    cases hm
    intro v' r
    cases r
    exact hR h' C3 keep (gr h0)
end
theorem Fs : ∀ {ns : List Str} {xs : List Value} {n : Str}, n ∈ ns -> ns.length = xs.length -> ((ns.zip xs).lookup n).isSome = true
 | [], _, _, h, _ => by cases h
 | _ :: _, [], _, _, e => by cases e
 | y :: ns, x :: xs, n, h, e => by
  rw [List.zip_cons_cons, List.lookup_cons]
  cases q : n == y with
  | true => rfl
  | false =>
   rcases List.mem_cons.mp h with rfl | h
   .simp at q
   .exact Fs h (by simpa using e)
theorem JT : ∀ {ns : List Str} {xs : List Value}, ns.Nodup -> ns.length = xs.length -> (ns.filterMap fun n => ((ns.zip xs).lookup n).map (n, ·)) = ns.zip xs := by
 intro ns xs nd e
 have key : ∀ (l : List Str) (l' : List Value) (P : List (Str × Value)), l.Nodup -> l.length = l'.length -> (∀ n ∈ l, P.lookup n = none) ->
   (l.filterMap fun n => ((P ++ l.zip l').lookup n).map (n, ·)) = l.zip l' := by
  intro l
  induction l with
  | nil => intro l' P _ _ _; rfl
  | cons y r ih =>
   intro l' P nd e hP
   cases l' with
   | nil => cases e
   | cons x xs =>
    rw [List.nodup_cons] at nd
    have h1 : (P ++ (y :: r).zip (x :: xs)).lookup y = some x := by
     rw [List.lookup_append, hP y (.head _), List.zip_cons_cons, List.lookup_cons, beq_self_eq_true]; rfl
    rw [List.filterMap_cons, h1]
    have h2 : P ++ (y :: r).zip (x :: xs) = (P ++ [(y, x)]) ++ r.zip xs := by simp
    have := ih xs (P ++ [(y, x)]) nd.2 (by simpa using e) fun n hn => by
     rw [List.lookup_append, hP n (.tail _ hn)]
     have : (n == y) = false := beq_eq_false_iff_ne.mpr fun q => nd.1 (q ▸ hn)
     simp [List.lookup_cons, this]
    rw [h2]
    simp only [Option.map_some, List.zip_cons_cons]
    rw [this]
 have := key ns xs [] nd e (fun _ _ => rfl)
 simpa using this
theorem Mk {fd : FuncData} {pos : List Value} (hp : fd.params.posonlyargs = []) (hv : fd.params.vararg = none) (hk : fd.params.kwonlyargs = []) (hw : fd.params.kwarg = none) (hd : fd.defaults = .none) (nd : (fd.params.args.map (·.arg)).Nodup) (hl : pos.length = fd.params.args.length) :
  bindArgs fd ⟨pos, []⟩ = pure ((fd.params.args.map (·.arg)).zip pos) := by
 have hs : seqItems? Value.none = (pure none : Sem (Option (Array Value))) := rfl
 have C7 : (fd.params.args.map (·.arg)).length = pos.length := by rw [List.length_map, hl]
 have hm : (fd.params.args.map (·.arg)).filter (fun n => (((fd.params.args.map (·.arg)).zip pos).lookup n).isNone) = [] := by
  rw [List.filter_eq_nil_iff]
  intro n hn
  have := Fs hn C7
  rw [Option.isNone_iff_eq_none]
  intro q; rw [q] at this; cases this
 unfold bindArgs
 simp only [hp, hv, hk, hw, hd, hs, List.map_nil, List.nil_append, pure_bind, List.forIn_nil, Option.getD_none]
 have hgt : decide (pos.length > (fd.params.args.map (·.arg)).length) = false := by rw [C7]; simp
 have hz := JT nd C7
 rw [hgt, Bool.false_and, if_neg Bool.false_ne_true]
 simp only [List.drop_nil, List.length_nil, Nat.sub_zero, List.take_length, hm, List.isEmpty_nil, Bool.not_true, Bool.false_eq_true, if_false, List.drop_length, List.zip_nil_left, List.forIn_nil, pure_bind, List.append_nil, hz]
def Q3 (scope : Scope) (binds : List Str) : Bool :=
 !scope.isCoroutine && !scope.isGenerator && scope.kind == .function && (scope.names.all fun p => p.2 != .free) &&
 (scope.names.all fun p => p.2 != .cell || ((cellsFrom 0 scope.names []).lookup p.1).isSome) &&
 (binds.all fun y => scope.names.lookup y == some .local || scope.names.lookup y == some .cell) &&
 decide ((cellsFrom 0 scope.names []).map (·.1)).Nodup && decide binds.Nodup
theorem IA {scope : Scope} {binds : List Str} (h : Q3 scope binds = true) : NY scope binds := by
 unfold Q3 at h
 simp only [Ao, Bool.not_eq_true', List.all_eq_true, beq_iff_eq, bne_iff_ne, Bool.or_eq_true, decide_eq_true_eq] at h
 obtain ⟨⟨⟨⟨⟨⟨⟨h1, h2⟩, h3⟩, h4⟩, h5⟩, h6⟩, h7⟩, h8⟩ := h
 refine ⟨h1, h2, h3, fun y k e => h4 _ (Co e), fun y e => ?_, h6, h7, h8⟩
 rcases h5 _ (Co e) with q | q
 .exact absurd rfl q
 .exact q
def Rs (K : Frag) (x : FuncData) : Bool :=
 x.globals == mainGlobals && x.builtins == builtinsNs && x.closure.isEmpty && codeIn K x.code x.qualname &&
 x.params.posonlyargs.isEmpty && x.params.vararg.isNone && x.params.kwonlyargs.isEmpty && x.params.kwarg.isNone
def Hv (x : FuncData) (l : List Str) : Bool := (match x.defaults with | .none => true | _ => false) && x.params.args.map (·.arg) == l
def Dz (K : Frag) (k : Bool) (f : Fn) (a : Addr) : Bool := match K.lookup a with
 | some ⟨_, _, .func x, _⟩ => (match x.body with
  | .stmts b => Rs K x && Hv x ((Γf f).take (prog f).params) && (prog f).dflt.isEmpty && Q3 x.scope ((Γf f).take (prog f).params) && Hh k x.scope.names (Γf f) (prog f).body b
  | _ => false)
 | _ => false
theorem K5 {K : Frag} {x : FuncData} {b : List Stmt} (h : Rs K x = true) (hb : x.body = .stmts b) : x = fnX x.name x.qualname x.params b x.scope [] x.defaults x.kwdefaults x.doc x.pyModule x.annotations x.code x.closureTuple /\ codeIn K x.code x.qualname = true /\
  x.params.posonlyargs = [] /\ x.params.vararg = none /\ x.params.kwonlyargs = [] /\ x.params.kwarg = none := by
 unfold Rs at h
 simp only [Ao, beq_iff_eq, List.isEmpty_iff, Option.isNone_iff_eq_none] at h
 obtain ⟨⟨⟨⟨⟨⟨⟨h1, h2⟩, h3⟩, h4⟩, h5⟩, h6⟩, h7⟩, h8⟩ := h
 obtain ⟨a1, a2, a3, a4, a5, a6, a7, a8, a9, a10, a11, a12, a13, a14, a15⟩ := x
 dsimp only at *
 subst h1 h2 h3 hb
 exact ⟨rfl, h4, h5, h6, h7, h8⟩
theorem EC {x : FuncData} {l : List Str} (h : Hv x l = true) (h1 : x.params.posonlyargs = []) (h2 : x.params.vararg = none) (h3 : x.params.kwonlyargs = []) (h4 : x.params.kwarg = none) (nd : l.Nodup) {s : Shared} {args : List Value} (hl : args.length = l.length) :
  BindsTo s x ⟨args, []⟩ (l.zip args) := by
 unfold Hv at h
 rw [Ao] at h
 obtain ⟨h5, h6⟩ := h
 have h6 := eq_of_beq h6
 have hd : x.defaults = .none := by
  cases e : x.defaults <;> rw [e] at h5 <;> first | rfl | cases h5
 have := Mk (fd := x) (pos := args) h1 h2 h3 h4 hd (h6 ▸ nd) (by rw [hl, <- h6, List.length_map])
 rw [h6] at this
 exact BindsTo.of_eq this
theorem Ax {U : Un} {fa : Fn -> Addr} {f : Fn} (h : Dz U.K false f (fa f) = true) : My U fa f := by
 unfold Dz at h
 split at h
 .rename_i oc od x osl hl
  split at h
  .rename_i b hb
   simp only [Ao, List.isEmpty_iff] at h
   obtain ⟨⟨⟨⟨h1, h2⟩, h3⟩, h4⟩, h5⟩ := h
   obtain ⟨e, hcd, q1, q2, q3, q4⟩ := K5 h1 hb
   have sc := IA h4
   refine ⟨⟨oc, od, osl, x.name, x.qualname, x.params, b, x.scope, x.defaults, x.kwdefaults, x.doc, x.pyModule, x.annotations, x.code, x.closureTuple, e ▸ hl, hcd, sc, h5, fun s args _ hle hge => ?_⟩⟩
   rw [<- e]
   rw [h3, List.length_nil, Nat.add_zero] at hge
   have hle' : (prog f).params - args.length = 0 := by omega
   rw [hle', List.replicate_zero, List.append_nil]
   have sh := KK f
   unfold Hm at sh
   simp only [Ao, decide_eq_true_eq] at sh
   have BN := eq_of_beq sh.1.1.1.2
   refine EC h2 q1 q2 q3 q4 sc.pnd ?_
   rw [List.length_take, BN]
   have := sh.1.1.2
   omega
  .cases h
 .cases h
theorem OJ {fd : FuncData} {a b c : Value} {n0 n1 n2 n3 : Str} {v : Value} (hp : fd.params.posonlyargs = []) (hv : fd.params.vararg = none) (hk : fd.params.kwonlyargs = []) (hw : fd.params.kwarg = none) (hn : fd.params.args.map (·.arg) = [n0, n1, n2, n3])
  (nd : [n0, n1, n2, n3].Nodup) (rest : List Value) (hr : rest.length <= 1) :
  ∃ k, bindArgs fd ⟨[a, b, c] ++ rest, []⟩ = seqItems? fd.defaults >>= k /\ k (some #[v]) = pure ([n0, n1, n2, n3].zip (([a, b, c] ++ rest) ++ List.replicate (4 - ([a, b, c] ++ rest).length) v)) := by
 unfold bindArgs
 simp only [hp, hv, hk, hw, hn, List.map_nil, List.nil_append, pure_bind, List.forIn_nil]
 refine ⟨_, rfl, ?_⟩
 have e : ∀ {x y : Str}, x ≠ y -> (x == y) = false := fun h => beq_eq_false_iff_ne.mpr h
 simp only [List.nodup_cons, List.mem_cons, List.not_mem_nil, not_or, or_false] at nd
 obtain ⟨⟨d01, d02, d03⟩, ⟨d12, d13⟩, d23, _⟩ := nd
 have e01 := e d01
 have e02 := e d02
 have e03 := e d03
 have e12 := e d12
 have e13 := e d13
 have e23 := e d23
 have e10 := e (Ne.symm d01)
 have e20 := e (Ne.symm d02)
 have e30 := e (Ne.symm d03)
 have e21 := e (Ne.symm d12)
 have e31 := e (Ne.symm d13)
 have e32 := e (Ne.symm d23)
 rcases rest with _ | ⟨d, _ | ⟨q, r⟩⟩
 .simp [List.lookup_cons, e01, e02, e03, e12, e13, e23, e10, e20, e30, e21, e31, e32]
 .simp [List.lookup_cons, e01, e02, e03, e12, e13, e23, e10, e20, e30, e21, e31, e32]
 .simp at hr
def Sl (K : Frag) (f : Fn) (a T : Addr) : Bool := match K.lookup a with
 | some ⟨_, _, .func x, _⟩ => (match x.body with
  | .stmts b => Rs K x && Q3 x.scope ((Γf f).take (prog f).params) && Hh false x.scope.names (Γf f) (prog f).body b && (x.defaults == .ref T) && (x.params.args.map (·.arg) == (Γf f).take (prog f).params) && (match K.lookup T with | some ⟨_, _, .seq its _, _⟩ => its == #[Value.none] | _ => false)
  | _ => false)
 | _ => false
theorem Q2 {U : Un} {fa : Fn -> Addr} {f : Fn} {T : Addr} {n0 n1 n2 n3 : Str} (hp : (prog f).params = 4) (hd : (prog f).dflt = [.none]) (hn : (Γf f).take 4 = [n0, n1, n2, n3]) (h : Sl U.K f (fa f) T = true) : My U fa f := by
 unfold Sl at h
 split at h
 .rename_i oc od x osl hl
  split at h
  .rename_i b hb
   simp only [Ao] at h
   obtain ⟨⟨⟨⟨⟨h1, h2⟩, h3⟩, h4⟩, h5⟩, h6⟩ := h
   obtain ⟨e, hcd, q1, q2, q3, q4⟩ := K5 h1 hb
   have sc := IA h2
   refine ⟨⟨oc, od, osl, x.name, x.qualname, x.params, b, x.scope, x.defaults, x.kwdefaults, x.doc, x.pyModule, x.annotations, x.code, x.closureTuple, e ▸ hl, hcd, sc, h3, fun s args KI hle hge => ?_⟩⟩
   rw [<- e]
   split at h6
   .rename_i c1 d1 its n1 o1 hT
    have h6 := eq_of_beq h6
    subst h6
    have h4 := eq_of_beq h4
    have h5 := eq_of_beq h5
    rw [hp, hd] at hge
    rw [hp] at hle h5 ⊢
    have nd := sc.pnd
    rw [hp, hn] at nd
    rw [hn] at h5 ⊢
    obtain ⟨a, b, c, rest, rfl⟩ : ∃ a b c rest, args = [a, b, c] ++ rest := by
     rcases args with _ | ⟨a, _ | ⟨b, _ | ⟨c, r⟩⟩⟩
     .simp at hge
     .simp at hge
     .simp at hge
     .exact ⟨a, b, c, r, rfl⟩
    obtain ⟨k, k1, k2⟩ := OJ (v := .none) (a := a) (b := b) (c := c) q1 q2 q3 q4 h5 nd rest (by simp at hle; omega)
    exact BindsTo.of_defaults h4 (KI _ _ hT) rfl k1 k2
   .cases h6
  .cases h
 .cases h
def Op (K : Frag) (a : Addr) : Bool := match K.lookup a with
 | some ⟨_, _, .func x, _⟩ => (match x.body with
  | .stmts [.Try [.Return (some (.Call (.Name a1 _) [] [] _)) _] [.ExceptHandler (some (.Name a2 _)) (some a3) [.Return (some (.Attribute (.Name a4 _) a5 _)) _] _] [] [] _] =>
   a1 == "ask" && a2 == "Refusal" && a3 == "error" && a4 == "error" && a5 == "message" && Rs K x && Hv x ["ask"] && Q3 x.scope ["ask"] && x.scope.names.all (fun p => p.2 != .cell) &&
   x.scope.names.lookup ("ask" : Str) == some .local && x.scope.names.lookup ("error" : Str) == some .local && x.scope.names.lookup ("Refusal" : Str) == some .globalImplicit
  | _ => false)
 | _ => false
theorem OQ {U : Un} {fK : Addr} (hn : nsIn U.K mainGlobals "_law_kept" = some (some (.ref fK))) (hk : keepIn U.K (.ref fK) = true) (h : Op U.K fK = true) : UK U fK := by
 refine ⟨hn, hk, ?_⟩
 unfold Op at h
 split at h
 .rename_i oc od x osl hl
  split at h
  .rename_i a1 p1 p2 p3 a2 p4 a3 a4 p5 a5 p6 p7 p8 p9 hb
   simp only [Ao, beq_iff_eq, List.all_eq_true, bne_iff_ne] at h
   obtain ⟨⟨⟨⟨⟨⟨⟨⟨⟨⟨⟨rfl, rfl⟩, rfl⟩, rfl⟩, rfl⟩, h1⟩, h2⟩, h3⟩, h4⟩, h5⟩, h6⟩, h7⟩ := h
   obtain ⟨e, hcd, q1, q2, q3, q4⟩ := K5 h1 hb
   have sc := IA h3
   refine ⟨oc, od, osl, x.name, x.qualname, x.params, x.scope, x.defaults, x.kwdefaults, x.doc, x.pyModule, x.annotations, x.code, x.closureTuple, p1, p2, p3, p4, p5, p6, p7, p8, p9, e ▸ hl, hcd, sc.kind, sc.co, sc.gen, h4, h5, h6, h7, fun s a _ => ?_⟩
   have := EC (s := s) (args := [a]) h2 q1 q2 q3 q4 sc.pnd rfl
   rw [e] at this
   exact this
  .cases h
 .cases h
def Q4 (K : Frag) (a c : Addr) : Bool := match K.lookup a with
 | some ⟨_, _, .func x, _⟩ => (match x.body with
  | .stmts b => Rs K x && Hv x ((Γf .Bq).take 1) && Q3 x.scope ((Γf .Bq).take 1) && Hh true x.scope.names (Γf .Bq) (prog .Bq).body b && x.code == .ref c && ((x.qualname ++ ".<locals>.") ++ "<lambda>" == Di)
  | _ => false)
 | _ => false
theorem PZ {U : Un} {fL c : Addr} (hc : codeHdIn U.K c U.tabA = true) (h : Q4 U.K fL c = true) : LK U fL c := by
 refine ⟨?_, hc⟩
 unfold Q4 at h
 split at h
 .rename_i oc od x osl hl
  split at h
  .rename_i b hb
   simp only [Ao] at h
   obtain ⟨⟨⟨⟨⟨h1, h2⟩, h4⟩, h5⟩, h6⟩, h7⟩ := h
   obtain ⟨e, hcd, q1, q2, q3, q4⟩ := K5 h1 hb
   have sc := IA h4
   have h6 := eq_of_beq h6
   have h7 := eq_of_beq h7
   have e2 : x = fnX x.name x.qualname x.params b x.scope [] x.defaults x.kwdefaults x.doc x.pyModule x.annotations (.ref c) x.closureTuple := by rw [<- h6]; exact e
   refine ⟨oc, od, osl, x.name, x.qualname, x.params, b, x.scope, x.defaults, x.kwdefaults, x.doc, x.pyModule, x.annotations, x.closureTuple, e2 ▸ hl, h6 ▸ hcd, sc, h5, h7, fun s a _ => ?_⟩
   rw [<- e2]
   refine EC h2 q1 q2 q3 q4 sc.pnd ?_
   have sh := KK .Bq
   unfold Hm at sh
   simp only [Ao, decide_eq_true_eq] at sh
   have BN := eq_of_beq sh.1.1.1.2
   have := sh.1.1.2
   rw [GP] at this
   rw [List.length_take, BN, List.length_singleton]
   omega
  .cases h
 .cases h
def O4 (K : Frag) (a : Addr) : Bool := match K.lookup a with
 | some ⟨_, _, .func x, _⟩ => (match x.body with
  | .stmts [.Assign [.Attribute (.Name a1 _) a2 _] (.Name a3 _) _] =>
   a1 == "self" && a2 == "message" && a3 == "message" && Rs K x && Hv x ["self", "message"] && Q3 x.scope ["self", "message"] && DY x.scope.names "self" && DY x.scope.names "message"
  | _ => false)
 | _ => false
theorem O1 {K : Frag} {fI : Addr} (h : O4 K fI = true) : ∃ oc od osl name qual params scope dV kV doc pm an cdv ct p1 p2 p3 p4, K.lookup fI = some ⟨oc, od, .func (fnX name qual params [.Assign [.Attribute (.Name "self" p1) "message" p2] (.Name "message" p3) p4] scope [] dV kV doc pm an cdv ct), osl⟩ /\
  codeIn K cdv qual = true /\ NY scope ["self", "message"] /\ DY scope.names "self" = true /\ DY scope.names "message" = true /\
  ∀ s a b, K.In s.heap -> BindsTo s (fnX name qual params [.Assign [.Attribute (.Name "self" p1) "message" p2] (.Name "message" p3) p4] scope [] dV kV doc pm an cdv ct) ⟨[a, b], []⟩ [("self", a), ("message", b)] := by
 unfold O4 at h
 split at h
 .rename_i oc od x osl hl
  split at h
  .rename_i a1 p1 a2 p2 a3 p3 p4 hb
   simp only [Ao] at h
   obtain ⟨⟨⟨⟨⟨⟨⟨r1, r2⟩, r3⟩, h1⟩, h2⟩, h3⟩, h4⟩, h5⟩ := h
   obtain rfl := eq_of_beq r1
   obtain rfl := eq_of_beq r2
   obtain rfl := eq_of_beq r3
   obtain ⟨e, hcd, q1, q2, q3, q4⟩ := K5 h1 hb
   have sc := IA h3
   refine ⟨oc, od, osl, x.name, x.qualname, x.params, x.scope, x.defaults, x.kwdefaults, x.doc, x.pyModule, x.annotations, x.code, x.closureTuple, p1, p2, p3, p4, e ▸ hl, hcd, sc, h4, h5, fun s a b _ => ?_⟩
   have := EC (s := s) (args := [a, b]) h2 q1 q2 q3 q4 sc.pnd rfl
   rw [e] at this
   exact this
  .cases h
 .cases h
def Sq (K : Frag) (C D : Addr) : Bool := match K.lookup C with
 | some ⟨.type "type", _, .cls cd, sl⟩ => (match cd.mro, sl.toList with
  | .ref C' :: .ref D' :: r, [_, _, _, _, some (.builtin n), _] => C' == C && D' == D && r == C6 && n == "Exception.__new__" && !cd.hasDel && cd.hasDict
  | _, _ => false)
 | _ => false
theorem MN {K : Frag} {C D : Addr} (h : Sq K C D = true) : (∃ nm q N bs hdct sn sub ab col dd k0 k1 k2 k3 k5, K.lookup C = some (excClassObj nm q C N bs (.ref D :: C6) hdct sn sub ab col dd k0 k1 k2 k3 k5 "Exception.__new__")) /\
  ∃ cd, clsIn K C = some cd /\ cd.mro = .ref C :: .ref D :: C6 /\ cd.hasDict = true := by
 unfold Sq at h
 split at h
 .rename_i dd cd sl ho
  split at h
  .rename_i C' D' r k0 k1 k2 k3 n k5 hm hs
   simp only [Ao, beq_iff_eq, Bool.not_eq_true'] at h
   obtain ⟨⟨⟨⟨⟨rfl, rfl⟩, rfl⟩, rfl⟩, hdel⟩, hdd⟩ := h
   refine ⟨?_, cd, by unfold clsIn; rw [ho], hm, hdd⟩
   obtain ⟨nm, bs, mro, ns, qn, hd, sn, sub, ab, col, del⟩ := cd
   dsimp only at hm hdel hdd
   subst hm hdel hdd
   have hsl : sl = #[k0, k1, k2, k3, some (.builtin "Exception.__new__"), k5] := by
    obtain ⟨l⟩ := sl
    simp only at hs
    rw [hs]
   subst hsl
   exact ⟨nm, qn, ns, bs, true, sn, sub, ab, col, dd, k0, k1, k2, k3, k5, ho⟩
  .cases h
 .cases h
open_top hd for PySem.Challenge.rw_nz0526_01
def RY : Fn -> Addr
 | .CA => 60
 | .BI => 82
 | .A3 => 89
 | .Eb => 125
 | .Av => 132
 | .BS => 139
 | .AD => 146
 | .Br => 153
 | .Gu => 160
 | .CN => 167
 | .BM => 174
 | .Cf => 181
 | .Cn => 188
 | .AQ => 193
 | .Dq => 200
 | .BL => 403
 | .BF => 410
 | .DD => 466
 | .Cr => 473
 | .AT => 480
 | .Ca => 506
 | .Cu => 511
 | .DA => 518
 | .A6 => 525
 | .Bu => 532
 | .BO => 539
 | .CC => 546
 | .Ch => 553
 | .Bj => 560
 | .A9 => 574
 | .Ad => 581
 | .CO => 595
 | .Bb => 602
 | .AM => 621
 | .Bl => 626
 | .Bx => 633
 | .Ct => 640
 | .CS => 645
 | .AE => 652
 | .Cv => 659
 | .Bw => 666
 | .BH => 673
 | .BP => 680
 | .Bt => 699
 | .Bk => 706
 | .AB => 713
 | .Bs => 720
 | .A1 => 727
 | .AL => 734
 | .CY => 741
 | .Ag => 748
 | .Am => 753
 | .BR => 765
 | .A7 => 770
 | .BV => 775
 | .Bv => 782
 | .B6 => 787
 | .AA => 794
 | .AW => 799
 | .AO => 804
 | .BQ => 811
 | .AG => 818
 | .Bq => 825
theorem Jr (P : Params) : Dz (hd.heap_39 P) false .CA 60 = true := by kernel_rfl
theorem Hw (P : Params) : Dz (hd.heap_39 P) false .A3 89 = true := by kernel_rfl
theorem N7 (P : Params) : Dz (hd.heap_39 P) false .Eb 125 = true := by kernel_rfl
theorem JA (P : Params) : Dz (hd.heap_39 P) false .Av 132 = true := by kernel_rfl
theorem Li (P : Params) : Dz (hd.heap_39 P) false .BS 139 = true := by kernel_rfl
theorem IX (P : Params) : Dz (hd.heap_39 P) false .AD 146 = true := by kernel_rfl
theorem Jg (P : Params) : Dz (hd.heap_39 P) false .Br 153 = true := by kernel_rfl
theorem Pq (P : Params) : Dz (hd.heap_39 P) false .Gu 160 = true := by kernel_rfl
theorem Mb (P : Params) : Dz (hd.heap_39 P) false .CN 167 = true := by kernel_rfl
theorem JO (P : Params) : Dz (hd.heap_39 P) false .BM 174 = true := by kernel_rfl
theorem ID (P : Params) : Dz (hd.heap_39 P) false .Cf 181 = true := by kernel_rfl
theorem JK (P : Params) : Dz (hd.heap_39 P) false .Cn 188 = true := by kernel_rfl
theorem JQ (P : Params) : Dz (hd.heap_39 P) false .AQ 193 = true := by kernel_rfl
theorem LM (P : Params) : Dz (hd.heap_39 P) false .Dq 200 = true := by kernel_rfl
theorem Ik (P : Params) : Dz (hd.heap_39 P) false .BL 403 = true := by kernel_rfl
theorem Hy (P : Params) : Dz (hd.heap_39 P) false .BF 410 = true := by kernel_rfl
theorem KM (P : Params) : Dz (hd.heap_39 P) false .DD 466 = true := by kernel_rfl
theorem KT (P : Params) : Dz (hd.heap_39 P) false .Cr 473 = true := by kernel_rfl
theorem Gn (P : Params) : Dz (hd.heap_39 P) false .AT 480 = true := by kernel_rfl
theorem Il (P : Params) : Dz (hd.heap_39 P) false .Ca 506 = true := by kernel_rfl
theorem Kw (P : Params) : Dz (hd.heap_39 P) false .Cu 511 = true := by kernel_rfl
theorem Kr (P : Params) : Dz (hd.heap_39 P) false .DA 518 = true := by kernel_rfl
theorem Fv (P : Params) : Dz (hd.heap_39 P) false .A6 525 = true := by kernel_rfl
theorem Hr (P : Params) : Dz (hd.heap_39 P) false .Bu 532 = true := by kernel_rfl
theorem GL (P : Params) : Dz (hd.heap_39 P) false .BO 539 = true := by kernel_rfl
theorem J1 (P : Params) : Dz (hd.heap_39 P) false .CC 546 = true := by kernel_rfl
theorem Jt (P : Params) : Dz (hd.heap_39 P) false .Ch 553 = true := by kernel_rfl
theorem IE (P : Params) : Dz (hd.heap_39 P) false .Bj 560 = true := by kernel_rfl
theorem GV (P : Params) : Dz (hd.heap_39 P) false .A9 574 = true := by kernel_rfl
theorem Hl (P : Params) : Dz (hd.heap_39 P) false .Ad 581 = true := by kernel_rfl
theorem JI (P : Params) : Dz (hd.heap_39 P) false .CO 595 = true := by kernel_rfl
theorem Gm (P : Params) : Dz (hd.heap_39 P) false .Bb 602 = true := by kernel_rfl
theorem GW (P : Params) : Dz (hd.heap_39 P) false .AM 621 = true := by kernel_rfl
theorem Hz (P : Params) : Dz (hd.heap_39 P) false .Bl 626 = true := by kernel_rfl
theorem GC (P : Params) : Dz (hd.heap_39 P) false .Bx 633 = true := by kernel_rfl
theorem KD (P : Params) : Dz (hd.heap_39 P) false .Ct 640 = true := by kernel_rfl
theorem Lg (P : Params) : Dz (hd.heap_39 P) false .CS 645 = true := by kernel_rfl
theorem FK (P : Params) : Dz (hd.heap_39 P) false .AE 652 = true := by kernel_rfl
theorem Lw (P : Params) : Dz (hd.heap_39 P) false .Cv 659 = true := by kernel_rfl
theorem GE (P : Params) : Dz (hd.heap_39 P) false .Bw 666 = true := by kernel_rfl
theorem HL (P : Params) : Dz (hd.heap_39 P) false .BH 673 = true := by kernel_rfl
theorem GJ (P : Params) : Dz (hd.heap_39 P) false .BP 680 = true := by kernel_rfl
theorem G5 (P : Params) : Dz (hd.heap_39 P) false .Bt 699 = true := by kernel_rfl
theorem HW (P : Params) : Dz (hd.heap_39 P) false .Bk 706 = true := by kernel_rfl
theorem HV (P : Params) : Dz (hd.heap_39 P) false .AB 713 = true := by kernel_rfl
theorem HU (P : Params) : Dz (hd.heap_39 P) false .Bs 720 = true := by kernel_rfl
theorem Gp (P : Params) : Dz (hd.heap_39 P) false .A1 727 = true := by kernel_rfl
theorem Gz (P : Params) : Dz (hd.heap_39 P) false .AL 734 = true := by kernel_rfl
theorem Kv (P : Params) : Dz (hd.heap_39 P) false .CY 741 = true := by kernel_rfl
theorem JL (P : Params) : Dz (hd.heap_39 P) false .Ag 748 = true := by kernel_rfl
theorem JJ (P : Params) : Dz (hd.heap_39 P) false .Am 753 = true := by kernel_rfl
theorem Jh (P : Params) : Dz (hd.heap_39 P) false .BR 765 = true := by kernel_rfl
theorem J2 (P : Params) : Dz (hd.heap_39 P) false .A7 770 = true := by kernel_rfl
theorem JY (P : Params) : Dz (hd.heap_39 P) false .BV 775 = true := by kernel_rfl
theorem G7 (P : Params) : Dz (hd.heap_39 P) false .Bv 782 = true := by kernel_rfl
theorem JP (P : Params) : Dz (hd.heap_39 P) false .B6 787 = true := by kernel_rfl
theorem HE (P : Params) : Dz (hd.heap_39 P) false .AA 794 = true := by kernel_rfl
theorem Hs (P : Params) : Dz (hd.heap_39 P) false .AW 799 = true := by kernel_rfl
theorem Kl (P : Params) : Dz (hd.heap_39 P) false .AO 804 = true := by kernel_rfl
theorem Iw (P : Params) : Dz (hd.heap_39 P) false .BQ 811 = true := by kernel_rfl
theorem II (P : Params) : Dz (hd.heap_39 P) false .AG 818 = true := by kernel_rfl
theorem Ox (P : Params) : Q4 (hd.heap_39 P) 825 824 = true := by kernel_rfl
def OM : Pv -> Addr
 | .null => 63
 | .vector => 92
noncomputable def R7 (prog : Program) (w : World) (p : Program) (loose : List Str) (mean : ExcName -> Option Value) (mg mb : Str -> Option Value) (sa : Addr) (Ab : List Int) : Un :=
 { prog := prog, w := w, K := hd.heap_39 w.params, p := p, loose := loose, mean := mean, mg := mg, mb := mb, cls := OM, sa := sa, Ab := Ab, tabA := 820 }
def QN (K : Frag) (C : Addr) (a : Nat) : Bool := plainGet K C (wd a) && takerIn K C (wd a) == some none && findIn K (.ref C) (wd a) == some none
theorem ka (P : Params) : ∀ c a, a ∈ Dg -> QN (hd.heap_39 P) (OM c) a = true := by
 intro c a h
 simp only [Dg, List.mem_cons, List.not_mem_nil, or_false] at h
 rcases h with rfl | rfl | rfl | rfl | rfl | rfl <;> cases c <;> kernel_rfl
def SH (K : Frag) (C : Addr) : Bool := hasDictIn K C && findIn K (.ref C) "__setattr__" == some (some (.builtin "object.__setattr__")) && plainOver K C && kin_notT K C "str" && plainGet K C "__class__" &&
 findIn K (.ref C) "__class__" == some (some (.builtin "object.__class__")) && mroIn K C (.type "object") == some true && makesIn K C && keepIn K (.ref C)
theorem kc (P : Params) : ∀ c, SH (hd.heap_39 P) (OM c) = true := by
 intro c; cases c <;> kernel_rfl
theorem SY (P : Params) : specialIn (hd.heap_39 P) (.builtin "object.__class__") "__get__" = some (some (.builtin "getset_descriptor.__get__")) := by kernel_rfl
theorem Ta (P : Params) : takesIn (hd.heap_39 P) (.builtin "object.__class__") = some true := by kernel_rfl
theorem S2 (P : Params) : ∀ nm, nm ∈ EV -> nsIn (hd.heap_39 P) mainGlobals (Str.ofString nm) = some none := by
 intro nm h
 simp only [EV, List.mem_cons, List.not_mem_nil, or_false] at h
 rcases h with rfl | rfl | rfl | rfl | rfl | rfl | rfl | rfl <;> kernel_rfl
theorem Tg (P : Params) : ∀ c, nsIn (hd.heap_39 P) mainGlobals (Str.ofString (Hq c)) = some (some (.ref (OM c))) := by
 intro c; cases c <;> kernel_rfl
def SN (K : Frag) (f : Fn) : Bool := (Ky f || nsIn K mainGlobals (Oq f) == some (some (.ref (RY f)))) && keepIn K (.ref (RY f)) && isFn K (.ref (RY f))
theorem ku (P : Params) : ∀ f, SN (hd.heap_39 P) f = true := by
 intro f; cases f <;> kernel_rfl
theorem S5 (P : Params) : plainGet (hd.heap_39 P) 92 "copy" = true := by kernel_rfl
theorem SW (P : Params) : findIn (hd.heap_39 P) (.ref 92) "copy" = some (some (.ref 89)) := by kernel_rfl
theorem Tb (P : Params) : ∀ c, findIn (hd.heap_39 P) (.ref (OM c)) "__init__" = some (some (.ref (RY (initOf c)))) := by
 intro c; cases c <;> kernel_rfl
theorem S7 (P : Params) : ((hd.heap_39 P).lookup 63).isSome = true := by kernel_rfl
theorem SQ (P : Params) : nsIn (hd.heap_39 P) mainGlobals "Refusal" = some (some (.ref 44)) := by kernel_rfl
theorem Th (P : Params) : keepIn (hd.heap_39 P) (.ref 44) = true := by kernel_rfl
theorem Sr (P : Params) : Sq (hd.heap_39 P) 44 24 = true := by kernel_rfl
theorem S4 (P : Params) : tailIn (hd.heap_39 P) C6 (.ref 24 :: C6) = true := by kernel_rfl
theorem SR (P : Params) : findIn (hd.heap_39 P) (.ref 44) "__init__" = some (some (.ref 41)) := by kernel_rfl
theorem S3 (P : Params) : isFn (hd.heap_39 P) (.ref 41) = true := by kernel_rfl
theorem Tj (P : Params) : O4 (hd.heap_39 P) 41 = true := by kernel_rfl
theorem Tk (P : Params) : findIn (hd.heap_39 P) (.ref 44) "__setattr__" = some (some (.builtin "object.__setattr__")) := by kernel_rfl
theorem Tc (P : Params) : takerIn (hd.heap_39 P) 44 "message" = some none := by kernel_rfl
theorem Sg (P : Params) : findIn (hd.heap_39 P) (.ref 44) "__getattribute__" = some (some (.builtin "BaseException.__getattribute__")) := by kernel_rfl
theorem Si (P : Params) : findIn (hd.heap_39 P) (.ref 44) "__getattr__" = some none := by kernel_rfl
theorem Sw (P : Params) : findIn (hd.heap_39 P) (.ref 44) "message" = some none := by kernel_rfl
def QG (K : Frag) : Bool := match nsIn K mainGlobals "MOST_LENGTH" with
 | some (some (.int i _)) => i == 1000000
 | _ => false
theorem R1 (P : Params) : QG (hd.heap_39 P) = true := by kernel_rfl
theorem S6 (P : Params) : nsIn (hd.heap_39 P) mainGlobals "_law_kept" = some (some (.ref 760)) := by kernel_rfl
theorem SZ (P : Params) : keepIn (hd.heap_39 P) (.ref 760) = true := by kernel_rfl
theorem Tl (P : Params) : Op (hd.heap_39 P) 760 = true := by kernel_rfl
theorem SL (P : Params) : codeHdIn (hd.heap_39 P) 824 820 = true := by kernel_rfl
theorem Te (P : Params) : noTabs (hd.heap_39 P) = true := by kernel_rfl
theorem Ti (P : Params) : Sl (hd.heap_39 P) .BI 82 75 = true := by kernel_rfl
theorem Rm : ∀ i, i < 18 -> ∀ j, j < 18 -> ∀ t, Ii i j = some t -> PySem.Txt.startswith (wd i) (wd j) = t := by decide +kernel
theorem R3 : OK Ii := by
 refine ⟨fun i j t h => ?_⟩
 by_cases hi : i < 18
 .by_cases hj : j < 18
  .exact Rm i hi j hj t h
  .unfold Ii at h
   rw [if_neg (by omega)] at h; cases h
 .unfold Ii at h
  rw [if_neg (by omega)] at h; cases h
section
variable {pr : Program} {w : World} {p : Program} {loose : List Str} {mean : ExcName -> Option Value} {mg mb : Str -> Option Value} {sa : Addr} {Ab : List Int}
theorem RQ : UE (R7 pr w p loose mean mg mb sa Ab) 44 24 41 (Classical.choose (MN (Sr w.params)).2) := by
 have h := Classical.choose_spec (MN (Sr w.params)).2
 exact ⟨SQ _, Th _, (MN (Sr w.params)).1, S4 _, SR _, S3 _, O1 (Tj _), h.1, h.2.1, h.2.2, Tk _, Tc _, Sg _, Si _, Sw _⟩
theorem Rk : Mine.Txt (R7 pr w p loose mean mg mb sa Ab) (.ref 44) RY Ab Ii := by
 have cl := fun c => kc w.params c
 unfold SH at cl
 simp only [Ao, beq_iff_eq] at cl
 have uc := fun f => ku w.params f
 unfold SN at uc
 simp only [Ao, beq_iff_eq, Bool.or_eq_true] at uc
 refine ⟨⟨fun c a ha => ?_, fun c => (cl c).1.1.1.1.1.1.1.1, fun c => (cl c).1.1.1.1.1.1.1.2, fun c => (cl c).1.1.1.1.1.1.2⟩, ⟨fun c => (cl c).1.1.1.1.1.2, fun c => (cl c).1.1.1.1.2, fun c => (cl c).1.1.1.2, SY _, Ta _, fun c => (cl c).1.1.2⟩,
  ⟨S2 _, Tg _⟩, ⟨fun f hf => ?_, fun f => (uc f).1.2⟩, ⟨S5 _, SW _, fun f => (uc f).2, fun c => (cl c).1.2, Tb _, ⟨(by decide : (3 : Nat) < 63), S7 _⟩, fun c => (cl c).2⟩, R3, rfl, ?_, ⟨44, 24, 41, _, rfl, RQ⟩, fun f hf => ?_⟩
 .have := ka w.params c a ha
  unfold QN at this
  simp only [Ao, beq_iff_eq] at this
  exact ⟨this.1.1, this.1.2, none, this.2, rfl⟩
 .rcases (uc f).1.1 with h | h
  .rw [hf] at h; cases h
  .exact h
 .have := R1 w.params
  unfold QG at this
  split at this
  .rename_i i t e
   have := eq_of_beq this
   subst this
   exact ⟨t, e⟩
  .cases this
 .cases f
  case Bq => cases hf
  case BI => exact Q2 (T := 75) rfl rfl rfl (Ti _)
  case CA => exact Ax (Jr _)
  case A3 => exact Ax (Hw _)
  case Eb => exact Ax (N7 _)
  case Av => exact Ax (JA _)
  case BS => exact Ax (Li _)
  case AD => exact Ax (IX _)
  case Br => exact Ax (Jg _)
  case Gu => exact Ax (Pq _)
  case CN => exact Ax (Mb _)
  case BM => exact Ax (JO _)
  case Cf => exact Ax (ID _)
  case Cn => exact Ax (JK _)
  case AQ => exact Ax (JQ _)
  case Dq => exact Ax (LM _)
  case BL => exact Ax (Ik _)
  case BF => exact Ax (Hy _)
  case DD => exact Ax (KM _)
  case Cr => exact Ax (KT _)
  case AT => exact Ax (Gn _)
  case Ca => exact Ax (Il _)
  case Cu => exact Ax (Kw _)
  case DA => exact Ax (Kr _)
  case A6 => exact Ax (Fv _)
  case Bu => exact Ax (Hr _)
  case BO => exact Ax (GL _)
  case CC => exact Ax (J1 _)
  case Ch => exact Ax (Jt _)
  case Bj => exact Ax (IE _)
  case A9 => exact Ax (GV _)
  case Ad => exact Ax (Hl _)
  case CO => exact Ax (JI _)
  case Bb => exact Ax (Gm _)
  case AM => exact Ax (GW _)
  case Bl => exact Ax (Hz _)
  case Bx => exact Ax (GC _)
  case Ct => exact Ax (KD _)
  case CS => exact Ax (Lg _)
  case AE => exact Ax (FK _)
  case Cv => exact Ax (Lw _)
  case Bw => exact Ax (GE _)
  case BH => exact Ax (HL _)
  case BP => exact Ax (GJ _)
  case Bt => exact Ax (G5 _)
  case Bk => exact Ax (HW _)
  case AB => exact Ax (HV _)
  case Bs => exact Ax (HU _)
  case A1 => exact Ax (Gp _)
  case AL => exact Ax (Gz _)
  case CY => exact Ax (Kv _)
  case Ag => exact Ax (JL _)
  case Am => exact Ax (JJ _)
  case BR => exact Ax (Jh _)
  case A7 => exact Ax (J2 _)
  case BV => exact Ax (JY _)
  case Bv => exact Ax (G7 _)
  case B6 => exact Ax (JP _)
  case AA => exact Ax (HE _)
  case AW => exact Ax (Hs _)
  case AO => exact Ax (Kl _)
  case BQ => exact Ax (Iw _)
  case AG => exact Ax (II _)
theorem RM : UK (R7 pr w p loose mean mg mb sa Ab) 760 := OQ (S6 _) (SZ _) (Tl _)
theorem RZ : LK (R7 pr w p loose mean mg mb sa Ab) 825 824 := PZ (SL _) (Ox _)
end
theorem S8 (P : Params) : nsIn (hd.heap_39 P) mainGlobals "law" = some (some (.ref 825)) := by kernel_rfl
theorem OT {vs : List Value} {ns : List Int} (h : IntsAre vs ns) : vs.length = ns.length := by
 have := IntsAre.sizeZ h
 rw [List.size_toArray] at this
 omega
theorem top_of (plain : ∀ Ab : List Int, Ab.length <= 63 -> ∃ H', Ee prog Ab Ii initOf 16 .Bq [.ext] [.tab] = .ok (.bool true) H' /\ H'[0]? = some .tab) : PySem.Challenge.rw_nz0526_01.Holds := hd (by
 intro w s₀ s₁ mg mb G Y fa o pm cd doc dV kV ho hd hcd hD hmg hg args vals as hpre hlay hrd hwl hlo
 have KX := km_in_of Y
 have hT8 := km_tabs_of Y
 refine Ground.open G ?_
 intro T B D TE TW
 try (refine guard_noD D (by decide +kernel) ?_; clear D)
 have hT9 : TabsAt ([(824, 820)] : List (Addr × Addr)) _ := List.forall_mem_cons.mpr ⟨⟨codeHd_of_K (c := 824) (P := 820) KX (SL _), hT8 820 (by k_mem)⟩, fun _ h => nomatch h⟩
 have hfa : fa = 825 := by
  have e := mg_of KX (Top.g T) (S8 _)
  have e2 := e.symm.trans hmg
  cases e2; rfl
 subst hfa
 clear hmg ho hd hcd
 wrow_args hpre hlay hrd hwl hlo
 refine enter_call ?_
 rename Heap.IsList _ _ _ => hL
 rename IntsAre _ _ => hI
 rename (¬ _ < _) => hc
 refine kn_post hT9 (fun _ _ => rfl) ?_
 refine PM (U := R7 PySem.Challenge.rw_nz0526_01.row.prog w topProg _ _ mg mb _ _) (G := ghostOf s₁.heap [(824, 820)]) (d := 15) Rk RM RZ ⟨ghost_K hT9 KX (Te _), ghost_top hT9 T, ⟨_, ghost_list hT9 hL, hI, ?_⟩⟩ T.nolimit KX (fun b o e => of_hideAll _ e) (Nat.le_of_eq (hideAll_size _ _)) (hT8 820 (by k_mem)) (hideAll_none _ (.head _)) (by decide : (3 : Nat) < 820) (by decide) (by decide) (plain _ ?_) fun h' C3 keep gr => ?_
 .rw [OT hI, sizeLine_eq]; omega
 .omega
 .refine ⟨⟨.inl ⟨.bool true, .bool true, [], rfl, fun _ => rfl, .bool true, ?_, unshared_nil⟩, keep, rfl, hg⟩, gr, trivial⟩
  wrow_post)
end Mine
theorem PySem.Challenge.cw_nz0526_01_holds : PySem.Challenge.rw_nz0526_01.Holds :=
  Mine.top_of fun s _ => Mine.P.plain_law s
