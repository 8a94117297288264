import PyProof.Rows.All
import Wide.All
import OpenK.AllK
import Wide.FinOn
import PySem.Challenge.RW_sf0047_01
set_option Elab.async false
set_option maxRecDepth 100000
set_option genSizeOf false
set_option genInjectivity false
set_option linter.unusedVariables false
namespace Mine
open PySem PySem.W PySem.Calls PyProof.Rows
noncomputable section
noncomputable def TP {α : Type} (o : Option α) (T : α → Prop) : Prop:=∀ a,o = some a → T a
noncomputable def bnd {α β γ : Type} (o : Option (α × β)) (k : α → β → Option γ) : Option γ:=match o with
  | some (a,b)=>k a b
  | none=>none
noncomputable def bn1 {α γ : Type} (o : Option α) (k : α → Option γ) : Option γ:=match o with
  | some a=>k a
  | none=>none
noncomputable def grd {γ : Type} (b : Bool) (x : Option γ) : Option γ:=match b with
  | true=>x
  | false=>none
noncomputable def iff {γ : Type} (b : Bool) (x y : Option γ) : Option γ:=match b with
  | true=>x
  | false=>y
section
variable {α β γ : Type} {T : γ → Prop} {x y : Option γ} {b : Bool}
theorem tp_none : TP (none : Option γ) T:=fun _ h=>nomatch h
theorem tp_some {a : γ} (h : T a) : TP (some a) T:=fun _ e=>Option.some.inj e ▸ h
theorem tp_mono {U : γ → Prop} (h : TP x U) (k : ∀ a,U a → T a) : TP x T:=fun a e=>k a (h a e)
theorem tp_bnd {o : Option (α × β)} {k : α → β → Option γ} {U : α × β → Prop} (h : TP o U) (K : ∀ a b,U (a,b) → TP (k a b) T) : TP (bnd o k) T:=
  match o,h with
  | some (a,b),h=>K a b (h _ rfl)
  | none,_=>tp_none
theorem tp_bn1 {o : Option α} {k : α → Option γ} {U : α → Prop} (h : TP o U) (K : ∀ a,U a → TP (k a) T) : TP (bn1 o k) T:=
  match o,h with
  | some a,h=>K a (h _ rfl)
  | none,_=>tp_none
theorem tp_eq {o : Option α} : TP o (fun a=>o = some a):=fun _ h=>h
theorem tp_grd (h : b = true → TP x T) : TP (grd b x) T:=match b,h with
  | true,h=>h rfl
  | false,_=>tp_none
theorem tp_iff (h : b = true → TP x T) (k : b = false → TP y T) : TP (iff b x y) T:=match b,h,k with
  | true,h,_=>h rfl
  | false,_,k=>k rfl
end
inductive Bi where
  | len | max | min | sum | abs | sorted | list | tuple | dict | str | range | zip
noncomputable def biVal : Bi → Value
  | .len=>.builtin "len" | .max=>.builtin "max" | .min=>.builtin "min" | .sum=>.builtin "sum" | .abs=>.builtin "abs" | .sorted=>.builtin "sorted"
  | .list=>.type "list" | .tuple=>.type "tuple" | .dict=>.type "dict" | .str=>.type "str" | .range=>.type "range" | .zip=>.type "zip"
inductive AV where
  | none | any | bool (b : Bool) | int (i : Int) | str (s : Str) | sym (k : Nat) | tup (vs : List AV) | loc (n : Nat) | bs (n : Nat) | fn (a : Addr) | bi (b : Bi)
inductive AO where
  | list (n : Nat) (r : List AV) | dict (ks : List Str) (vs : List AV) | ns (ks : List Str) (vs : List AV) | inst (C : Addr) (d : Nat) | gone
abbrev Vs:=List (Str × AV)
abbrev Hs:=List AO
abbrev Kd:=List (Str × NameKind)
inductive TG where
  | nm (x : Str) | tp (xs : List Str)
inductive CE where
  | var (x : Str) | gv (i : Nat) | con (v : AV) | tup (es : List CE) | lst (es : List CE) | dct0 | dct1 (k v : CE)
  | sub (e i : CE) | rev (e : CE) | cut (e k : CE) | drop1 (e : CE) | cut0r (e : CE) | attr (e : CE) (n : Str)
  | call (f : CE) (as : List CE) | meth (o : CE) (n : Str) (as : List CE) | bin (op : Operator) (a b : CE) | cmp (op : CmpOp) (a b : CE)
  | nt (a : CE) | andl (es : List CE) | orl (es : List CE) | ite (c a b : CE)
  | comp (k : Nat) (elt : CE) (tg : TG) (src cs : List CE) (fv : List Str) | ecomp (src : CE) | bad
inductive CT where
  | nm (x : Str) | attr (e : CE) (n : Str) | sub (e i : CE) | tp (xs : List Str)
inductive CS where
  | asg (t : CT) (e : CE) | asgc (x : Str) (e : CE) | ex (e : CE) | ret (e : CE) | retN
  | ite (c : CE) (a b : List CS) | whl (c : CE) (b : List CS) | for (k : Nat) (t : TG) (src : List CE) (b : List CS) | bad
structure Fn where
  ps : List Str
  ds : List AV
  kd : Kd
  bd : List CS
structure Cl where
  init : Addr
  ms : List (Str × Addr)
  fs : List Str
structure Pg where
  gl : List (Str × AV)
  F : Hs
  fn : Addr → Option Fn
  cl : Addr → Option Cl
  ov : Addr → Option (List AV → Hs → Option (AV × Hs))
  kn : Nat → Nat → Option Bool
  kl : Nat → Str → Option Bool
inductive Fl where
  | next | ret (v : AV)
noncomputable def hget {α : Type} (l : List α) : Nat → Option α:=List.rec (motive:=fun _=>Nat → Option α) (fun _=>none) (fun a _ ih n=>Nat.casesOn (motive:=fun _=>Option α) n (some a) ih) l
noncomputable def snoc (H : Hs) (o : AO) : Hs:=List.rec (motive:=fun _=>Hs) [o] (fun a _ ih=>a :: ih) H
noncomputable def hlen (H : Hs) : Nat:=List.rec (motive:=fun _=>Nat) 0 (fun _ _ ih=>Nat.add ih 1) H
noncomputable def setN (H : Hs) : Nat → AO → Hs:=List.rec (motive:=fun _=>Nat → AO → Hs) (fun _ _=>[]) (fun a r ih i o=>Nat.casesOn (motive:=fun _=>Hs) i (o :: r) (fun j=>a :: ih j o)) H
noncomputable def leqb (l : List Nat) : List Nat → Bool:=List.rec (motive:=fun _=>List Nat → Bool) (fun m=>match m with | []=>true | _=>false) (fun a _ ih m=>match m with | b :: y=>(match Nat.beq a b with | true=>ih y | false=>false) | []=>false) l
noncomputable def seqb (a b : Str) : Bool:=leqb a.cps.toList b.cps.toList
noncomputable def look (V : Vs) (x : Str) : Option AV:=List.rec (motive:=fun _=>Option AV) none (fun p _ ih=>iff (seqb p.1 x) (some p.2) ih) V
noncomputable def put (V : Vs) (x : Str) (v : AV) : Vs:=List.rec (motive:=fun _=>Vs) [(x,v)] (fun p r ih=>match seqb p.1 x with | true=>(x,v) :: r | false=>p :: ih) V
noncomputable def kget (ks : List Str) (x : Str) : List AV → Option AV:=List.rec (motive:=fun _=>List AV → Option AV) (fun _=>none) (fun k _ ih vs=>match vs with | v :: vs=>iff (seqb k x) (some v) (ih vs) | []=>none) ks
noncomputable def kput (ks : List Str) (x : Str) (v : AV) : List AV → List Str × List AV:=List.rec (motive:=fun _=>List AV → List Str × List AV) (fun _=>([x],[v]))
  (fun k r ih vs=>match vs with | w :: vs=>(match seqb k x with | true=>(k :: r,v :: vs) | false=>(match ih vs with | (a,b)=>(k :: a,w :: b))) | []=>([x],[v])) ks
noncomputable def khas (ks : List Str) (x : Str) : Bool:=List.rec (motive:=fun _=>Bool) false (fun k _ ih=>match seqb k x with | true=>true | false=>ih) ks
noncomputable def mget (ms : List (Str × Addr)) (x : Str) : Option Addr:=List.rec (motive:=fun _=>Option Addr) none (fun p _ ih=>iff (seqb p.1 x) (some p.2) ih) ms
noncomputable def small (n : Nat) : Bool:=Nat.ble n 1000000
noncomputable def isubA (a b : Int) : Int:=match b with
  | .ofNat 1=>(match a with | .ofNat (n + 1)=>.ofNat n | a=>a - 1)
  | b=>a - b
noncomputable def ileA (a b : Int) : Bool:=match a,b with
  | .ofNat 0,.ofNat _=>true
  | .ofNat m,.ofNat n=>Nat.ble m n
  | .ofNat _,.negSucc _=>false
  | .negSucc _,.ofNat _=>true
  | .negSucc m,.negSucc n=>Nat.ble n m
noncomputable def ieqA (a b : Int) : Bool:=match a,b with
  | .ofNat m,.ofNat n=>Nat.beq m n
  | .negSucc m,.negSucc n=>Nat.beq m n
  | _,_=>false
noncomputable def intSmall (i : Int) : Bool:=match i with
  | .ofNat n=>Nat.ble n 4611686018427387904
  | .negSucc n=>Nat.ble n 4611686018427387904
section
variable {γ : Type}
noncomputable def asInt (v : AV) (k : Int → Option γ) : Option γ:=match v with | .int i=>k i | _=>none
noncomputable def asNat (v : AV) (k : Nat → Option γ) : Option γ:=asInt v fun i=>match i with | .ofNat n=>k n | .negSucc _=>none
noncomputable def asStr (v : AV) (k : Str → Option γ) : Option γ:=match v with | .str s=>k s | _=>none
noncomputable def asTup (v : AV) (k : List AV → Option γ) : Option γ:=match v with | .tup vs=>k vs | _=>none
noncomputable def asBool (v : AV) (k : Bool → Option γ) : Option γ:=match v with | .bool b=>k b | _=>none
noncomputable def asNone (v : AV) (x : Option γ) : Option γ:=match v with | .none=>x | _=>none
noncomputable def asLoc (v : AV) (k : Nat → Option γ) : Option γ:=match v with | .loc i=>k i | _=>none
noncomputable def obOf (F H : Hs) (v : AV) (k : Hs → AO → Option γ) : Option γ:=match v with
  | .loc i=>bn1 (hget H i) (k H)
  | .bs i=>bn1 (hget F i) (k F)
  | _=>none
noncomputable def asList (o : AO) (k : Nat → List AV → Option γ) : Option γ:=match o with | .list n r=>k n r | _=>none
noncomputable def asDict (o : AO) (k : List Str → List AV → Option γ) : Option γ:=match o with | .dict ks vs=>k ks vs | _=>none
noncomputable def asNs (o : AO) (k : List Str → List AV → Option γ) : Option γ:=match o with | .ns ks vs=>k ks vs | _=>none
noncomputable def asInst (o : AO) (k : Addr → Nat → Option γ) : Option γ:=match o with | .inst C d=>k C d | _=>none
noncomputable def lstAt (H : Hs) (v : AV) (k : Nat → Nat → List AV → Option γ) : Option γ:=asLoc v fun i=>bn1 (hget H i) fun o=>asList o (k i)
end
noncomputable def and3 (a b : Option Bool) : Option Bool:=match a with
  | some false=>some false
  | some true=>b
  | none=>(match b with | some false=>some false | _=>none)
noncomputable def notO (a : Option Bool) : Option Bool:=match a with | some b=>some (!b) | none=>none
noncomputable def orO (a b : Option Bool) : Option Bool:=match a with
  | some true=>some true
  | some false=>b
  | none=>(match b with | some true=>some true | _=>none)
noncomputable def cpl (v : AV) : Nat → Bool:=AV.rec (motive_1:=fun _=>Nat → Bool) (motive_2:=fun _=>Nat → Bool) (fun _=>true) (fun _=>false) (fun _ _=>true) (fun _ _=>true) (fun _ _=>true) (fun _ _=>true)
  (fun _ ih d=>Nat.casesOn (motive:=fun _=>Bool) d false ih) (fun _ _=>false) (fun _ _=>false) (fun _ _=>false) (fun _ _=>false) (fun _=>true) (fun _ _ a b d=>match a d with | true=>b d | false=>false) v
noncomputable def cplL (l : List AV) (d : Nat) : Bool:=List.rec (motive:=fun _=>Bool) true (fun v _ ih=>match cpl v d with | true=>ih | false=>false) l
noncomputable def nonStr (b : AV) : Option Bool:=match b with | .none | .bool _ | .int _ | .tup _=>some false | _=>none
noncomputable def aeq (G : Pg) (x : AV) : AV → Option Bool:=AV.rec (motive_1:=fun _=>AV → Option Bool) (motive_2:=fun _=>List AV → Option Bool)
  (fun b=>match b with | .none=>some true | .bool _ | .int _ | .str _ | .sym _ | .tup _=>some false | _=>none)
  (fun _=>none)
  (fun x b=>match b with | .bool y=>some (Bool.rec (Bool.rec true false y) y x) | .none | .str _ | .sym _ | .tup _=>some false | _=>none)
  (fun x b=>match b with | .int y=>some (ieqA x y) | .none | .str _ | .sym _ | .tup _=>some false | _=>none)
  (fun x b=>match b with | .str y=>some (seqb x y) | .sym k=>G.kl k x | b=>nonStr b)
  (fun k b=>match b with | .sym j=>iff (Nat.beq k j) (some true) (G.kn k j) | .str y=>G.kl k y | b=>nonStr b)
  (fun _ ih b=>match b with | .tup ys=>ih ys | .none | .bool _ | .int _ | .str _ | .sym _=>some false | _=>none)
  (fun _ _=>none) (fun _ _=>none) (fun _ _=>none) (fun _ _=>none)
  (fun b=>match b with | []=>some true | _ :: _=>some false)
  (fun _ _ f fs b=>match b with | []=>some false | y :: ys=>and3 (fs ys) (f y)) x
noncomputable def eqT (G : Pg) (x y : AV) : Option Bool:=grd (cpl x 40) (grd (cpl y 40) (aeq G x y))
noncomputable def eqLs (G : Pg) (xs ys : List AV) : Option Bool:=match xs,ys with
  | [],[]=>some true
  | [],_ :: _=>some false
  | _ :: _,[]=>some false
  | [x],[y]=>eqT G x y
  | _,_=>none
noncomputable def ain1 (G : Pg) (x : AV) (l : List AV) : Option Bool:=List.rec (motive:=fun _=>Option Bool) (some false) (fun y _ ih=>orO (aeq G y x) ih) l
noncomputable def ain (G : Pg) (x : AV) (ys : List AV) : Option Bool:=grd (cpl x 40) (grd (cplL ys 40) (ain1 G x ys))
end
noncomputable section
inductive Sr where
  | fix (vs : List AV) | lst (i k : Nat) | rng (k n : Nat) | nil | zip (i j k : Nat)
structure Rec where
  call : AV → List AV → Hs → Option (AV × Hs)
  lf : Nat
section
variable {γ : Type}
noncomputable def as1 (l : List AV) (k : AV → Option γ) : Option γ:=match l with | [x]=>k x | _=>none
noncomputable def as2 (l : List AV) (k : AV → AV → Option γ) : Option γ:=match l with | [x,y]=>k x y | _=>none
noncomputable def as0 (l : List AV) (x : Option γ) : Option γ:=match l with | []=>x | _=>none
end
noncomputable def idx (n : Nat) (k : Int) : Option Nat:=match k with
  | .ofNat j=>grd (Nat.blt j n) (grd (Nat.ble j 1000000) (some j))
  | .negSucc j=>grd (Nat.blt j n) (grd (Nat.ble j 1000000) (some (n - (j + 1))))
noncomputable def getL (vs : List AV) (i : AV) : Option AV:=asInt i fun k=>bn1 (idx vs.length k) fun j=>hget vs j
noncomputable def getI (F H : Hs) (o i : AV) : Option AV:=match o with
  | .tup vs=>getL vs i
  | o=>obOf F H o fun _ ob=>match ob with
    | .list _ r=>getL r.reverse i
    | .dict ks vs=>asStr i fun x=>kget ks x vs
    | _=>none
noncomputable def isAny (v : AV) : Bool:=match v with | .any=>true | _=>false
noncomputable def attrOf (G : Pg) (H : Hs) (o : AV) (n : Str) : Option AV:=obOf G.F H o fun L ob=>asInst ob fun C d=>bn1 (G.cl C) fun c=>grd (khas c.fs n) (bn1 (hget L d) fun x=>asNs x fun ks vs=>bn1 (kget ks n vs) fun v=>iff (isAny v) none (some v))
noncomputable def items (F H : Hs) (v : AV) : Option (List AV):=match v with
  | .tup vs=>some vs
  | v=>obOf F H v fun _ ob=>asList ob fun _ r=>some r.reverse
noncomputable def lenOf (F H : Hs) (v : AV) : Option Nat:=match v with
  | .tup vs=>some vs.length
  | v=>obOf F H v fun _ ob=>match ob with | .list _ r=>some r.length | .dict ks _=>some ks.length | _=>none
noncomputable def rep (k : Nat) (vs : List AV) : List AV:=Nat.rec (motive:=fun _=>List AV) [] (fun _ ih=>vs ++ ih) k
noncomputable def newL (n : Nat) (r : List AV) (H : Hs) : Option (AV × Hs):=some (.loc (hlen H),snoc H (.list n r))
noncomputable def addOp (a b : AV) (H : Hs) : Option (AV × Hs):=match a with
  | .int x=>asInt b fun y=>some (.int (x + y),H)
  | .str x=>asStr b fun y=>grd (small (x.cps.toList.length + y.cps.toList.length)) (some (.str ⟨(x.cps.toList ++ y.cps.toList).toArray⟩,H))
  | .tup xs=>asTup b fun ys=>grd (small (xs.length + ys.length)) (some (.tup (xs ++ ys),H))
  | a=>lstAt H a fun _ n r=>lstAt H b fun _ m q=>grd (small (n + m)) (newL (n + m) (q ++ r) H)
noncomputable def mulOp (a b : AV) (H : Hs) : Option (AV × Hs):=match a with
  | .int x=>asInt b fun y=>grd (intSmall y) (some (.int (x * y),H))
  | .tup xs=>asNat b fun k=>grd (Nat.ble k 1000000) (grd (small (k * xs.length)) (some (.tup (rep k xs),H)))
  | a=>lstAt H a fun _ n r=>asNat b fun k=>grd (Nat.ble k 1000000) (grd (small (k * n)) (newL (k * n) (rep k r) H))
noncomputable def divOp (f : Int → Int → Int) (a b : AV) (H : Hs) : Option (AV × Hs):=asInt a fun x=>asNat b fun k=>match k with
  | 0=>none
  | k + 1=>grd (small k) (some (.int (f x (.ofNat (k + 1))),H))
noncomputable def modOp (a b : AV) (H : Hs) : Option (AV × Hs):=asInt a fun x=>asNat b fun k=>match k with
  | 0=>none
  | k + 1=>some (.int (Int.fmod x (.ofNat (k + 1))),H)
noncomputable def powOp (a b : AV) (H : Hs) : Option (AV × Hs):=asInt a fun x=>asInt b fun y=>grd (ieqA x (.ofNat 10)) (grd (ieqA y (.ofNat 40)) (some (.int (.ofNat 10000000000000000000000000000000000000000),H)))
noncomputable def binOp (op : Operator) (a b : AV) (H : Hs) : Option (AV × Hs):=match op with
  | .Add=>addOp a b H
  | .Sub=>asInt a fun x=>asInt b fun y=>some (.int (isubA x y),H)
  | .Mult=>mulOp a b H
  | .FloorDiv=>divOp Int.fdiv a b H
  | .Mod=>modOp a b H
  | .Pow=>powOp a b H
  | _=>none
noncomputable def eqV (G : Pg) (H : Hs) (a b : AV) : Option Bool:=match a with
  | .loc _=>lstAt H a fun _ _ r=>lstAt H b fun _ _ q=>eqLs G r q
  | a=>eqT G a b
noncomputable def inV (G : Pg) (H : Hs) (x c : AV) : Option Bool:=match c with
  | .tup vs=>ain G x vs
  | c=>obOf G.F H c fun _ ob=>match ob with
    | .list _ r=>ain G x r.reverse
    | .dict ks _=>asStr x fun s=>some (khas ks s)
    | _=>none
noncomputable def isN (a b : AV) : Option Bool:=asNone b (match a with | .none=>some true | .bool _ | .int _ | .str _ | .sym _ | .tup _ | .loc _ | .bs _=>some false | _=>none)
noncomputable def cmpI (f : Int → Int → Bool) (a b : AV) : Option Bool:=asInt a fun x=>asInt b fun y=>some (f x y)
noncomputable def cmpOp (G : Pg) (H : Hs) (op : CmpOp) (a b : AV) : Option Bool:=match op with
  | .Eq=>eqV G H a b
  | .NotEq=>notO (eqV G H a b)
  | .In=>inV G H a b
  | .NotIn=>notO (inV G H a b)
  | .Is=>isN a b
  | .IsNot=>notO (isN a b)
  | .Lt=>cmpI (fun x y=>!(ileA y x)) a b
  | .LtE=>cmpI ileA a b
  | .Gt=>cmpI (fun x y=>!(ileA x y)) a b
  | .GtE=>cmpI (fun x y=>ileA y x) a b
noncomputable def intsA (l : List AV) : Option (List Int):=List.rec (motive:=fun _=>Option (List Int)) (some []) (fun v _ ih=>asInt v fun i=>bn1 ih fun l=>some (i :: l)) l
noncomputable def sumI (l : List Int) : Int:=List.rec (motive:=fun _=>Int) 0 (fun i _ ih=>i + ih) l
noncomputable def pairs (l : List AV) : List Str → List AV → Option (List Str × List AV):=List.rec (motive:=fun _=>List Str → List AV → Option (List Str × List AV)) (fun ks vs=>some (ks,vs))
  (fun p _ ih ks vs=>asTup p fun q=>as2 q fun k v=>asStr k fun x=>match kput ks x v vs with | (ks',vs')=>ih ks' vs') l
noncomputable def digit (k : Nat) : Option Str:=grd (Nat.blt k 10) (some ⟨#[48 + k]⟩)
noncomputable def bi1 (b : Bi) (F : Hs) (x : AV) (H : Hs) : Option (AV × Hs):=match b with
  | .len=>bn1 (lenOf F H x) fun n=>grd (small n) (some (.int (.ofNat n),H))
  | .list=>bn1 (items F H x) fun vs=>grd (small vs.length) (newL vs.length vs.reverse H)
  | .tuple=>(match x with
    | .tup vs=>some (.tup vs,H)
    | x=>lstAt H x fun _ n r=>grd (small n) (some (.tup r.reverse,H)))
  | .dict=>lstAt H x fun _ n r=>grd (small n) (bnd (pairs r.reverse [] []) fun ks vs=>some (.loc (hlen H),snoc H (.dict ks vs)))
  | .sum=>lstAt H x fun _ _ r=>bn1 (intsA r.reverse) fun l=>some (.int (sumI l),H)
  | .abs=>asInt x fun i=>some (.int (.ofNat i.natAbs),H)
  | .str=>asNat x fun k=>bn1 (digit k) fun s=>some (.str s,H)
  | .sorted=>asLoc x fun i=>bn1 (hget H i) fun o=>asDict o fun ks _=>(match ks with
    | []=>newL 0 [] H
    | [k]=>newL 1 [.str k] H
    | _=>none)
  | _=>none
noncomputable def bi2 (b : Bi) (x y : AV) (H : Hs) : Option (AV × Hs):=match b with
  | .max=>asInt x fun i=>asInt y fun j=>some (.int (match ileA j i with | true=>i | false=>j),H)
  | .min=>asInt x fun i=>asInt y fun j=>some (.int (match ileA i j with | true=>i | false=>j),H)
  | _=>none
noncomputable def biCall (b : Bi) (F : Hs) (as : List AV) (H : Hs) : Option (AV × Hs):=match as with
  | [x]=>bi1 b F x H
  | [x,y]=>bi2 b x y H
  | _=>none
noncomputable def s_append : Str:=⟨#[97,112,112,101,110,100]⟩
noncomputable def s_extend : Str:=⟨#[101,120,116,101,110,100]⟩
noncomputable def s_pop : Str:=⟨#[112,111,112]⟩
noncomputable def s_get : Str:=⟨#[103,101,116]⟩
noncomputable def s_split : Str:=⟨#[115,112,108,105,116]⟩
noncomputable def s_T2 : Str:=⟨#[84,46,50]⟩
noncomputable def s_bang : Str:=⟨#[33]⟩
inductive BM where
  | append | extend | pop | get | split
inductive MK where
  | bm (b : BM) | fm (a : Addr)
noncomputable def mth (G : Pg) (H : Hs) (u : AV) (m : Str) : Option MK:=match u with
  | .str _=>grd (seqb m s_split) (some (.bm .split))
  | u=>obOf G.F H u fun L o=>match o with
    | .list _ _=>iff (seqb m s_pop) (some (.bm .pop)) (iff (seqb m s_append) (some (.bm .append)) (grd (seqb m s_extend) (some (.bm .extend))))
    | .dict _ _=>grd (seqb m s_get) (some (.bm .get))
    | .inst C d=>bn1 (hget L d) fun x=>asNs x fun ks _=>bn1 (G.cl C) fun c=>bn1 (mget c.ms m) fun f=>iff (khas ks m) none (some (.fm f))
    | _=>none
noncomputable def mop (b : BM) (F : Hs) (u : AV) (as : List AV) (H : Hs) : Option (AV × Hs):=match b with
  | .append=>as1 as fun x=>lstAt H u fun i n r=>grd (small n) (some (.none,setN H i (.list (n + 1) (x :: r))))
  | .extend=>as1 as fun x=>lstAt H u fun i n r=>lstAt H x fun j k q=>iff (Nat.beq i j) none (grd (small (n + k)) (some (.none,setN H i (.list (n + k) (q ++ r)))))
  | .pop=>as0 as (lstAt H u fun i n r=>match r with | x :: r'=>grd (small n) (some (x,setN H i (.list n r'))) | []=>none)
  | .get=>as2 as fun k d=>obOf F H u fun _ o=>asDict o fun ks vs=>asStr k fun x=>some ((match kget ks x vs with | some v=>v | none=>d),H)
  | .split=>as1 as fun y=>asStr u fun s=>asStr y fun t=>grd (seqb s s_T2) (grd (seqb t s_bang) (newL 1 [.str s_T2] H))
noncomputable def low (n : Nat) (v : AV) : Bool:=AV.rec (motive_1:=fun _=>Bool) (motive_2:=fun _=>Bool) true true (fun _=>true) (fun _=>true) (fun _=>true) (fun _=>true) (fun _ ih=>ih) (fun i=>Nat.blt i n) (fun _=>true) (fun _=>true) (fun _=>true)
  true (fun _ _ a b=>match a with | true=>b | false=>false) v
noncomputable def lowL (n : Nat) (l : List AV) : Bool:=List.rec (motive:=fun _=>Bool) true (fun v _ ih=>match low n v with | true=>ih | false=>false) l
noncomputable def lowO (n : Nat) (o : AO) : Bool:=match o with
  | .list _ r=>lowL n r
  | .dict _ vs=>lowL n vs
  | .ns _ vs=>lowL n vs
  | .inst _ d=>Nat.blt d n
  | .gone=>true
noncomputable def cutH (n : Nat) (k : Nat) : Hs → Option Hs:=Nat.rec (motive:=fun _=>Hs → Option Hs) (fun _=>some []) (fun _ ih H=>match H with
  | o :: r=>grd (lowO n o) (bn1 (ih r) fun r'=>some (o :: r'))
  | []=>none) k
noncomputable def gcR (n : Nat) (v : AV) (H : Hs) : Option (AV × Hs):=match low n v with
  | true=>(match cutH n n H with | some H'=>some (v,H') | none=>some (v,H))
  | false=>some (v,H)
noncomputable def bindP (ps : List Str) (ds as : List AV) : Option Vs:=grd (Nat.ble as.length ps.length) (grd (Nat.ble ps.length (as.length + ds.length)) (some (ps.zip (as ++ ds.drop (ds.length + as.length - ps.length)))))
noncomputable def mkInst (a : Addr) (i : Addr) (call : AV → List AV → Hs → Option (AV × Hs)) (as : List AV) (H : Hs) : Option (AV × Hs):=
  bnd (call (.fn i) (.loc (hlen H + 1) :: as) (snoc (snoc H (.ns [] [])) (.inst a (hlen H)))) fun v H1=>asNone v (some (.loc (hlen H + 1),H1))
noncomputable def srcOf (F H : Hs) (v : AV) : Option Sr:=match v with
  | .tup vs=>some (.fix vs)
  | .loc i=>bn1 (hget H i) fun o=>asList o fun _ _=>some (.lst i 0)
  | .bs i=>bn1 (hget F i) fun o=>asList o fun _ r=>some (.fix r.reverse)
  | _=>none
noncomputable def mkSr (k : Nat) (F H : Hs) (vs : List AV) : Option Sr:=match k with
  | 0=>as1 vs fun v=>srcOf F H v
  | 1=>as1 vs fun v=>asNat v fun n=>grd (small n) (some (.rng 0 n))
  | _=>as2 vs fun v w=>match v with
    | .tup l=>as0 l (asTup w fun _=>some .nil)
    | .bs i=>bn1 (hget F i) fun o=>asList o fun _ r=>as0 r (asTup w fun _=>some .nil)
    | v=>lstAt H v fun i _ _=>lstAt H w fun j _ _=>some (.zip i j 0)
noncomputable def noTup (v : AV) : Bool:=match v with | .tup _=>false | _=>true
noncomputable def noTupL (l : List AV) : Bool:=List.rec (motive:=fun _=>Bool) true (fun v _ ih=>match noTup v with | true=>ih | false=>false) l
noncomputable def noTupO (o : AO) : Bool:=match o with
  | .list _ r=>noTupL r
  | .dict _ vs=>noTupL vs
  | .ns _ vs=>noTupL vs
  | _=>true
noncomputable def noTupH (H : Hs) : Bool:=List.rec (motive:=fun _=>Bool) true (fun o _ ih=>match noTupO o with | true=>ih | false=>false) H
noncomputable def noTupV (V : Vs) : Bool:=List.rec (motive:=fun _=>Bool) true (fun p _ ih=>match noTup p.2 with | true=>ih | false=>false) V
noncomputable def zipN (i j k : Nat) (r q : List AV) : Option (AV × Sr):=match hget r.reverse k with
  | none=>none
  | some v=>(match hget q.reverse k with | some w=>some (.tup [v,w],.zip i j (k + 1)) | none=>none)
noncomputable def nextS (V : Vs) (H : Hs) (s : Sr) : Option (Option (AV × Sr)):=match s with
  | .fix vs=>some (match vs with | []=>none | v :: r=>some (v,.fix r))
  | .lst i k=>bn1 (hget H i) fun o=>asList o fun _ r=>some (match hget r.reverse k with | some v=>some (v,.lst i (k + 1)) | none=>none)
  | .rng k n=>some (match Nat.blt k n with | true=>some (.int (.ofNat k),.rng (k + 1) n) | false=>none)
  | .nil=>some none
  | .zip i j k=>grd (noTupV V) (grd (noTupH H) (bn1 (hget H i) fun o=>asList o fun _ r=>bn1 (hget H j) fun o'=>asList o' fun _ q=>some (zipN i j k r q)))
noncomputable def putAll (xs : List Str) : Vs → List AV → Option Vs:=List.rec (motive:=fun _=>Vs → List AV → Option Vs) (fun V vs=>as0 vs (some V)) (fun x _ ih V vs=>match vs with | v :: vs=>ih (put V x v) vs | []=>none) xs
noncomputable def bindT (t : TG) (v : AV) (V : Vs) : Option Vs:=match t with
  | .nm x=>some (put V x v)
  | .tp xs=>asTup v fun vs=>putAll xs V vs
noncomputable def bindS (s : Sr) (t : TG) (v : AV) (V : Vs) : Option Vs:=match s with
  | .zip _ _ _=>(match t with | .tp xs=>bindT (.tp xs) v V | .nm _=>none)
  | _=>bindT t v V
noncomputable def restr (V : Vs) (l : List Str) : Vs:=List.rec (motive:=fun _=>Vs) [] (fun x _ ih=>match look V x with | some v=>(x,v) :: ih | none=>ih) l
abbrev D1:=Vs → Hs → Option (AV × Hs)
noncomputable def beqb (a b : Bool) : Bool:=match a with | true=>b | false=>!b
noncomputable def opU (op : BoolOp) : Bool:=match op with | .And=>true | .Or=>false
structure D2 where
  es : Vs → Hs → Option (List AV × Hs)
  cj : BoolOp → Vs → Hs → Option (Bool × Hs)
noncomputable def dNil : D2:=⟨fun _ H=>some ([],H),fun op _ H=>some (opU op,H)⟩
noncomputable def dCons (f : D1) (r : D2) : D2:=⟨fun V H=>bnd (f V H) fun v H1=>bnd (r.es V H1) fun vs H2=>some (v :: vs,H2),
  fun op V H=>bnd (f V H) fun v H1=>asBool v fun b=>iff (beqb b (opU op)) (r.cj op V H1) (some (b,H1))⟩
noncomputable def dLst (r : D2) : D1:=fun V H=>bnd (r.es V H) fun vs H1=>grd (small vs.length) (newL vs.length vs.reverse H1)
noncomputable def dTup (r : D2) : D1:=fun V H=>bnd (r.es V H) fun vs H1=>grd (small vs.length) (some (.tup vs,H1))
noncomputable def dDct0 : D1:=fun _ H=>some (.loc (hlen H),snoc H (.dict [] []))
noncomputable def dDct1 (k v : D1) : D1:=fun V H=>bnd (k V (snoc H (.dict [] []))) fun a H1=>asStr a fun x=>bnd (v V H1) fun u H2=>bn1 (hget H2 (hlen H)) fun o=>asDict o fun ks _=>match ks with
  | []=>some (.loc (hlen H),setN H2 (hlen H) (.dict [x] [u]))
  | _ :: _=>none
noncomputable def dSub (F : Hs) (a i : D1) : D1:=fun V H=>bnd (a V H) fun o H1=>bnd (i V H1) fun k H2=>bn1 (getI F H2 o k) fun v=>some (v,H2)
noncomputable def dSlc (f : List AV → List AV) (a : D1) : D1:=fun V H=>bnd (a V H) fun o H1=>lstAt H1 o fun _ n r=>grd (small n) (newL n (f r) H1)
noncomputable def le1 {γ : Type} (r : List AV) (x : Option γ) : Option γ:=match r with | []=>x | [_]=>x | _=>none
noncomputable def dCut0 (a : D1) : D1:=fun V H=>bnd (a V H) fun o H1=>lstAt H1 o fun _ n r=>grd (small n) (le1 r (newL n [] H1))
noncomputable def dCut (a k : D1) : D1:=fun V H=>bnd (a V H) fun o H1=>bnd (k V H1) fun b H2=>asNat b fun m=>lstAt H2 o fun _ n r=>grd (small n) (newL n (r.reverse.take m).reverse H2)
noncomputable def dAttr (G : Pg) (a : D1) (n : Str) : D1:=fun V H=>bnd (a V H) fun o H1=>bn1 (attrOf G H1 o n) fun v=>some (v,H1)
noncomputable def dCall (call : AV → List AV → Hs → Option (AV × Hs)) (f : D1) (as : D2) : D1:=fun V H=>bnd (f V H) fun g H1=>bnd (as.es V H1) fun vs H2=>call g vs H2
noncomputable def dMeth (G : Pg) (call : AV → List AV → Hs → Option (AV × Hs)) (o : D1) (m : Str) (as : D2) : D1:=fun V H=>bnd (o V H) fun u H1=>bn1 (mth G H1 u m) fun k=>bnd (as.es V H1) fun vs H2=>match k with
  | .bm b=>mop b G.F u vs H2
  | .fm f=>call (.fn f) (u :: vs) H2
noncomputable def dBin (op : Operator) (a b : D1) : D1:=fun V H=>bnd (a V H) fun x H1=>bnd (b V H1) fun y H2=>binOp op x y H2
noncomputable def dCmp (G : Pg) (op : CmpOp) (a b : D1) : D1:=fun V H=>bnd (a V H) fun x H1=>bnd (b V H1) fun y H2=>bn1 (cmpOp G H2 op x y) fun r=>some (.bool r,H2)
noncomputable def dNot (a : D1) : D1:=fun V H=>bnd (a V H) fun x H1=>asBool x fun b=>some (.bool (!b),H1)
noncomputable def dConj (op : BoolOp) (r : D2) : D1:=fun V H=>bnd (r.cj op V H) fun b H1=>some (.bool b,H1)
noncomputable def dIte (c a b : D1) : D1:=fun V H=>bnd (c V H) fun x H1=>asBool x fun t=>iff t (a V H1) (b V H1)
noncomputable def cmpL (elt : D1) (tg : TG) (cs : D2) (V : Vs) (j : Nat) (n : Nat) : Sr → Hs → Option Hs:=Nat.rec (motive:=fun _=>Sr → Hs → Option Hs) (fun _ _=>none) (fun _ ih s H=>bn1 (nextS V H s) fun x=>match x with
  | none=>some H
  | some (v,s')=>bn1 (bindS s' tg v V) fun V1=>bnd (cs.cj .And V1 H) fun t H1=>iff t
    (bnd (elt V1 H1) fun x H2=>bn1 (hget H2 j) fun o=>asList o fun n r=>grd (small n) (ih s' (setN H2 j (.list (n + 1) (x :: r)))))
    (ih s' H1)) n
noncomputable def dComp (F : Hs) (lf k : Nat) (elt : D1) (tg : TG) (src cs : D2) (fv : List Str) : D1:=fun V H=>bnd (src.es V H) fun vs H1=>bn1 (mkSr k F H1 vs) fun s=>bn1 (cmpL elt tg cs (restr V fv) (hlen H1) lf s (snoc H1 (.list 0 []))) fun H2=>some (.loc (hlen H1),H2)
noncomputable def dEcomp (F : Hs) (a : D1) : D1:=fun V H=>bnd (a V H) fun x H1=>bn1 (items F H1 x) fun vs=>as0 vs (newL 0 [] H1)
noncomputable def evD (G : Pg) (R : Rec) (e : CE) : D1:=CE.rec (motive_1:=fun _=>D1) (motive_2:=fun _=>D2)
  (fun x V H=>bn1 (look V x) fun v=>some (v,H)) (fun i _ H=>bn1 (hget G.gl i) fun p=>some (p.2,H)) (fun v _ H=>some (v,H))
  (fun _ r=>dTup r) (fun _ r=>dLst r) dDct0 (fun _ _ k v=>dDct1 k v) (fun _ _ a i=>dSub G.F a i) (fun _ a=>dSlc List.reverse a) (fun _ _ a k=>dCut a k) (fun _ a=>dSlc (fun r=>(r.reverse.drop 1).reverse) a) (fun _ a=>dCut0 a)
  (fun _ n a=>dAttr G a n) (fun _ _ f as=>dCall R.call f as) (fun _ m _ o as=>dMeth G R.call o m as) (fun op _ _ a b=>dBin op a b) (fun op _ _ a b=>dCmp G op a b)
  (fun _ a=>dNot a) (fun _ r=>dConj .And r) (fun _ r=>dConj .Or r) (fun _ _ _ c a b=>dIte c a b)
  (fun k _ tg _ _ fv elt src cs=>dComp G.F R.lf k elt tg src cs fv) (fun _ a=>dEcomp G.F a) (fun _ _=>none) dNil (fun _ _ f r=>dCons f r) e
noncomputable def evDs (G : Pg) (R : Rec) (l : List CE) : D2:=List.rec (motive:=fun _=>D2) dNil (fun e _ ih=>dCons (evD G R e) ih) l
abbrev D3:=Vs → Hs → Option (Fl × Vs × Hs)
noncomputable def nxt (V : Vs) (H : Hs) : Option (Fl × Vs × Hs):=some (.next,V,H)
noncomputable def bn3 {γ : Type} (o : Option (Fl × Vs × Hs)) (k : Vs → Hs → Option γ) (r : AV → Vs → Hs → Option γ) : Option γ:=match o with
  | some (.next,V,H)=>k V H
  | some (.ret v,V,H)=>r v V H
  | none=>none
noncomputable def rtn (v : AV) (V : Vs) (H : Hs) : Option (Fl × Vs × Hs):=some (.ret v,V,H)
noncomputable def setA (G : Pg) (H : Hs) (o : AV) (n : Str) (v : AV) : Option Hs:=asLoc o fun i=>bn1 (hget H i) fun ob=>asInst ob fun C d=>bn1 (G.cl C) fun c=>grd (khas c.fs n) (bn1 (hget H d) fun x=>asNs x fun ks vs=>grd (Nat.ble ks.length 900) (match kput ks n v vs with | (ks',vs')=>some (setN H d (.ns ks' vs'))))
noncomputable def setAt (l : List AV) : Nat → AV → List AV:=List.rec (motive:=fun _=>Nat → AV → List AV) (fun _ _=>[]) (fun a r ih j v=>Nat.casesOn (motive:=fun _=>List AV) j (v :: r) (fun j=>a :: ih j v)) l
noncomputable def setI (H : Hs) (o i v : AV) : Option Hs:=asLoc o fun n=>bn1 (hget H n) fun ob=>match ob with
  | .list m r=>asNat i fun j=>grd (Nat.blt j r.length) (grd (Nat.ble j 1000000) (some (setN H n (.list m (setAt r.reverse j v).reverse))))
  | .dict ks vs=>asStr i fun x=>grd (Nat.ble ks.length 900) (match kput ks x v vs with | (ks',vs')=>some (setN H n (.dict ks' vs')))
  | _=>none
noncomputable def asgT (G : Pg) (R : Rec) (t : CT) (v : AV) (V : Vs) (H : Hs) : Option (Fl × Vs × Hs):=match t with
  | .nm x=>nxt (put V x v) H
  | .attr o n=>bnd (evD G R o V H) fun u H2=>bn1 (setA G H2 u n v) fun H3=>nxt V H3
  | .sub o i=>bnd (evD G R o V H) fun u H2=>bnd (evD G R i V H2) fun k H3=>bn1 (setI H3 u k v) fun H4=>nxt V H4
  | .tp xs=>asTup v fun vs=>bn1 (putAll xs V vs) fun V1=>nxt V1 H
noncomputable def whlL (c : D1) (b : D3) (n : Nat) : D3:=Nat.rec (motive:=fun _=>D3) (fun _ _=>none) (fun _ ih V H=>bnd (c V H) fun x H1=>asBool x fun t=>iff t (bn3 (b V H1) ih rtn) (nxt V H1)) n
noncomputable def forL (t : TG) (b : D3) (n : Nat) : Sr → D3:=Nat.rec (motive:=fun _=>Sr → D3) (fun _ _ _=>none) (fun _ ih s V H=>bn1 (nextS V H s) fun x=>match x with
  | none=>nxt V H
  | some (v,s')=>bn1 (bindS s' t v V) fun V1=>bn3 (b V1 H) (ih s') rtn) n
noncomputable def exD (G : Pg) (R : Rec) (s : CS) : D3:=CS.rec (motive_1:=fun _=>D3) (motive_2:=fun _=>D3)
  (fun t e V H=>bnd (evD G R e V H) fun v H1=>asgT G R t v V H1) (fun x e V H=>bnd (evD G R e V H) fun v H1=>nxt (put V x v) H1)
  (fun e V H=>bnd (evD G R e V H) fun v H1=>asNone v (nxt V H1)) (fun e V H=>bnd (evD G R e V H) fun v H1=>rtn v V H1) (fun V H=>rtn .none V H)
  (fun c _ _ a b V H=>bnd (evD G R c V H) fun x H1=>asBool x fun t=>iff t (a V H1) (b V H1)) (fun c _ b=>whlL (evD G R c) b R.lf)
  (fun k t src _ b V H=>bnd ((evDs G R src).es V H) fun vs H1=>bn1 (mkSr k G.F H1 vs) fun s=>forL t b R.lf s V H1) (fun _ _=>none)
  nxt (fun _ _ f r V H=>bn3 (f V H) r rtn) s
noncomputable def exDs (G : Pg) (R : Rec) (l : List CS) : D3:=List.rec (motive:=fun _=>D3) nxt (fun s _ ih V H=>bn3 (exD G R s V H) ih rtn) l
noncomputable def callF (G : Pg) (R : Rec) (fn : Fn) (as : List AV) (H : Hs) : Option (AV × Hs):=bn1 (bindP fn.ps fn.ds as) fun V=>bn3 (exDs G R fn.bd V H) (fun _ H1=>gcR (hlen H) .none H1) (fun v _ H1=>gcR (hlen H) v H1)
noncomputable def callN (G : Pg) (R : Rec) (a : Addr) (as : List AV) (H : Hs) : Option (AV × Hs):=match G.fn a with
  | some fn=>callF G R fn as H
  | none=>bn1 (G.cl a) fun c=>mkInst a c.init R.call as H
noncomputable def callS (G : Pg) (R : Rec) (f : AV) (as : List AV) (H : Hs) : Option (AV × Hs):=match f with
  | .fn a=>(match G.ov a with
    | some g=>(match g as H with | some r=>some r | none=>callN G R a as H)
    | none=>callN G R a as H)
  | .bi b=>biCall b G.F as H
  | _=>none
noncomputable def run (G : Pg) (lf : Nat) (n : Nat) : Rec:=Nat.rec (motive:=fun _=>Rec) ⟨fun _ _ _=>none,lf⟩ (fun _ R=>⟨callS G R,lf⟩) n
end
theorem leqb_eq : ∀ {a b : List Nat},leqb a b = true → a = b:=fun {a}=>List.rec (motive:=fun a=>∀ {b : List Nat},leqb a b = true → a = b)
  (fun {b} h=>match b,h with | [],_=>rfl)
  (fun x r ih {b} h=>match b,h with
    | y :: q,h=>by
      have h : (match Nat.beq x y with | true=>leqb r q | false=>false) = true:=h
      cases e : Nat.beq x y with
      | true=>rw [e] at h; rw [Nat.eq_of_beq_eq_true e,ih h]
      | false=>rw [e] at h; cases h) a
theorem leqb_self : ∀ a : List Nat,leqb a a = true:=fun a=>List.rec (motive:=fun a=>leqb a a = true) rfl
  (fun x r ih=>by show (match Nat.beq x x with | true=>leqb r r | false=>false) = true; rw [Nat.beq_refl]; exact ih) a
theorem seqb_eq {a b : Str} (h : seqb a b = true) : a = b:=by
  cases a; cases b
  exact congrArg Str.mk (Array.toList_inj.mp (leqb_eq h))
theorem seqb_self (a : Str) : seqb a a = true:=leqb_self _
theorem seqb_ne {a b : Str} (h : seqb a b = false) : a ≠ b:=fun e=>by subst e; rw [seqb_self] at h; cases h
theorem seqb_iff {a b : Str} : seqb a b = true ↔ a = b:=⟨seqb_eq,fun e=>e ▸ seqb_self a⟩
section
variable {α : Type}
theorem hget_no {n : Nat} {a : α} (h : hget ([] : List α) n = some a) : False:=nomatch (show none = some a from h)
theorem hget_eq : ∀ (l : List α) (n : Nat),hget l n = l[n]?:=fun l=>List.rec (motive:=fun l=>∀ n,hget l n = l[n]?) (fun _=>rfl)
  (fun a r ih n=>match n with | 0=>rfl | n + 1=>(ih n).trans (List.getElem?_cons_succ ..).symm) l
theorem hget_lt {l : List α} {n : Nat} {a : α} (h : hget l n = some a) : n < l.length:=(List.getElem?_eq_some_iff.mp ((hget_eq l n).symm.trans h)).1
theorem hget_mem {l : List α} {n : Nat} {a : α} (h : hget l n = some a) : a ∈ l:=List.mem_of_getElem? ((hget_eq l n).symm.trans h)
theorem hget_app {l t : List α} {n : Nat} {a : α} (h : hget l n = some a) : hget (l ++ t) n = some a:=by
  rw [hget_eq,List.getElem?_append_left (hget_lt h),← hget_eq]; exact h
theorem hget_old {l t : List α} {n : Nat} {a : α} (h : hget (l ++ t) n = some a) (hn : n < l.length) : hget l n = some a:=by
  rw [hget_eq,List.getElem?_append_left hn,← hget_eq] at h; exact h
theorem hget_last (l : List α) (a : α) : hget (l ++ [a]) l.length = some a:=by
  rw [hget_eq,List.getElem?_append_right (Nat.le_refl _),Nat.sub_self]; rfl
theorem hget_of_lt {l : List α} {n : Nat} (h : n < l.length) : ∃ a,hget l n = some a:=⟨l[n],(hget_eq l n).trans (List.getElem?_eq_getElem h)⟩
theorem hget_inj {l : List α} (hn : l.Nodup) {i j : Nat} {a : α} (e : hget l i = some a) (f : hget l j = some a) : i = j:=by
  rw [hget_eq] at e f
  obtain ⟨h1,e1⟩:=List.getElem?_eq_some_iff.mp e
  obtain ⟨h2,e2⟩:=List.getElem?_eq_some_iff.mp f
  exact (List.getElem_inj (h₀:=h1) (h₁:=h2) hn).mp (e1.trans e2.symm)
end
theorem snoc_eq : ∀ (H : Hs) (o : AO),snoc H o = H ++ [o]:=fun H o=>List.rec (motive:=fun H=>snoc H o = H ++ [o]) rfl (fun a r ih=>congrArg (a :: ·) ih) H
theorem hlen_eq : ∀ H : Hs,hlen H = H.length:=fun H=>List.rec (motive:=fun H=>hlen H = H.length) rfl (fun a r ih=>congrArg (· + 1) ih) H
theorem setN_len : ∀ (H : Hs) (i : Nat) (o : AO),(setN H i o).length = H.length:=fun H=>List.rec (motive:=fun H=>∀ i o,(setN H i o).length = H.length) (fun _ _=>rfl)
  (fun a r ih i o=>match i with | 0=>rfl | i + 1=>congrArg (· + 1) (ih i o)) H
theorem setN_get : ∀ {H : Hs} {i j : Nat} {o x : AO},hget (setN H i o) j = some x → (i = j ∧ x = o) ∨ (i ≠ j ∧ hget H j = some x):=fun {H}=>List.rec (motive:=fun H=>∀ {i j : Nat} {o x : AO},hget (setN H i o) j = some x → (i = j ∧ x = o) ∨ (i ≠ j ∧ hget H j = some x))
  (fun h=>nomatch h)
  (fun a r ih {i j o x} h=>match i,j,h with
    | 0,0,h=>.inl ⟨rfl,(Option.some.inj h).symm⟩
    | 0,j + 1,h=>.inr ⟨(fun e=>nomatch e),h⟩
    | i + 1,0,h=>.inr ⟨(fun e=>nomatch e),h⟩
    | i + 1,j + 1,h=>(ih h).imp (fun e=>⟨congrArg (· + 1) e.1,e.2⟩) fun e=>⟨fun q=>e.1 (Nat.succ.inj q),e.2⟩) H
theorem look_put (V : Vs) (x y : Str) (v : AV) : look (put V x v) y = if x = y then some v else look V y:=by
  induction V with
  | nil=>
    show iff (seqb x y) (some v) none = _
    cases h : seqb x y with
    | true=>rw [if_pos (seqb_eq h)]; rfl
    | false=>rw [if_neg (seqb_ne h)]; rfl
  | cons p r ih=>
    have ep : put (p :: r) x v = match seqb p.1 x with | true=>(x,v) :: r | false=>p :: put r x v:=rfl
    rw [ep]
    cases h : seqb p.1 x with
    | true=>
      have e:=seqb_eq h
      show iff (seqb x y) (some v) (look r y) = if x = y then some v else iff (seqb p.1 y) (some p.2) (look r y)
      cases q : seqb x y with
      | true=>rw [if_pos (seqb_eq q)]; rfl
      | false=>rw [if_neg (seqb_ne q),e,q]; rfl
    | false=>
      show iff (seqb p.1 y) (some p.2) (look (put r x v) y) = if x = y then some v else iff (seqb p.1 y) (some p.2) (look r y)
      cases q : seqb p.1 y with
      | true=>rw [if_neg fun z=>seqb_ne h ((seqb_eq q).trans z.symm)]; rfl
      | false=>exact ih
inductive NilR : List Value → Prop
  | mk : NilR []
inductive ConsR (p : Value → Prop) (q : List Value → Prop) : List Value → Prop
  | mk (u : Value) (r : List Value) (hu : p u) (hr : q r) : ConsR p q (u :: r)
inductive IntR (i : Int) : Value → Prop
  | mk (t : Tok) : IntR i (.int i t)
inductive StrR (x : Str) : Value → Prop
  | mk (t : Tok) : StrR x (.str x t)
inductive TupR (h : Heap) (q : List Value → Prop) : Value → Prop
  | mk (a : Addr) (us : List Value) (ht : h.IsTuple a us.toArray) (hs : q us) : TupR h q (.ref a)
inductive LocR (ρ : List Addr) (n : Nat) : Value → Prop
  | mk (a : Addr) (ha : hget ρ n = some a) : LocR ρ n (.ref a)
structure Cx where
  prog : Program
  w : World
  σ : Nat → Str
  B : Heap
  F : List Addr
noncomputable def Cx.V (c : Cx) (h : Heap) (ρ : List Addr) (v : AV) : Value → Prop:=AV.rec (motive_1:=fun _=>Value → Prop) (motive_2:=fun _=>List Value → Prop)
  (fun u=>u = .none) (fun _=>True) (fun b u=>u = .bool b) IntR StrR (fun k=>StrR (c.σ k)) (fun _ q=>TupR h q) (LocR ρ) (LocR c.F) (fun a u=>u = .ref a) (fun b u=>u = biVal b) NilR (fun _ _=>ConsR) v
noncomputable def Cx.Vs (c : Cx) (h : Heap) (ρ : List Addr) (vs : List AV) : List Value → Prop:=AV.rec_1 (motive_1:=fun _=>Value → Prop) (motive_2:=fun _=>List Value → Prop)
  (fun u=>u = .none) (fun _=>True) (fun b u=>u = .bool b) IntR StrR (fun k=>StrR (c.σ k)) (fun _ q=>TupR h q) (LocR ρ) (LocR c.F) (fun a u=>u = .ref a) (fun b u=>u = biVal b) NilR (fun _ _=>ConsR) vs
theorem AV.ind {P : AV → Prop} (h : ∀ v,(∀ vs,v = .tup vs → ∀ x ∈ vs,P x) → P v) (v : AV) : P v:=
  AV.rec (motive_1:=P) (motive_2:=fun vs=>∀ x ∈ vs,P x) (h _ fun _ e=>nomatch e) (h _ fun _ e=>nomatch e) (fun _=>h _ fun _ e=>nomatch e) (fun _=>h _ fun _ e=>nomatch e) (fun _=>h _ fun _ e=>nomatch e) (fun _=>h _ fun _ e=>nomatch e)
    (fun vs ih=>h _ fun ws e=>by cases e; exact ih) (fun _=>h _ fun _ e=>nomatch e) (fun _=>h _ fun _ e=>nomatch e) (fun _=>h _ fun _ e=>nomatch e) (fun _=>h _ fun _ e=>nomatch e)
    (fun _ m=>nomatch m) (fun a r ia ir x m=>(List.mem_cons.mp m).elim (fun e=>e ▸ ia) (ir x)) v
abbrev kv (ks : List Str) (us : List Value) : List (Str × Value):=ks.zip us
section
variable {c : Cx} {h h' : Heap} {ρ ρ' : List Addr} {vs ws : List AV} {us xs : List Value} {v : AV} {u : Value}
theorem Cx.Vs.cons (e : c.V h ρ v u) (f : c.Vs h ρ vs us) : c.Vs h ρ (v :: vs) (u :: us):=ConsR.mk u us e f
theorem Cx.Vs.nil : c.Vs h ρ [] []:=NilR.mk
theorem Cx.Vs.one (e : c.V h ρ v u) : c.Vs h ρ [v] [u]:=.cons e .nil
theorem Cx.Vs.un (e : c.Vs h ρ (v :: vs) us) {M : List Value → Prop} (k : ∀ u r,c.V h ρ v u → c.Vs h ρ vs r → M (u :: r)) : M us:=
  match us,(show ConsR (c.V h ρ v) (c.Vs h ρ vs) us from e) with | _,.mk u r a b=>k u r a b
theorem Cx.Vs.un0 (e : c.Vs h ρ [] us) {M : List Value → Prop} (k : M []) : M us:=match us,(show NilR us from e) with | _,.mk=>k
theorem Cx.Vs.un1 (e : c.Vs h ρ [v] us) {M : List Value → Prop} (k : ∀ u,c.V h ρ v u → M [u]) : M us:=e.un fun u r a b=>Cx.Vs.un0 (M:=fun r=>M (u :: r)) b (k u a)
theorem Cx.Vs.len (e : c.Vs h ρ vs us) : vs.length = us.length:=by
  induction vs generalizing us with
  | nil=>exact e.un0 (M:=fun us=>0 = us.length) rfl
  | cons v vs ih=>exact e.un (M:=fun us=>vs.length + 1 = us.length) fun u r _ b=>congrArg (· + 1) (ih b)
theorem Cx.Vs.app (e : c.Vs h ρ vs us) (f : c.Vs h ρ ws xs) : c.Vs h ρ (vs ++ ws) (us ++ xs):=by
  induction vs generalizing us with
  | nil=>exact e.un0 (M:=fun us=>c.Vs h ρ ([] ++ ws) (us ++ xs)) f
  | cons v vs ih=>exact e.un (M:=fun us=>c.Vs h ρ (v :: vs ++ ws) (us ++ xs)) fun u r a b=>.cons a (ih b)
theorem Cx.Vs.split (e : c.Vs h ρ (vs ++ ws) us) {M : List Value → Prop} (k : ∀ a b,c.Vs h ρ vs a → c.Vs h ρ ws b → M (a ++ b)) : M us:=by
  induction vs generalizing us M with
  | nil=>exact k [] us .nil e
  | cons v vs ih=>exact Cx.Vs.un (vs:=vs ++ ws) e fun u r a b=>ih b (M:=fun r=>M (u :: r)) fun p q hp hq=>k (u :: p) q (.cons a hp) hq
theorem Cx.Vs.rev (e : c.Vs h ρ vs us) : c.Vs h ρ vs.reverse us.reverse:=by
  induction vs generalizing us with
  | nil=>exact e.un0 (M:=fun us=>c.Vs h ρ [] us.reverse) .nil
  | cons v vs ih=>exact e.un (M:=fun us=>c.Vs h ρ (v :: vs).reverse us.reverse) fun u r a b=>(by rw [List.reverse_cons,List.reverse_cons]; exact (ih b).app (.one a))
theorem Cx.Vs.get {i : Nat} (e : c.Vs h ρ vs us) (f : hget vs i = some v) : ∃ u,us[i]? = some u ∧ c.V h ρ v u:=by
  induction vs generalizing us i with
  | nil=>cases f
  | cons w vs ih=>exact e.un (M:=fun us=>∃ u,us[i]? = some u ∧ c.V h ρ v u) fun u r a b=>match i,f with
      | 0,f=>⟨u,rfl,Option.some.inj f ▸ a⟩
      | i + 1,f=>(ih b f).elim fun z q=>⟨z,(List.getElem?_cons_succ ..).trans q.1,q.2⟩
theorem Cx.Vs.take (n : Nat) (e : c.Vs h ρ vs us) : c.Vs h ρ (vs.take n) (us.take n):=by
  induction vs generalizing us n with
  | nil=>rw [List.take_nil]; exact e.un0 (M:=fun us=>c.Vs h ρ [] (us.take n)) (by rw [List.take_nil]; exact .nil)
  | cons v vs ih=>exact e.un (M:=fun us=>c.Vs h ρ ((v :: vs).take n) (us.take n)) fun u r a b=>match n with
      | 0=>.nil
      | n + 1=>.cons a (ih n b)
theorem Cx.Vs.drop (n : Nat) (e : c.Vs h ρ vs us) : c.Vs h ρ (vs.drop n) (us.drop n):=by
  induction vs generalizing us n with
  | nil=>rw [List.drop_nil]; exact e.un0 (M:=fun us=>c.Vs h ρ [] (us.drop n)) (by rw [List.drop_nil]; exact .nil)
  | cons v vs ih=>exact e.un (M:=fun us=>c.Vs h ρ ((v :: vs).drop n) (us.drop n)) fun u r a b=>match n with
      | 0=>.cons a b
      | n + 1=>ih n b
theorem Cx.Vs.map {p : AV → Prop} (k : ∀ x ∈ vs,∀ u,c.V h ρ x u → c.V h' ρ' x u) (e : c.Vs h ρ vs us) : c.Vs h' ρ' vs us:=by
  induction vs generalizing us with
  | nil=>exact e.un0 (M:=fun us=>c.Vs h' ρ' [] us) .nil
  | cons v vs ih=>exact e.un (M:=fun us=>c.Vs h' ρ' (v :: vs) us) fun u r a b=>.cons (k v (List.mem_cons_self ..) u a) (ih (fun x m=>k x (List.mem_cons_of_mem _ m)) b)
theorem Cx.V.mono (ht : ∀ a us,h.IsTuple a us → h'.IsTuple a us) (hp : ∀ (n : Nat) (a : Addr),hget ρ n = some a → hget ρ' n = some a) : ∀ {v : AV} {u : Value},c.V h ρ v u → c.V h' ρ' v u:=fun {v}=>
  AV.ind (P:=fun v=>∀ {u : Value},c.V h ρ v u → c.V h' ρ' v u) (fun v ih {u} e=>match v,ih,e with
    | .none,_,e=>e | .any,_,e=>e | .bool _,_,e=>e | .int _,_,e=>e | .str _,_,e=>e | .sym _,_,e=>e | .bs _,_,e=>e | .fn _,_,e=>e | .bi _,_,e=>e
    | .tup vs,ih,e=>match u,(show TupR h (c.Vs h ρ vs) u from e) with | _,.mk a us t q=>TupR.mk a us (ht _ _ t) (Cx.Vs.map (p:=fun _=>True) (fun x m u=>ih vs rfl x m) q)
    | .loc n,_,e=>match u,(show LocR ρ n u from e) with | _,.mk a q=>LocR.mk a (hp _ _ q)) v
theorem Cx.Vs.mono (ht : ∀ a us,h.IsTuple a us → h'.IsTuple a us) (hp : ∀ (n : Nat) (a : Addr),hget ρ n = some a → hget ρ' n = some a) (e : c.Vs h ρ vs us) : c.Vs h' ρ' vs us:=
  Cx.Vs.map (p:=fun _=>True) (fun _ _ _=>Cx.V.mono ht hp) e
end
section
variable (c : Cx)
inductive ListR (h : Heap) (ρ : List Addr) (n : Nat) (r : List AV) (a : Addr) : Prop
  | mk (us : List Value) (hn : r.length ≤ n) (hp : h.PlainList a us.toArray) (hv : c.Vs h ρ r.reverse us)
inductive DictR (h : Heap) (ρ : List Addr) (ks : List Str) (vs : List AV) (a : Addr) : Prop
  | mk (us : List Value) (h0 : (a == sysModules) = false) (hd : h.DictOf (strKind c.prog c.w) a (kv ks us)) (hl : ks.length = us.length) (hv : c.Vs h ρ vs us)
inductive NsR (h : Heap) (ρ : List Addr) (ks : List Str) (vs : List AV) (a : Addr) : Prop
  | mk (m : Str → Option Value) (us : List Value) (hn : h.Ns1 a m) (hl : ks.length = us.length) (hm : ∀ x,m x = valueAt (kv ks us) x) (hv : c.Vs h ρ vs us)
inductive InstR (h : Heap) (ix : List Addr) (C : Addr) (d : Nat) (a : Addr) : Prop
  | mk (dx : Addr) (hi : h.get? a = some (instObj C dx)) (hd : hget ix d = some dx)
def ORel (h : Heap) (ρ ix : List Addr) (o : AO) (a : Addr) : Prop:=match o with
  | .list n r=>ListR c h ρ n r a
  | .dict ks vs=>DictR c h ρ ks vs a
  | .ns ks vs=>NsR c h ρ ks vs a
  | .inst C d=>InstR h ix C d a
  | .gone=>True
inductive NewR (h : Heap) (a : Addr) : Prop
  | mk (o : Obj) (hB : c.B.get? a = none) (he : h.get? a = some o) (ht : ∀ us,¬ h.IsTuple a us)
structure RelH (ρ : List Addr) (H : Hs) (h : Heap) : Prop where
  keep : ∀ a o,c.B.get? a = some o → h.get? a = some o
  len : ρ.length = H.length
  nodup : ρ.Nodup
  new : ∀ a ∈ ρ,NewR c h a
  obj : ∀ (i : Nat) (a : Addr) (o : AO),hget ρ i = some a → hget H i = some o → ORel c h ρ ρ o a
def LV (h : Heap) (ρ : List Addr) (kd : Kd) (V : Vs) (m : Str → Option Value) : Prop:=∀ x v,look V x = some v → kd.lookup x = some .local → ∃ u,m x = some u ∧ c.V h ρ v u
inductive LocsR (h : Heap) (ρ : List Addr) (kd : Kd) (V : Vs) (L : Addr) : Prop
  | mk (m : Str → Option Value) (hn : h.Ns L m) (hv : LV c h ρ kd V m)
inductive CellR (h : Heap) (ρ : List Addr) (L a : Addr) : Prop
  | mk (v0 : Option Value) (hB : c.B.get? a = none) (hρ : a ∉ ρ) (hL : a ≠ L) (hc : h.IsCell a v0)
inductive CvR (h : Heap) (ρ : List Addr) (v : AV) (a : Addr) : Prop
  | mk (u : Value) (hc : h.IsCell a (some u)) (hv : c.V h ρ v u)
structure RelV (env : Env) (kd : Kd) (V : Vs) (ρ : List Addr) (h : Heap) : Prop where
  kind : env.scope.kind = .function
  names : env.scope.names = kd
  glob : env.globals = mainGlobals
  blt : env.builtins = builtinsNs
  loc : LocsR c h ρ kd V env.locals
  locNew : c.B.get? env.locals = none
  locρ : env.locals ∉ ρ
  cells : ∀ x a,env.cells.lookup x = some a → CellR c h ρ env.locals a
  apart : ∀ x y a,env.cells.lookup x = some a → env.cells.lookup y = some a → x = y
  has : ∀ x,kd.lookup x = some .cell ∨ kd.lookup x = some .free → (env.cells.lookup x).isSome = true
  cvar : ∀ x v a,look V x = some v → kd.lookup x = some .cell ∨ kd.lookup x = some .free → env.cells.lookup x = some a → CvR c h ρ v a
def ownOf (env : Env) (a : Addr) : Prop:=a = env.locals ∨ ∃ x,env.cells.lookup x = some a
inductive Ext (ρ ρ' : List Addr) (h : Heap) : Prop
  | mk (t : List Addr) (e : ρ' = ρ ++ t) (k : ∀ a ∈ t,h.get? a = none)
structure Step (ρ : List Addr) (X : Addr → Prop) (ρ' : List Addr) (h h' : Heap) : Prop where
  keep : ∀ a o,h.get? a = some o → a ∉ ρ → ¬ X a → h'.get? a = some o
  pre : Ext ρ ρ' h
  live : ∀ a o,h.get? a = some o → ∃ o',h'.get? a = some o'
def noX : Addr → Prop:=fun _=>False
end
structure Same (s s' : Shared) : Prop where
  g : s'.gens = s.gens
  d : s'.drawn = s.drawn
  o : s'.os = s.os
theorem Same.refl (s : Shared) : Same s s:=⟨rfl,rfl,rfl⟩
theorem Same.trans {a b d : Shared} (x : Same a b) (y : Same b d) : Same a d:=⟨y.1.trans x.1,y.2.trans x.2,y.3.trans x.3⟩
structure AOk (A : Around) (n : Nat) : Prop where
  hd : A.handled = none
  depth : A.depth + n < recursionLimit
  units : A.units + 16 * n + 100 < cLine
theorem AOk.le {A : Around} {n m : Nat} (x : AOk A n) (h : m ≤ n) : AOk A m:=⟨x.hd,Nat.lt_of_le_of_lt (Nat.add_le_add_left h _) x.depth,Nat.lt_of_le_of_lt (Nat.add_le_add_right (Nat.add_le_add_left (Nat.mul_le_mul_left 16 h) _) _) x.units⟩
theorem AOk.deeper {A : Around} {n : Nat} (x : AOk A (n + 1)) (env : Env) : AOk (A.deeper env) n:=⟨x.hd,by have:=x.depth; show A.depth + 1 + n < _; omega,by have:=x.units; show A.units + 3 + _ + _ < _; omega⟩
theorem AOk.room {A : Around} {n : Nat} (x : AOk A n) : A.depth < recursionLimit:=Nat.lt_of_le_of_lt (Nat.le_add_right ..) x.depth
theorem AOk.u41 {A : Around} {n : Nat} (x : AOk A n) : A.units + 41 < cLine:=Nat.lt_of_le_of_lt (Nat.add_le_add (Nat.le_add_right _ (16 * n)) (Nat.le_of_ble_eq_true rfl)) x.units
section
variable {c : Cx} {ρ ρ' ρ'' ix ix' : List Addr} {X Y : Addr → Prop} {h h' h'' : Heap} {H H' : Hs} {env : Env} {kd : Kd} {V : Vs} {a : Addr} {o : AO} {ob : Obj}
theorem tup_keep {us : Array Value} (hk : ∀ o,h.get? a = some o → h'.get? a = some o) (t : h.IsTuple a us) : h'.IsTuple a us:=t.elim fun o q=>⟨o,hk o q.1,q.2⟩
theorem isTuple_data {us : Array Value} (t : h.IsTuple a us) (e : h.get? a = some ob) : ∃ n,ob.data = .seq us n:=t.elim fun o q=>Option.some.inj (q.1.symm.trans e) ▸ q.2.2
theorem notTup_cls (e : h.get? a = some ob) (hn : ob.cls ≠ .type "tuple") : ∀ us,¬ h.IsTuple a us:=fun us t=>t.elim fun o q=>hn (Option.some.inj (q.1.symm.trans e) ▸ q.2.1)
theorem notTup_data (e : h.get? a = some ob) (hn : ∀ us n,ob.data ≠ .seq us n) : ∀ us,¬ h.IsTuple a us:=fun us t=>(isTuple_data t e).elim fun n q=>hn us n q
theorem NewR.keep (x : NewR c h a) (hk : ∀ o,h.get? a = some o → h'.get? a = some o) : NewR c h' a:=match x with
  | .mk o hB he ht=>.mk o hB (hk o he) fun us t=>ht us (t.elim fun o' q=>⟨o,he,(Option.some.inj (q.1.symm.trans (hk o he)) : o' = o) ▸ q.2⟩)
theorem RelH.notTup (R : RelH c ρ H h) {us : Array Value} (t : h.IsTuple a us) : a ∉ ρ:=fun m=>match R.new a m with | .mk _ _ _ ht=>ht us t
theorem ns_data {m : Str → Option Value} (x : h.Ns a m) (e : h.get? a = some ob) : ∃ es ep,ob.data = .dict es ep:=x.elim fun o q=>q.elim fun es q=>q.elim fun ep q=>⟨es,ep,Option.some.inj (q.1.symm.trans e) ▸ q.2.1⟩
theorem ns_notTup {m : Str → Option Value} (x : h.Ns a m) : ∀ us,¬ h.IsTuple a us:=fun us t=>t.elim fun o q=>(ns_data x q.1).elim fun es z=>z.elim fun ep z=>q.2.2.elim fun n w=>nomatch z.symm.trans w
theorem cell_notTup {v : Option Value} (x : h.IsCell a v) : ∀ us,¬ h.IsTuple a us:=fun us t=>x.elim fun o q=>(isTuple_data t q.1).elim fun n w=>nomatch q.2.symm.trans w
theorem RelV.notOwn (R : RelV c env kd V ρ h) {us : Array Value} (t : h.IsTuple a us) : ¬ ownOf env a:=fun m=>m.elim (fun e=>match R.loc with | .mk m hn _=>ns_notTup (e ▸ hn) us t) fun m=>m.elim fun x q=>match R.cells x a q with | .mk _ _ _ _ hc=>cell_notTup hc us t
theorem Step.tup (R : RelH c ρ H h) (S : Step ρ X ρ' h h') (hX : ∀ a us,h.IsTuple a us → ¬ X a) {us : Array Value} (t : h.IsTuple a us) : h'.IsTuple a us:=tup_keep (fun o e=>S.keep a o e (R.notTup t) (hX a us t)) t
theorem Step.get (S : Step ρ X ρ' h h') {n : Nat} (e : hget ρ n = some a) : hget ρ' n = some a:=match S.pre with | .mk t q _=>q ▸ hget_app e
theorem Step.rel (R : RelH c ρ H h) (S : Step ρ X ρ' h h') (hX : ∀ a us,h.IsTuple a us → ¬ X a) {v : AV} {u : Value} (e : c.V h ρ v u) : c.V h' ρ' v u:=Cx.V.mono (fun _ _ t=>S.tup R hX t) (fun _ _ e=>S.get e) e
theorem Step.rels (R : RelH c ρ H h) (S : Step ρ X ρ' h h') (hX : ∀ a us,h.IsTuple a us → ¬ X a) {v : List AV} {u : List Value} (e : c.Vs h ρ v u) : c.Vs h' ρ' v u:=Cx.Vs.mono (fun _ _ t=>S.tup R hX t) (fun _ _ e=>S.get e) e
theorem noX_no : ∀ a us,h.IsTuple a us → ¬ noX a:=fun _ _ _ x=>x
theorem Ext.refl : Ext ρ ρ h:=.mk [] (List.append_nil ρ).symm fun _ m=>nomatch m
theorem Ext.one (ha : h.get? a = none) : Ext ρ (ρ ++ [a]) h:=.mk [a] rfl fun b m=>List.mem_singleton.mp m ▸ ha
theorem Step.refl : Step ρ X ρ h h:=⟨fun _ _ e _ _=>e,.refl,fun _ o e=>⟨o,e⟩⟩
theorem Step.mem (S : Step ρ X ρ' h h') (m : a ∈ ρ') : a ∈ ρ ∨ h.get? a = none:=match S.pre with | .mk t q ht=>(List.mem_append.mp (q ▸ m)).imp id (ht a)
theorem Step.not (S : Step ρ X ρ' h h') (e : h.get? a = some ob) (n : a ∉ ρ) : a ∉ ρ':=fun m=>(S.mem m).elim n fun q=>nomatch e.symm.trans q
theorem Step.none (S : Step ρ X ρ' h h') (e : h'.get? a = none) : h.get? a = none:=match q : h.get? a with
  | .none=>rfl
  | some o=>(S.live a o q).elim fun o' z=>nomatch z.symm.trans e
theorem Step.trans (S : Step ρ X ρ' h h') (T : Step ρ' X ρ'' h' h'') : Step ρ X ρ'' h h'':=⟨fun a o e n x=>T.keep a o (S.keep a o e n x) (S.not e n) x,
  match S.pre,T.pre with | .mk t e1 h1,.mk t' e2 h2=>.mk (t ++ t') (by rw [e2,e1,List.append_assoc]) fun a m=>(List.mem_append.mp m).elim (h1 a) fun m=>S.none (h2 a m),
  fun a o e=>(S.live a o e).elim fun o' e'=>T.live a o' e'⟩
theorem Step.weak (S : Step ρ X ρ' h h') (hXY : ∀ a o,h.get? a = some o → X a → Y a) : Step ρ Y ρ' h h':=⟨fun a o e n y=>S.keep a o e n fun x=>y (hXY a o e x),S.pre,S.live⟩
theorem Step.noX (S : Step ρ noX ρ' h h') : Step ρ Y ρ' h h':=S.weak fun _ _ _ x=>x.elim
theorem Step.keeps (hk : ∀ a o,h.get? a = some o → h'.get? a = some o) : Step ρ X ρ h h':=⟨fun a o e _ _=>hk a o e,.refl,fun a o e=>⟨o,hk a o e⟩⟩
theorem Step.add (hk : ∀ b x,h.get? b = some x → h'.get? b = some x) (ha : h.get? a = .none) : Step ρ X (ρ ++ [a]) h h':=⟨fun b o e _ _=>hk b o e,.one ha,fun b o e=>⟨o,hk b o e⟩⟩
theorem ORel.mono (ht : ∀ a us,h.IsTuple a us → h'.IsTuple a us) (hp : ∀ (n : Nat) (a : Addr),hget ρ n = some a → hget ρ' n = some a) (hi : ∀ (n : Nat) (a : Addr),hget ix n = some a → hget ix' n = some a) (hk : ∀ o,h.get? a = some o → h'.get? a = some o) (r : ORel c h ρ ix o a) : ORel c h' ρ' ix' o a:=match o,r with
  | .list n r',.mk us hn hp' hv=>.mk us hn (hp'.elim fun k e=>⟨k,hk _ e⟩) (.mono ht hp hv)
  | .dict ks vs,.mk us h0 hd hl hv=>.mk us h0 (hd.elim fun o q=>q.elim fun es q=>q.elim fun ep q=>⟨o,es,ep,hk o q.1,q.2⟩) hl (.mono ht hp hv)
  | .ns ks vs,.mk m us hn hl hm hv=>.mk m us (hn.elim fun o q=>q.elim fun es q=>q.elim fun ep q=>⟨o,es,ep,hk o q.1,q.2⟩) hl hm (.mono ht hp hv)
  | .inst C d,.mk dx e q=>.mk dx (hk _ e) (hi _ _ q)
  | .gone,_=>trivial
theorem RelH.keeps (R : RelH c ρ H h) (hk : ∀ a o,h.get? a = some o → h'.get? a = some o) : RelH c ρ H h':=
  ⟨fun a o e=>hk a o (R.keep a o e),R.len,R.nodup,fun a m=>(R.new a m).keep (hk a),fun i a o ea eo=>(R.obj i a o ea eo).mono (fun a _ t=>tup_keep (hk a) t) (fun _ _ e=>e) (fun _ _ e=>e) (hk a)⟩
theorem RelV.stepX (R : RelV c env kd V ρ h) (hr : ∀ {v : AV} {u : Value},c.V h ρ v u → c.V h' ρ' v u) (hk : ∀ b o,ownOf env b → h.get? b = some o → h'.get? b = some o) (hn : ∀ b o,ownOf env b → h.get? b = some o → b ∉ ρ → b ∉ ρ') : RelV c env kd V ρ' h':=
  ⟨R.kind,R.names,R.glob,R.blt,match R.loc with | .mk m hn hv=>.mk m (hn.elim fun o q=>q.elim fun es q=>q.elim fun ep q=>⟨o,es,ep,hk _ o (.inl rfl) q.1,q.2⟩) fun x v e k=>(hv x v e k).elim fun u z=>⟨u,z.1,hr z.2⟩,R.locNew,
    match R.loc with | .mk m hn' hv=>hn'.elim fun o q=>q.elim fun es q=>q.elim fun ep q=>hn _ o (.inl rfl) q.1 R.locρ,
    fun x a e=>match R.cells x a e with | .mk v0 hB hρ hL hc=>hc.elim fun o z=>.mk v0 hB (hn _ o (.inr ⟨x,e⟩) z.1 hρ) hL ⟨o,hk _ o (.inr ⟨x,e⟩) z.1,z.2⟩,R.apart,R.has,
    fun x v a e k f=>match R.cvar x v a e k f with | .mk u hc hv=>.mk u (hc.elim fun o z=>⟨o,hk _ o (.inr ⟨x,f⟩) z.1,z.2⟩) (hr hv)⟩
theorem RelV.step (RH : RelH c ρ H h) (R : RelV c env kd V ρ h) (S : Step ρ noX ρ' h h') : RelV c env kd V ρ' h':=
  R.stepX (S.rel RH noX_no) (fun b o w e=>S.keep b o e (w.elim (fun q=>q ▸ R.locρ) fun w=>w.elim fun x q=>match R.cells x b q with | .mk _ _ hρ _ _=>hρ) fun x=>x) fun b o _ e n=>S.not e n
theorem notOwn_tup (R : RelV c env kd V ρ h) : ∀ a us,h.IsTuple a us → ¬ ownOf env a:=fun _ _ t=>R.notOwn t
theorem push_keep {h : Heap} (o : Obj) : ∀ a x,h.get? a = some x → (h.push o).get? a = some x:=fun a _ e=>Heap.get?_push_of_some _ e
theorem RelH.push (R : RelH c ρ H h) (o : Obj) : RelH c ρ H (h.push o):=R.keeps (push_keep o)
theorem Step.push (o : Obj) : Step ρ X ρ h (h.push o):=.keeps (push_keep o)
theorem none_size (h : Heap) : h.get? h.objs.size = none:=match e : h.get? h.objs.size with
  | .none=>rfl
  | some o=>absurd (Heap.lt_size e) (Nat.lt_irrefl _)
theorem RelH.lt (R : RelH c ρ H h) (m : a ∈ ρ) : a < h.objs.size:=match R.new a m with | .mk _ _ e _=>Heap.lt_size e
theorem RelH.baseNone (R : RelH c ρ H h) (n : h.get? a = none) : c.B.get? a = none:=match e : c.B.get? a with
  | .none=>rfl
  | some o=>nomatch (R.keep a o e).symm.trans n
theorem RelH.fresh (R : RelH c ρ H h) (n : h.get? a = none) : a ∉ ρ:=fun m=>match R.new a m with | .mk _ _ e _=>nomatch e.symm.trans n
theorem RelH.add (R : RelH c ρ H h) (hk : ∀ b x,h.get? b = some x → h'.get? b = some x) (ha : h.get? a = none) (e : h'.get? a = some ob) (hn : ∀ us,¬ h'.IsTuple a us) (r : ORel c h' (ρ ++ [a]) (ρ ++ [a]) o a) :
    RelH c (ρ ++ [a]) (snoc H o) h':=by
  refine ⟨fun b x q=>hk b x (R.keep b x q),by rw [snoc_eq,List.length_append,List.length_append,R.len]; rfl,?_,fun b m=>(List.mem_append.mp m).elim (fun m=>(R.new b m).keep (hk b)) fun m=>List.mem_singleton.mp m ▸ .mk ob (R.baseNone ha) e hn,fun i b x eb ex=>?_⟩
  · exact List.nodup_append.mpr ⟨R.nodup,List.pairwise_singleton ..,fun x hx y hy q=>R.fresh ha (List.mem_singleton.mp hy ▸ q ▸ hx)⟩
  · rw [snoc_eq] at ex
    by_cases hi : i < ρ.length
    · exact (R.obj i b x (hget_old eb hi) (hget_old ex (R.len ▸ hi))).mono (fun a _ t=>tup_keep (hk a) t) (fun _ _ q=>hget_app q) (fun _ _ q=>hget_app q) (hk b)
    · have hi' : i = ρ.length:=Nat.le_antisymm (Nat.le_of_lt_succ (by have:=hget_lt eb; rwa [List.length_append] at this)) (Nat.not_lt.mp hi)
      subst hi'
      rw [R.len,hget_last] at ex
      rw [hget_last] at eb
      exact Option.some.inj eb ▸ Option.some.inj ex ▸ r
theorem RelH.change (R : RelH c ρ H h) {i : Nat} (ea : hget ρ i = some a) (hs : Heap.SameBut a h h') (e : h'.get? a = some ob) (hn : ∀ us,¬ h'.IsTuple a us) (r : ORel c h' ρ ρ o a) : RelH c ρ (setN H i o) h':=by
  have hB : c.B.get? a = none:=match R.new a (hget_mem ea) with | .mk _ hB _ _=>hB
  have hk : ∀ b x,b ≠ a → h.get? b = some x → h'.get? b = some x:=fun b x n q=>(hs.2 b n).trans q
  have ht : ∀ b us,h.IsTuple b us → h'.IsTuple b us:=fun b us t=>tup_keep (fun o=>hk b o fun q=>R.notTup t (q ▸ hget_mem ea)) t
  refine ⟨fun b x q=>hk b x (fun z=>by rw [z,hB] at q; cases q) (R.keep b x q),by rw [setN_len]; exact R.len,R.nodup,fun b m=>?_,fun j b x eb ex=>(setN_get ex).elim (fun q=>?_) fun q=>?_⟩
  · by_cases hb : b = a
    · exact hb ▸ .mk ob hB e hn
    · exact (R.new b m).keep fun o=>hk b o hb
  · obtain ⟨rfl,rfl⟩:=q
    exact Option.some.inj (ea.symm.trans eb) ▸ r
  · exact (R.obj j b x eb q.2).mono ht (fun _ _ e=>e) (fun _ _ e=>e) fun o=>hk b o fun z=>q.1 (hget_inj R.nodup ea (z ▸ eb))
theorem Step.change (am : a ∈ ρ) (hs : Heap.SameBut a h h') (eo : h'.get? a = some ob) : Step ρ X ρ h h':=
  ⟨fun b o e n _=>(hs.2 b fun z=>n (z ▸ am)).trans e,.refl,fun b o e=>if hb : b = a then ⟨ob,hb ▸ eo⟩ else ⟨o,(hs.2 b hb).trans e⟩⟩
theorem RelH.others (R : RelH c ρ H h) {P : Addr → Prop} (hP : ∀ a,P a → (∀ us,¬ h.IsTuple a us) ∧ c.B.get? a = none ∧ a ∉ ρ) (hs : ∀ b x,¬ P b → h.get? b = some x → h'.get? b = some x) : RelH c ρ H h':=
  have ht : ∀ b us,h.IsTuple b us → h'.IsTuple b us:=fun b us t=>tup_keep (fun o=>hs b o fun p=>(hP b p).1 us t) t
  have hρ : ∀ b,b ∈ ρ → ¬ P b:=fun b m p=>(hP b p).2.2 m
  ⟨fun b x q=>hs b x (fun p=>nomatch (hP b p).2.1.symm.trans q) (R.keep b x q),R.len,R.nodup,fun b m=>(R.new b m).keep fun o=>hs b o (hρ b m),fun j b x eb ex=>(R.obj j b x eb ex).mono ht (fun _ _ e=>e) (fun _ _ e=>e) fun o=>hs b o (hρ b (hget_mem eb))⟩
end
noncomputable def vw {P : Prop} (d : Decidable P) (f : P → Bool) : Bool:=match d with | .isTrue h=>f h | .isFalse _=>false
theorem vw_el {P : Prop} {d : Decidable P} {f : P → Bool} (h : vw d f = true) : ∃ q : P,f q = true:=match d,h with | .isTrue q,h=>⟨q,h⟩
noncomputable def xName (e : PySem.Expr) (k : Str → Pos → Bool) : Bool:=vw (Nat.decEq e.ctorIdx 23) fun h=>PySem.Expr.Name.elim (motive_1:=fun _=>Bool) e h k
theorem xName_el {M : PySem.Expr → Prop} {e : PySem.Expr} {k : Str → Pos → Bool} (h : xName e k = true) (K : ∀ (y : Str) (p : Pos),k y p = true → M (.Name y p)) : M e:=(vw_el h).elim fun r h=>PySem.Expr.Name.elim (motive_1:=fun e=>∀ r,PySem.Expr.Name.elim (motive_1:=fun _=>Bool) e r k = true → M e) e r (fun y p _ h=>K y p h) r h
noncomputable def xTuple (e : PySem.Expr) (k : (List Expr) → Nat → Pos → Bool) : Bool:=vw (Nat.decEq e.ctorIdx 25) fun h=>PySem.Expr.Tuple.elim (motive_1:=fun _=>Bool) e h k
theorem xTuple_el {M : PySem.Expr → Prop} {e : PySem.Expr} {k : (List Expr) → Nat → Pos → Bool} (h : xTuple e k = true) (K : ∀ (fs : List Expr) (n : Nat) (p : Pos),k fs n p = true → M (.Tuple fs n p)) : M e:=(vw_el h).elim fun r h=>PySem.Expr.Tuple.elim (motive_1:=fun e=>∀ r,PySem.Expr.Tuple.elim (motive_1:=fun _=>Bool) e r k = true → M e) e r (fun fs n p _ h=>K fs n p h) r h
noncomputable def xList (e : PySem.Expr) (k : (List Expr) → Pos → Bool) : Bool:=vw (Nat.decEq e.ctorIdx 24) fun h=>PySem.Expr.List.elim (motive_1:=fun _=>Bool) e h k
theorem xList_el {M : PySem.Expr → Prop} {e : PySem.Expr} {k : (List Expr) → Pos → Bool} (h : xList e k = true) (K : ∀ (fs : List Expr) (p : Pos),k fs p = true → M (.List fs p)) : M e:=(vw_el h).elim fun r h=>PySem.Expr.List.elim (motive_1:=fun e=>∀ r,PySem.Expr.List.elim (motive_1:=fun _=>Bool) e r k = true → M e) e r (fun fs p _ h=>K fs p h) r h
noncomputable def xDict (e : PySem.Expr) (k : (List (Option Expr)) → (List Expr) → Pos → Bool) : Bool:=vw (Nat.decEq e.ctorIdx 6) fun h=>PySem.Expr.Dict.elim (motive_1:=fun _=>Bool) e h k
theorem xDict_el {M : PySem.Expr → Prop} {e : PySem.Expr} {k : (List (Option Expr)) → (List Expr) → Pos → Bool} (h : xDict e k = true) (K : ∀ (ks : List (Option Expr)) (vs : List Expr) (p : Pos),k ks vs p = true → M (.Dict ks vs p)) : M e:=(vw_el h).elim fun r h=>PySem.Expr.Dict.elim (motive_1:=fun e=>∀ r,PySem.Expr.Dict.elim (motive_1:=fun _=>Bool) e r k = true → M e) e r (fun ks vs p _ h=>K ks vs p h) r h
noncomputable def xSub (e : PySem.Expr) (k : Expr → Expr → Pos → Bool) : Bool:=vw (Nat.decEq e.ctorIdx 21) fun h=>PySem.Expr.Subscript.elim (motive_1:=fun _=>Bool) e h k
theorem xSub_el {M : PySem.Expr → Prop} {e : PySem.Expr} {k : Expr → Expr → Pos → Bool} (h : xSub e k = true) (K : ∀ (v : Expr) (j : Expr) (p : Pos),k v j p = true → M (.Subscript v j p)) : M e:=(vw_el h).elim fun r h=>PySem.Expr.Subscript.elim (motive_1:=fun e=>∀ r,PySem.Expr.Subscript.elim (motive_1:=fun _=>Bool) e r k = true → M e) e r (fun v j p _ h=>K v j p h) r h
noncomputable def xSlc (e : PySem.Expr) (k : (Option Expr) → (Option Expr) → (Option Expr) → Pos → Bool) : Bool:=vw (Nat.decEq e.ctorIdx 26) fun h=>PySem.Expr.Slice.elim (motive_1:=fun _=>Bool) e h k
theorem xSlc_el {M : PySem.Expr → Prop} {e : PySem.Expr} {k : (Option Expr) → (Option Expr) → (Option Expr) → Pos → Bool} (h : xSlc e k = true) (K : ∀ (l : Option Expr) (u : Option Expr) (s : Option Expr) (p : Pos),k l u s p = true → M (.Slice l u s p)) : M e:=(vw_el h).elim fun r h=>PySem.Expr.Slice.elim (motive_1:=fun e=>∀ r,PySem.Expr.Slice.elim (motive_1:=fun _=>Bool) e r k = true → M e) e r (fun l u s p _ h=>K l u s p h) r h
noncomputable def xAttr (e : PySem.Expr) (k : Expr → Str → Pos → Bool) : Bool:=vw (Nat.decEq e.ctorIdx 20) fun h=>PySem.Expr.Attribute.elim (motive_1:=fun _=>Bool) e h k
theorem xAttr_el {M : PySem.Expr → Prop} {e : PySem.Expr} {k : Expr → Str → Pos → Bool} (h : xAttr e k = true) (K : ∀ (v : Expr) (m : Str) (p : Pos),k v m p = true → M (.Attribute v m p)) : M e:=(vw_el h).elim fun r h=>PySem.Expr.Attribute.elim (motive_1:=fun e=>∀ r,PySem.Expr.Attribute.elim (motive_1:=fun _=>Bool) e r k = true → M e) e r (fun v m p _ h=>K v m p h) r h
noncomputable def xCall (e : PySem.Expr) (k : Expr → (List Expr) → (List Keyword) → Pos → Bool) : Bool:=vw (Nat.decEq e.ctorIdx 16) fun h=>PySem.Expr.Call.elim (motive_1:=fun _=>Bool) e h k
theorem xCall_el {M : PySem.Expr → Prop} {e : PySem.Expr} {k : Expr → (List Expr) → (List Keyword) → Pos → Bool} (h : xCall e k = true) (K : ∀ (f : Expr) (as : List Expr) (ks : List Keyword) (p : Pos),k f as ks p = true → M (.Call f as ks p)) : M e:=(vw_el h).elim fun r h=>PySem.Expr.Call.elim (motive_1:=fun e=>∀ r,PySem.Expr.Call.elim (motive_1:=fun _=>Bool) e r k = true → M e) e r (fun f as ks p _ h=>K f as ks p h) r h
noncomputable def xBin (e : PySem.Expr) (k : Expr → Operator → Expr → Pos → Bool) : Bool:=vw (Nat.decEq e.ctorIdx 2) fun h=>PySem.Expr.BinOp.elim (motive_1:=fun _=>Bool) e h k
theorem xBin_el {M : PySem.Expr → Prop} {e : PySem.Expr} {k : Expr → Operator → Expr → Pos → Bool} (h : xBin e k = true) (K : ∀ (l : Expr) (o : Operator) (r : Expr) (p : Pos),k l o r p = true → M (.BinOp l o r p)) : M e:=(vw_el h).elim fun r h=>PySem.Expr.BinOp.elim (motive_1:=fun e=>∀ r,PySem.Expr.BinOp.elim (motive_1:=fun _=>Bool) e r k = true → M e) e r (fun l o r p _ h=>K l o r p h) r h
noncomputable def xCmp (e : PySem.Expr) (k : Expr → (List CmpOp) → (List Expr) → Pos → Bool) : Bool:=vw (Nat.decEq e.ctorIdx 15) fun h=>PySem.Expr.Compare.elim (motive_1:=fun _=>Bool) e h k
theorem xCmp_el {M : PySem.Expr → Prop} {e : PySem.Expr} {k : Expr → (List CmpOp) → (List Expr) → Pos → Bool} (h : xCmp e k = true) (K : ∀ (l : Expr) (os : List CmpOp) (rs : List Expr) (p : Pos),k l os rs p = true → M (.Compare l os rs p)) : M e:=(vw_el h).elim fun r h=>PySem.Expr.Compare.elim (motive_1:=fun e=>∀ r,PySem.Expr.Compare.elim (motive_1:=fun _=>Bool) e r k = true → M e) e r (fun l os rs p _ h=>K l os rs p h) r h
noncomputable def xUn (e : PySem.Expr) (k : UnaryOp → Expr → Pos → Bool) : Bool:=vw (Nat.decEq e.ctorIdx 3) fun h=>PySem.Expr.UnaryOp.elim (motive_1:=fun _=>Bool) e h k
theorem xUn_el {M : PySem.Expr → Prop} {e : PySem.Expr} {k : UnaryOp → Expr → Pos → Bool} (h : xUn e k = true) (K : ∀ (o : UnaryOp) (x : Expr) (p : Pos),k o x p = true → M (.UnaryOp o x p)) : M e:=(vw_el h).elim fun r h=>PySem.Expr.UnaryOp.elim (motive_1:=fun e=>∀ r,PySem.Expr.UnaryOp.elim (motive_1:=fun _=>Bool) e r k = true → M e) e r (fun o x p _ h=>K o x p h) r h
noncomputable def xBool (e : PySem.Expr) (k : BoolOp → (List Expr) → Pos → Bool) : Bool:=vw (Nat.decEq e.ctorIdx 0) fun h=>PySem.Expr.BoolOp.elim (motive_1:=fun _=>Bool) e h k
theorem xBool_el {M : PySem.Expr → Prop} {e : PySem.Expr} {k : BoolOp → (List Expr) → Pos → Bool} (h : xBool e k = true) (K : ∀ (o : BoolOp) (fs : List Expr) (p : Pos),k o fs p = true → M (.BoolOp o fs p)) : M e:=(vw_el h).elim fun r h=>PySem.Expr.BoolOp.elim (motive_1:=fun e=>∀ r,PySem.Expr.BoolOp.elim (motive_1:=fun _=>Bool) e r k = true → M e) e r (fun o fs p _ h=>K o fs p h) r h
noncomputable def xIf (e : PySem.Expr) (k : Expr → Expr → Expr → Pos → Bool) : Bool:=vw (Nat.decEq e.ctorIdx 5) fun h=>PySem.Expr.IfExp.elim (motive_1:=fun _=>Bool) e h k
theorem xIf_el {M : PySem.Expr → Prop} {e : PySem.Expr} {k : Expr → Expr → Expr → Pos → Bool} (h : xIf e k = true) (K : ∀ (t : Expr) (x : Expr) (y : Expr) (p : Pos),k t x y p = true → M (.IfExp t x y p)) : M e:=(vw_el h).elim fun r h=>PySem.Expr.IfExp.elim (motive_1:=fun e=>∀ r,PySem.Expr.IfExp.elim (motive_1:=fun _=>Bool) e r k = true → M e) e r (fun t x y p _ h=>K t x y p h) r h
noncomputable def xConst (e : PySem.Expr) (k : Const → Nat → Pos → Bool) : Bool:=vw (Nat.decEq e.ctorIdx 19) fun h=>PySem.Expr.Constant.elim (motive_1:=fun _=>Bool) e h k
theorem xConst_el {M : PySem.Expr → Prop} {e : PySem.Expr} {k : Const → Nat → Pos → Bool} (h : xConst e k = true) (K : ∀ (c : Const) (n : Nat) (p : Pos),k c n p = true → M (.Constant c n p)) : M e:=(vw_el h).elim fun r h=>PySem.Expr.Constant.elim (motive_1:=fun e=>∀ r,PySem.Expr.Constant.elim (motive_1:=fun _=>Bool) e r k = true → M e) e r (fun c n p _ h=>K c n p h) r h
noncomputable def xComp (e : PySem.Expr) (k : Expr → (List Comprehension) → Scope → Pos → Bool) : Bool:=vw (Nat.decEq e.ctorIdx 8) fun h=>PySem.Expr.ListComp.elim (motive_1:=fun _=>Bool) e h k
theorem xComp_el {M : PySem.Expr → Prop} {e : PySem.Expr} {k : Expr → (List Comprehension) → Scope → Pos → Bool} (h : xComp e k = true) (K : ∀ (el : Expr) (gs : List Comprehension) (sc : Scope) (p : Pos),k el gs sc p = true → M (.ListComp el gs sc p)) : M e:=(vw_el h).elim fun r h=>PySem.Expr.ListComp.elim (motive_1:=fun e=>∀ r,PySem.Expr.ListComp.elim (motive_1:=fun _=>Bool) e r k = true → M e) e r (fun el gs sc p _ h=>K el gs sc p h) r h
noncomputable def sAssign (e : PySem.Stmt) (k : (List Expr) → Expr → Pos → Bool) : Bool:=vw (Nat.decEq e.ctorIdx 5) fun h=>PySem.Stmt.Assign.elim (motive_2:=fun _=>Bool) e h k
theorem sAssign_el {M : PySem.Stmt → Prop} {e : PySem.Stmt} {k : (List Expr) → Expr → Pos → Bool} (h : sAssign e k = true) (K : ∀ (gs : List Expr) (v : Expr) (p : Pos),k gs v p = true → M (.Assign gs v p)) : M e:=(vw_el h).elim fun r h=>PySem.Stmt.Assign.elim (motive_2:=fun e=>∀ r,PySem.Stmt.Assign.elim (motive_2:=fun _=>Bool) e r k = true → M e) e r (fun gs v p _ h=>K gs v p h) r h
noncomputable def sExpr (e : PySem.Stmt) (k : Expr → Pos → Bool) : Bool:=vw (Nat.decEq e.ctorIdx 24) fun h=>PySem.Stmt.Expr.elim (motive_2:=fun _=>Bool) e h k
theorem sExpr_el {M : PySem.Stmt → Prop} {e : PySem.Stmt} {k : Expr → Pos → Bool} (h : sExpr e k = true) (K : ∀ (v : Expr) (p : Pos),k v p = true → M (.Expr v p)) : M e:=(vw_el h).elim fun r h=>PySem.Stmt.Expr.elim (motive_2:=fun e=>∀ r,PySem.Stmt.Expr.elim (motive_2:=fun _=>Bool) e r k = true → M e) e r (fun v p _ h=>K v p h) r h
noncomputable def sRet (e : PySem.Stmt) (k : (Option Expr) → Pos → Bool) : Bool:=vw (Nat.decEq e.ctorIdx 3) fun h=>PySem.Stmt.Return.elim (motive_2:=fun _=>Bool) e h k
theorem sRet_el {M : PySem.Stmt → Prop} {e : PySem.Stmt} {k : (Option Expr) → Pos → Bool} (h : sRet e k = true) (K : ∀ (v : Option Expr) (p : Pos),k v p = true → M (.Return v p)) : M e:=(vw_el h).elim fun r h=>PySem.Stmt.Return.elim (motive_2:=fun e=>∀ r,PySem.Stmt.Return.elim (motive_2:=fun _=>Bool) e r k = true → M e) e r (fun v p _ h=>K v p h) r h
noncomputable def sIf (e : PySem.Stmt) (k : Expr → (List Stmt) → (List Stmt) → Pos → Bool) : Bool:=vw (Nat.decEq e.ctorIdx 12) fun h=>PySem.Stmt.If.elim (motive_2:=fun _=>Bool) e h k
theorem sIf_el {M : PySem.Stmt → Prop} {e : PySem.Stmt} {k : Expr → (List Stmt) → (List Stmt) → Pos → Bool} (h : sIf e k = true) (K : ∀ (t : Expr) (x : List Stmt) (y : List Stmt) (p : Pos),k t x y p = true → M (.If t x y p)) : M e:=(vw_el h).elim fun r h=>PySem.Stmt.If.elim (motive_2:=fun e=>∀ r,PySem.Stmt.If.elim (motive_2:=fun _=>Bool) e r k = true → M e) e r (fun t x y p _ h=>K t x y p h) r h
noncomputable def sWhile (e : PySem.Stmt) (k : Expr → (List Stmt) → (List Stmt) → Pos → Bool) : Bool:=vw (Nat.decEq e.ctorIdx 11) fun h=>PySem.Stmt.While.elim (motive_2:=fun _=>Bool) e h k
theorem sWhile_el {M : PySem.Stmt → Prop} {e : PySem.Stmt} {k : Expr → (List Stmt) → (List Stmt) → Pos → Bool} (h : sWhile e k = true) (K : ∀ (t : Expr) (x : List Stmt) (z : List Stmt) (p : Pos),k t x z p = true → M (.While t x z p)) : M e:=(vw_el h).elim fun r h=>PySem.Stmt.While.elim (motive_2:=fun e=>∀ r,PySem.Stmt.While.elim (motive_2:=fun _=>Bool) e r k = true → M e) e r (fun t x z p _ h=>K t x z p h) r h
noncomputable def sFor (e : PySem.Stmt) (k : Expr → Expr → (List Stmt) → (List Stmt) → Pos → Bool) : Bool:=vw (Nat.decEq e.ctorIdx 9) fun h=>PySem.Stmt.For.elim (motive_2:=fun _=>Bool) e h k
theorem sFor_el {M : PySem.Stmt → Prop} {e : PySem.Stmt} {k : Expr → Expr → (List Stmt) → (List Stmt) → Pos → Bool} (h : sFor e k = true) (K : ∀ (g : Expr) (it : Expr) (x : List Stmt) (z : List Stmt) (p : Pos),k g it x z p = true → M (.For g it x z p)) : M e:=(vw_el h).elim fun r h=>PySem.Stmt.For.elim (motive_2:=fun e=>∀ r,PySem.Stmt.For.elim (motive_2:=fun _=>Bool) e r k = true → M e) e r (fun g it x z p _ h=>K g it x z p h) r h
noncomputable section
noncomputable def b2 (a b : Bool) : Bool:=match a with | true=>b | false=>false
theorem b2_el {a b : Bool} {C : Prop} (h : b2 a b = true) (k : a = true → b = true → C) : C:=match a,h with | true,h=>k rfl h
noncomputable def l0 {α : Type} (l : List α) : Bool:=match l with | []=>true | _=>false
noncomputable def l1 {α : Type} (l : List α) (k : α → Bool) : Bool:=match l with | [x]=>k x | _=>false
theorem l0_el {α : Type} {M : List α → Prop} {l : List α} (h : l0 l = true) (k : M []) : M l:=match l,h with | [],_=>k
theorem l1_el {α : Type} {M : List α → Prop} {l : List α} {k : α → Bool} (h : l1 l k = true) (K : ∀ x,k x = true → M [x]) : M l:=match l,h with | [x],h=>K x h
noncomputable def oS {α : Type} (o : Option α) (k : α → Bool) : Bool:=match o with | some x=>k x | none=>false
noncomputable def oN {α : Type} (o : Option α) : Bool:=match o with | some _=>false | none=>true
theorem oS_el {α : Type} {M : Option α → Prop} {o : Option α} {k : α → Bool} (h : oS o k = true) (K : ∀ x,k x = true → M (some x)) : M o:=match o,h with | some x,h=>K x h
theorem oN_el {α : Type} {M : Option α → Prop} {o : Option α} (h : oN o = true) (K : M none) : M o:=match o,h with | none,_=>K
noncomputable def opq {P : Prop} (d : Decidable P) : Bool:=match d with | .isTrue _=>true | .isFalse _=>false
theorem opq_el {P : Prop} {d : Decidable P} (h : opq d = true) : P:=match d,h with | .isTrue q,_=>q
noncomputable def noStar (e : Expr) : Bool:=match e.ctorIdx with | 22 | 26 | 7=>false | _=>true
noncomputable def isLC (e : Expr) : Bool:=match e.ctorIdx with | 8 | 9 | 10=>true | _=>false
noncomputable def noSuper (e : Expr) : Bool:=xName e (fun _ _=>true) || (xAttr e (fun _ _ _=>true) || (xSub e (fun _ _ _=>true) || xCall e fun f _ _ _=>xAttr f fun _ _ _=>true))
noncomputable def plainName (x : Str) : Bool:=b2 (!(x == ("__debug__" : Str))) (!(x == ("__classdict__" : Str)))
noncomputable def cInt (c : Const) (k : Int → Bool) : Bool:=vw (Nat.decEq c.ctorIdx 2) fun h=>PySem.Const.int.elim (motive:=fun _=>Bool) c h k
noncomputable def cStr (c : Const) (k : Str → Bool) : Bool:=vw (Nat.decEq c.ctorIdx 5) fun h=>PySem.Const.str.elim (motive:=fun _=>Bool) c h k
noncomputable def cBool (c : Const) (k : Bool → Bool) : Bool:=vw (Nat.decEq c.ctorIdx 1) fun h=>PySem.Const.bool.elim (motive:=fun _=>Bool) c h k
noncomputable def cNone (c : Const) : Bool:=vw (Nat.decEq c.ctorIdx 0) fun h=>PySem.Const.none.elim (motive:=fun _=>Bool) c h true
theorem cInt_el {M : Const → Prop} {c : Const} {k : Int → Bool} (h : cInt c k = true) (K : ∀ i,k i = true → M (.int i)) : M c:=(vw_el h).elim fun r h=>PySem.Const.int.elim (motive:=fun c=>∀ r,PySem.Const.int.elim (motive:=fun _=>Bool) c r k = true → M c) c r (fun i _ h=>K i h) r h
theorem cStr_el {M : Const → Prop} {c : Const} {k : Str → Bool} (h : cStr c k = true) (K : ∀ i,k i = true → M (.str i)) : M c:=(vw_el h).elim fun r h=>PySem.Const.str.elim (motive:=fun c=>∀ r,PySem.Const.str.elim (motive:=fun _=>Bool) c r k = true → M c) c r (fun i _ h=>K i h) r h
theorem cBool_el {M : Const → Prop} {c : Const} {k : Bool → Bool} (h : cBool c k = true) (K : ∀ i,k i = true → M (.bool i)) : M c:=(vw_el h).elim fun r h=>PySem.Const.bool.elim (motive:=fun c=>∀ r,PySem.Const.bool.elim (motive:=fun _=>Bool) c r k = true → M c) c r (fun i _ h=>K i h) r h
theorem cNone_el {M : Const → Prop} {c : Const} (h : cNone c = true) (K : M .none) : M c:=(vw_el h).elim fun r _=>PySem.Const.none.elim (motive:=M) c r K
noncomputable def okK (v : AV) (k : Const) : Bool:=match v with
  | .none=>cNone k
  | .bool b=>cBool k (beqb b)
  | .int i=>cInt k fun j=>opq (Int.instDecidableEq i j)
  | .str s=>cStr k (seqb s)
  | _=>false
noncomputable def isI (j : Int) (e : Expr) : Bool:=xConst e fun k _ _=>cInt k fun i=>opq (Int.instDecidableEq i j)
noncomputable def isM1 (e : Expr) : Bool:=xUn e fun o x _=>b2 (opq (instDecidableEqUnaryOp o .USub)) (isI 1 x)
noncomputable def okC (v : AV) (e : Expr) : Bool:=match v with
  | .int (.negSucc n)=>xUn e fun o x _=>b2 (opq (instDecidableEqUnaryOp o .USub)) (isI (.ofNat (n + 1)) x)
  | v=>xConst e fun k _ _=>okK v k
noncomputable def kI (kd : Kd) (x : Str) (k : NameKind) : Bool:=opq (inferInstance : Decidable (kd.lookup x = some k))
noncomputable def kC (ck : Bool) (kd : Kd) (x : Str) : Bool:=match ck with | true=>kI kd x .local || kI kd x .cell | false=>kI kd x .local
noncomputable def okTp (ck : Bool) (kd : Kd) (xs : List Str) : List Expr → Bool:=List.rec (motive:=fun _=>List Expr → Bool) l0 (fun x _ ih es=>match es with | e :: es=>b2 (xName e fun y _=>b2 (seqb x y) (kC ck kd y)) (ih es) | []=>false) xs
noncomputable def okTG (ck : Bool) (kd : Kd) (t : TG) (e : Expr) : Bool:=match t with
  | .nm x=>xName e fun y _=>b2 (seqb x y) (kC ck kd y)
  | .tp xs=>xTuple e fun es _ _=>okTp ck kd xs es
noncomputable def relab (kd names : Kd) : Kd:=names.map fun (n,k)=>if k == .free && kd.lookup n == some .cell then (n,.cell) else (n,k)
noncomputable def okScope (kd : Kd) (fv : List Str) (sc : Scope) : Bool:=
  sc.kind == .function && sc.names.all (fun y=>!(y.2 == .cell)) && sc.names.all (fun y=>!(y.2 == .local) || decide (sc.names.lookup y.1 = some .local)) &&
  sc.names.all (fun y=>!(y.2 == .free) || decide (kd.lookup y.1 = some .cell) || decide (kd.lookup y.1 = some .free)) &&
  fv.all (fun x=>decide (sc.names.lookup x = some .free))
noncomputable def s_range : Str:=⟨#[114,97,110,103,101]⟩
noncomputable def s_zip : Str:=⟨#[122,105,112]⟩
noncomputable def okGN (kd : Kd) (x : Str) (e : Expr) (k : List Expr → Bool) : Bool:=xCall e fun f as ks _=>b2 (l0 ks) (b2 (xName f fun y _=>b2 (seqb x y) (b2 (plainName y) (kI kd y .globalImplicit))) (k as))
noncomputable def okSr (k : Nat) (f : List Expr → Bool) (kd : Kd) (it : Expr) : Bool:=match k with
  | 0=>f [it]
  | 1=>okGN kd s_range it f
  | _=>okGN kd s_zip it f
abbrev KE1:=Kd → Expr → Bool
abbrev KE2:=Kd → List Expr → Bool
noncomputable def okCons (f : KE1) (r : KE2) : KE2:=fun kd es=>match es with | e :: es=>b2 (noStar e) (b2 (f kd e) (r kd es)) | []=>false
noncomputable def okE (G : Pg) (ce : CE) : KE1:=CE.rec (motive_1:=fun _=>KE1) (motive_2:=fun _=>KE2)
  (fun x kd e=>xName e fun y _=>b2 (seqb x y) (b2 (plainName y) (match kd.lookup y with | some .local | some .cell | some .free=>true | _=>false)))
  (fun i kd e=>xName e fun y _=>match hget G.gl i with | some p=>b2 (seqb p.1 y) (b2 (plainName y) (kI kd y .globalImplicit)) | none=>false)
  (fun v _ e=>okC v e) (fun _ r kd e=>xTuple e fun fs _ _=>r kd fs) (fun _ r kd e=>xList e fun fs _=>r kd fs)
  (fun _ e=>xDict e fun ks vs _=>b2 (l0 ks) (l0 vs)) (fun _ _ f g kd e=>xDict e fun ks vs _=>l1 ks fun k=>oS k fun k=>b2 (f kd k) (l1 vs fun v=>g kd v))
  (fun _ _ f g kd e=>xSub e fun v j _=>b2 (f kd v) (b2 (noStar j) (g kd j)))
  (fun _ f kd e=>xSub e fun v j _=>b2 (f kd v) (xSlc j fun l u s _=>b2 (oN l) (b2 (oN u) (oS s isM1))))
  (fun _ _ f g kd e=>xSub e fun v j _=>b2 (f kd v) (xSlc j fun l u s _=>b2 (oN l) (b2 (oN s) (oS u (g kd)))))
  (fun _ f kd e=>xSub e fun v j _=>b2 (f kd v) (xSlc j fun l u s _=>b2 (oN u) (b2 (oN s) (oS l (isI 1)))))
  (fun _ f kd e=>xSub e fun v j _=>b2 (f kd v) (xSlc j fun l u s _=>b2 (oN l) (b2 (oS u (isI 0)) (oS s isM1))))
  (fun _ n f kd e=>xAttr e fun v m _=>b2 (f kd v) (b2 (seqb n m) (noSuper v)))
  (fun _ _ f r kd e=>xCall e fun g as ks _=>b2 (l0 ks) (b2 (xName g fun y p=>f kd (.Name y p)) (r kd as)))
  (fun _ m _ f r kd e=>xCall e fun g as ks pos=>b2 (l0 ks) (b2 (Nat.ble as.length 20) (b2 (xAttr g fun v n ap=>b2 (f kd v) (b2 (seqb m n) (b2 (noSuper v) (Nat.beq ap.endLine pos.line)))) (r kd as))))
  (fun op _ _ f g kd e=>xBin e fun l o r _=>b2 (opq (instDecidableEqOperator op o)) (b2 (f kd l) (g kd r)))
  (fun op _ _ f g kd e=>xCmp e fun l os rs _=>l1 os fun o=>l1 rs fun r=>b2 (opq (instDecidableEqCmpOp op o)) (b2 (!behindInMarks op r) (b2 (f kd l) (g kd r))))
  (fun _ f kd e=>xUn e fun o x _=>b2 (opq (instDecidableEqUnaryOp o .Not)) (f kd x))
  (fun _ r kd e=>xBool e fun o fs _=>b2 (opq (instDecidableEqBoolOp o .And)) (b2 (!l0 fs) (r kd fs))) (fun _ r kd e=>xBool e fun o fs _=>b2 (opq (instDecidableEqBoolOp o .Or)) (b2 (!l0 fs) (r kd fs)))
  (fun _ _ _ f g r kd e=>xIf e fun t x y _=>b2 (f kd t) (b2 (g kd x) (r kd y)))
  (fun k _ tg _ _ fv f src cs kd e=>xComp e fun el gs sc _=>l1 gs fun g=>b2 (opq (Int.instDecidableEq g.is_async 0)) (b2 (okScope kd fv sc) (b2 (f (relab kd sc.names) el) (b2 (okTG false (relab kd sc.names) tg g.target) (b2 (okSr k (src kd) kd g.iter) (cs (relab kd sc.names) g.ifs))))))
  (fun _ f kd e=>xComp e fun _ gs sc _=>match gs with | g :: _=>b2 (opq (Int.instDecidableEq g.is_async 0)) (b2 (okScope kd [] sc) (b2 (noStar g.iter) (f kd g.iter))) | []=>false)
  (fun _ _=>true) (fun _ es=>l0 es) (fun _ _ f r=>okCons f r) ce
noncomputable def okEs (G : Pg) (l : List CE) : KE2:=List.rec (motive:=fun _=>KE2) (fun _ es=>l0 es) (fun e _ ih=>okCons (okE G e) ih) l
noncomputable def distinct (l : List Str) : Bool:=List.rec (motive:=fun _=>Bool) true (fun x xs ih=>b2 (!khas xs x) ih) l
noncomputable def tupDisp (e : Expr) : Bool:=match Nat.beq e.ctorIdx 25 with
  | true=>xTuple e fun vs _ _=>!vs.all (constantsAlone 8) || vs.all (foldedForSure 8)
  | false=>true
noncomputable def isComp (e : CE) : Bool:=Nat.beq e.ctorIdx 21
noncomputable def okT (G : Pg) (kd : Kd) (t : CT) (v g : Expr) : Bool:=match t with
  | .nm x=>xName g fun y _=>b2 (seqb x y) (kI kd y .local || kI kd y .cell)
  | .attr o n=>xAttr g fun p m _=>b2 (okE G o kd p) (seqb n m)
  | .sub o i=>xSub g fun p j _=>b2 (okE G o kd p) (okE G i kd j)
  | .tp xs=>xTuple g fun es _ _=>b2 (okTp true kd xs es) (b2 (distinct xs) (tupDisp v))
abbrev KS1:=Kd → Stmt → Bool
abbrev KS2:=Kd → List Stmt → Bool
noncomputable def okS (G : Pg) (c : CS) : KS1:=CS.rec (motive_1:=fun _=>KS1) (motive_2:=fun _=>KS2)
  (fun t e kd s=>sAssign s fun gs v _=>l1 gs fun g=>b2 (okE G e kd v) (b2 (!isLC v) (okT G kd t v g)))
  (fun x e kd s=>sAssign s fun gs v _=>l1 gs fun g=>b2 (isComp e) (b2 (okE G e kd v) (xName g fun y _=>b2 (seqb x y) (kC true kd y))))
  (fun e kd s=>sExpr s fun v _=>b2 (okE G e kd v) (!isLC v)) (fun e kd s=>sRet s fun v _=>oS v (okE G e kd)) (fun _ s=>sRet s fun v _=>oN v)
  (fun e _ _ f g kd s=>sIf s fun t x y _=>b2 (okE G e kd t) (b2 (f kd x) (g kd y)))
  (fun e _ f kd s=>sWhile s fun t x z _=>b2 (l0 z) (b2 (okE G e kd t) (f kd x)))
  (fun k tg src _ f kd s=>sFor s fun g it x z _=>b2 (l0 z) (b2 (okTG true kd tg g) (b2 (okSr k (okEs G src kd) kd it) (f kd x))))
  (fun _ _=>true) (fun _ ts=>l0 ts) (fun _ _ f r kd ts=>match ts with | t :: ts=>b2 (f kd t) (r kd ts) | []=>false) c
noncomputable def okSs (G : Pg) (l : List CS) : KS2:=List.rec (motive:=fun _=>KS2) (fun _ ts=>l0 ts) (fun c _ ih kd ts=>match ts with | t :: ts=>b2 (okS G c kd t) (ih kd ts) | []=>false) l
end
section
variable (c : Cx)
def NoE : Value → Shared → Prop:=fun _ _=>False
structure Aft (ρ : List Addr) (s : Shared) (ρ' : List Addr) (s' : Shared) : Prop where
  S : Step ρ noX ρ' s.heap s'.heap
  M : Same s s'
inductive PE (ρ : List Addr) (s : Shared) (v : AV) (H' : Hs) (u : Value) (s' : Shared) : Prop
  | mk (ρ' : List Addr) (R : RelH c ρ' H' s'.heap) (V : c.V s'.heap ρ' v u) (W : Aft ρ s ρ' s')
inductive PT (ρ : List Addr) (s : Shared) (b : Bool) (H' : Hs) (r : Bool) (s' : Shared) : Prop
  | mk (e : r = b) (ρ' : List Addr) (R : RelH c ρ' H' s'.heap) (W : Aft ρ s ρ' s')
inductive PEs (ρ : List Addr) (s : Shared) (vs : List AV) (H' : Hs) (us : List Value) (s' : Shared) : Prop
  | mk (ρ' : List Addr) (R : RelH c ρ' H' s'.heap) (V : c.Vs s'.heap ρ' vs us) (W : Aft ρ s ρ' s')
structure St (n : Nat) (kd : Kd) (V : Vs) (H : Hs) (A : Around) (env : Env) (ρ : List Addr) (s : Shared) : Prop where
  a : AOk A n
  R : RelH c ρ H s.heap
  RV : RelV c env kd V ρ s.heap
def TE (n : Nat) (kd : Kd) (e : Expr) (V : Vs) (H : Hs) (v : AV) (H' : Hs) : Prop:=
  ∀ (A : Around) (env : Env) (ρ : List Addr) (s : Shared),St c n kd V H A env ρ s → wpAny (model c.prog c.w) A (eval e env) (PE c ρ s v H') NoE s
def TT (n : Nat) (kd : Kd) (e : Expr) (V : Vs) (H : Hs) (b : Bool) (H' : Hs) : Prop:=
  ∀ (A : Around) (env : Env) (ρ : List Addr) (s : Shared),St c n kd V H A env ρ s → wpAny (model c.prog c.w) A (isTrue e env (eval e env)) (PT c ρ s b H') NoE s
inductive PC (ρ : List Addr) (s : Shared) (v : AV) (H' : Hs) (r : Result) (s' : Shared) : Prop
  | mk (u : Value) (e : r = .ok (.ret u)) (p : PE c ρ s v H' u s')
def TC (n : Nat) (f : AV) (as : List AV) (H : Hs) (v : AV) (H' : Hs) : Prop:=
  ∀ (A : Around) (ρ : List Addr) (s : Shared) (fv : Value) (vals : List Value),AOk A n → RelH c ρ H s.heap → c.V s.heap ρ f fv → c.Vs s.heap ρ as vals → codeAny (model c.prog c.w) A (.call fv ⟨vals,[]⟩) (PC c ρ s v H') s
inductive RetR (h : Heap) (ρ : List Addr) (v : AV) : Flow → Prop
  | mk (u : Value) (hv : c.V h ρ v u) : RetR h ρ v (.ret u)
def FRel (h : Heap) (ρ : List Addr) (fl : Fl) : Flow → Prop:=match fl with
  | .next=>fun f=>f = .next
  | .ret v=>RetR c h ρ v
inductive PS (env : Env) (kd : Kd) (ρ : List Addr) (s : Shared) (fl : Fl) (V' : Vs) (H' : Hs) (f : Flow) (s' : Shared) : Prop
  | mk (ρ' : List Addr) (R : RelH c ρ' H' s'.heap) (RV : RelV c env kd V' ρ' s'.heap) (F : FRel c s'.heap ρ' fl f) (S : Step ρ (ownOf env) ρ' s.heap s'.heap) (M : Same s s')
def TS (n : Nat) (kd : Kd) (t : Stmt) (V : Vs) (H : Hs) (fl : Fl) (V' : Vs) (H' : Hs) : Prop:=
  ∀ (A : Around) (env : Env) (ρ : List Addr) (s : Shared),St c n kd V H A env ρ s → wpAny (model c.prog c.w) A (exec t env) (PS c env kd ρ s fl V' H') NoE s
def TSs (n : Nat) (kd : Kd) (t : List Stmt) (V : Vs) (H : Hs) (fl : Fl) (V' : Vs) (H' : Hs) : Prop:=
  ∀ (A : Around) (env : Env) (ρ : List Addr) (s : Shared),St c n kd V H A env ρ s → wpAny (model c.prog c.w) A (execs t env) (PS c env kd ρ s fl V' H') NoE s
inductive PL (env : Env) (kd : Kd) (ρ : List Addr) (s : Shared) (fl : Fl) (V' : Vs) (H' : Hs) (r : Result) (s' : Shared) : Prop
  | mk (f : Flow) (e : r = .ok f) (p : PS c env kd ρ s fl V' H' f s')
def TW (n : Nat) (kd : Kd) (e : Expr) (b : List Stmt) (V : Vs) (H : Hs) (fl : Fl) (V' : Vs) (H' : Hs) : Prop:=
  ∀ (A : Around) (env : Env) (ρ : List Addr) (s : Shared),St c n kd V H A env ρ s → codeAny (model c.prog c.w) A (.whileLoop e b [] env) (PL c env kd ρ s fl V' H') s
end
section
variable {c : Cx} {ρ ρ₀ ρ' : List Addr} {s s₀ s' s'' : Shared} {H H' H1 : Hs} {v : AV} {u : Value} {n : Nat} {kd : Kd} {V V' : Vs} {A : Around} {env : Env}
theorem Aft.refl : Aft ρ s ρ s:=⟨.refl,.refl s⟩
theorem Aft.toks {t : Nat} : Aft ρ s ρ { s with toks:=t }:=⟨.refl,rfl,rfl,rfl⟩
theorem Aft.trans {ρ1 ρ2 : List Addr} {s1 s2 : Shared} (x : Aft ρ s ρ1 s1) (y : Aft ρ1 s1 ρ2 s2) : Aft ρ s ρ2 s2:=⟨x.S.trans y.S,x.M.trans y.M⟩
theorem Aft.rel (W : Aft ρ s ρ' s') (R : RelH c ρ H s.heap) {v : AV} {u : Value} (e : c.V s.heap ρ v u) : c.V s'.heap ρ' v u:=W.S.rel R noX_no e
theorem Aft.rels (W : Aft ρ s ρ' s') (R : RelH c ρ H s.heap) {v : List AV} {u : List Value} (e : c.Vs s.heap ρ v u) : c.Vs s'.heap ρ' v u:=W.S.rels R noX_no e
theorem PE.from (W : Aft ρ₀ s₀ ρ s) (p : PE c ρ s v H' u s') : PE c ρ₀ s₀ v H' u s':=match p with | .mk ρ' R V W'=>.mk ρ' R V (W.trans W')
theorem PT.from {b r : Bool} (W : Aft ρ₀ s₀ ρ s) (p : PT c ρ s b H' r s') : PT c ρ₀ s₀ b H' r s':=match p with | .mk e ρ' R W'=>.mk e ρ' R (W.trans W')
theorem PE.now (R : RelH c ρ H s.heap) (hv : c.V s.heap ρ v u) {t : Nat} : PE c ρ s v H u { s with toks:=t }:=.mk ρ R hv .toks
theorem PE.now0 (R : RelH c ρ H s.heap) (hv : c.V s.heap ρ v u) : PE c ρ s v H u s:=.mk ρ R hv .refl
theorem St.after (X : St c n kd V H A env ρ s) (R : RelH c ρ' H' s'.heap) (W : Aft ρ s ρ' s') : St c n kd V H' A env ρ' s':=⟨X.a,R,X.RV.step X.R W.S⟩
theorem TE.go {e : Expr} {Q : Value → Shared → Prop} (T : TE c n kd e V H v H1) (X : St c n kd V H A env ρ s)
    (k : ∀ ρ1 s1 u,St c n kd V H1 A env ρ1 s1 → c.V s1.heap ρ1 v u → Aft ρ s ρ1 s1 → Q u s1) : wpAny (model c.prog c.w) A (eval e env) Q NoE s:=
  wpAny_mono (T A env ρ s X) (fun u s1 p=>match p with | .mk ρ1 R V W=>k ρ1 s1 u (X.after R W) V W) fun _ _ x=>x
theorem TT.go {e : Expr} {b : Bool} {Q : Bool → Shared → Prop} (T : TT c n kd e V H b H1) (X : St c n kd V H A env ρ s)
    (k : ∀ ρ1 s1,St c n kd V H1 A env ρ1 s1 → Aft ρ s ρ1 s1 → Q b s1) : wpAny (model c.prog c.w) A (isTrue e env (eval e env)) Q NoE s:=
  wpAny_mono (T A env ρ s X) (fun r s1 p=>match p with | .mk e ρ1 R W=>e ▸ k ρ1 s1 (X.after R W) W) fun _ _ x=>x
theorem go {α : Type} {t : Sem α} {Q P : α → Shared → Prop} (T : wpAny (model c.prog c.w) A t P NoE s) (k : ∀ u s',P u s' → Q u s') : wpAny (model c.prog c.w) A t Q NoE s:=wpAny_mono T k fun _ _ x=>x
end
inductive DefR (c : Cx) (ds : List AV) (v : Value) : Prop
  | none (e : v = .none) (q : ds = []) : DefR c ds v
  | some (T : Addr) (us : List Value) (e : v = .ref T) (ht : c.B.IsTuple T us.toArray) (hv : c.Vs c.B [] ds us) : DefR c ds v
inductive FnR (c : Cx) (G : Pg) (a : Addr) (f : Fn) : Prop
  | mk (o : Obj) (fd : FuncData) (body : List Stmt) (ho : c.B.get? a = some o) (hd : o.data = .func fd) (hb : fd.body = .stmts body) (ok : okSs G f.bd f.kd body = true) (nm : fd.scope.names = f.kd) (kn : fd.scope.kind = .function)
    (gn : fd.scope.isGenerator = false) (co : fd.scope.isCoroutine = false) (cl : fd.closure = []) (gl : fd.globals = mainGlobals) (bl : fd.builtins = builtinsNs) (cr : c.B.CodeRec fd.code fd.qualname)
    (p1 : fd.params.posonlyargs = []) (p2 : fd.params.kwonlyargs = []) (p3 : fd.params.vararg = none) (p4 : fd.params.kwarg = none) (p5 : fd.params.args.map (·.arg) = f.ps) (df : DefR c f.ds fd.defaults)
structure FnOk (c : Cx) (G : Pg) (a : Addr) (f : Fn) : Prop where
  ex : FnR c G a f
  nodup : f.ps.Nodup
  kinds : ∀ x ∈ f.ps,f.kd.lookup x = some .local ∨ f.kd.lookup x = some .cell
  len : f.ds.length ≤ f.ps.length
  cells : ∀ n x,f.kd.lookup x = some .cell → ((cellsFrom n f.kd []).lookup x).isSome = true
  free : ∀ x,f.kd.lookup x ≠ some .free
noncomputable def clOk (K : Frag) (C : Addr) (l : Cl) : Bool:=
  makesIn K C && (findIn K (.ref C) "__init__" == some (some (.ref l.init))) && (typeIn K (.ref l.init) == some (.type "function")) && (findIn K (.ref C) "__getattribute__" == some (some (.builtin "object.__getattribute__"))) &&
  (findIn K (.ref C) "__setattr__" == some (some (.builtin "object.__setattr__"))) && (findIn K (.ref C) "__getattr__" == some none) && plainOver K C && (clsIn K C).any (·.hasDict) &&
  l.fs.all (fun n=>findIn K (.ref C) n == some none) && l.ms.all (fun p=>(findIn K (.ref C) p.1 == some (some (.ref p.2))) && (typeIn K (.ref p.2) == some (.type "function")) && !khas l.fs p.1)
inductive GlR (c : Cx) (mg mb : Str → Option Value) (x : Str) (v : AV) : Prop
  | top (u : Value) (e : mg x = some u) (hv : c.V c.B [] v u) : GlR c mg mb x v
  | blt (u : Value) (e : mg x = none) (f : mb x = some u) (hv : c.V c.B [] v u) : GlR c mg mb x v
inductive GlobsR (c : Cx) (G : Pg) : Prop
  | mk (mg mb : Str → Option Value) (hg : c.B.Ns mainGlobals mg) (hb : c.B.Ns builtinsNs mb) (gl : ∀ (i : Nat) (p : Str × AV),hget G.gl i = some p → GlR c mg mb p.1 p.2) (rng : GlR c mg mb s_range (.bi .range)) (zip : GlR c mg mb s_zip (.bi .zip))
structure Base (c : Cx) (K : Frag) (G : Pg) (D : Nat) : Prop where
  g : GlobsR c G
  lim : c.B.NoLimit
  sm : ∃ o,c.B.get? sysModules = some o
  kp : ∀ a,(G.ov a).isSome = true ∨ (G.fn a).isSome = true ∨ (G.cl a).isSome = true → keepIn K (.ref a) = true
  kin : K.In c.B
  fn : ∀ a f,G.fn a = some f → FnOk c G a f
  cl : ∀ a l,G.cl a = some l → clOk K a l = true
  ov : ∀ a g,G.ov a = some g → ∀ as H v H',g as H = some (v,H') → TC c D (.fn a) as H v H'
  kn : ∀ i j b,G.kn i j = some b → (c.σ i == c.σ j) = b
  kl : ∀ i s b,G.kl i s = some b → (c.σ i == s) = b
  bF : ∀ i a o,hget c.F i = some a → hget G.F i = some o → ORel c c.B [] c.F o a
section
variable {c : Cx} {G : Pg} {K : Frag} {D n : Nat} {kd : Kd} {V : Vs} {ρ ix : List Addr} {H H' H1 H2 : Hs} {A : Around} {env : Env} {s : Shared} {α : Type} {T : α → Prop} {v w : AV} {u : Value} {vs : List AV} {us : List Value} {h : Heap} {a : Addr}
structure Lg (c : Cx) (h : Heap) (ρ : List Addr) (L : Hs) (ix : List Addr) : Prop where
  obj : ∀ d o a,hget ix d = some a → hget L d = some o → ORel c h ρ ix o a
theorem RelH.lg (R : RelH c ρ H h) : Lg c h ρ H ρ:=⟨fun d o a e f=>R.obj d a o e f⟩
theorem base_rel (R : RelH c ρ H h) (e : c.V c.B [] v u) : c.V h ρ v u:=Cx.V.mono (fun a _ t=>tup_keep (fun o=>R.keep a o) t) (fun _ _ e=>(hget_no e).elim) e
theorem base_rels (R : RelH c ρ H h) (e : c.Vs c.B [] vs us) : c.Vs h ρ vs us:=Cx.Vs.mono (fun a _ t=>tup_keep (fun o=>R.keep a o) t) (fun _ _ e=>(hget_no e).elim) e
theorem RelH.lgF (Bs : Base c K G D) (R : RelH c ρ H h) : Lg c h ρ G.F c.F:=⟨fun d o a e f=>(Bs.bF d a o e f).mono (fun a _ t=>tup_keep (fun o=>R.keep a o) t) (fun _ _ e=>(hget_no e).elim) (fun _ _ e=>e) fun o=>R.keep a o⟩
theorem v_none : c.V h ρ .none .none:=rfl
theorem v_bool {b : Bool} : c.V h ρ (.bool b) (.bool b):=rfl
theorem v_int {i : Int} {t : Tok} : c.V h ρ (.int i) (.int i t):=IntR.mk t
theorem v_str {x : Str} {t : Tok} : c.V h ρ (.str x) (.str x t):=StrR.mk t
theorem v_fn : c.V h ρ (.fn a) (.ref a):=rfl
theorem v_tup (t : h.IsTuple a us.toArray) (e : c.Vs h ρ vs us) : c.V h ρ (.tup vs) (.ref a):=TupR.mk a us t e
theorem v_loc {i : Nat} (e : hget ρ i = some a) : c.V h ρ (.loc i) (.ref a):=LocR.mk a e
theorem v_last (R : RelH c ρ H s.heap) {h' : Heap} : c.V h' (ρ ++ [a]) (.loc (hlen H)) (.ref a):=by rw [hlen_eq,← R.len]; exact v_loc (hget_last ρ a)
section
variable {M : Value → Prop}
theorem un_int {i : Int} (e : c.V h ρ (.int i) u) (k : ∀ t,M (.int i t)) : M u:=match u,(show IntR i u from e) with | _,.mk t=>k t
theorem un_str {x : Str} (e : c.V h ρ (.str x) u) (k : ∀ t,M (.str x t)) : M u:=match u,(show StrR x u from e) with | _,.mk t=>k t
theorem un_sym {i : Nat} (e : c.V h ρ (.sym i) u) (k : ∀ t,M (.str (c.σ i) t)) : M u:=match u,(show StrR (c.σ i) u from e) with | _,.mk t=>k t
theorem un_tup (e : c.V h ρ (.tup vs) u) (k : ∀ a us,h.IsTuple a (us : List Value).toArray → c.Vs h ρ vs us → M (.ref a)) : M u:=match u,(show TupR h (c.Vs h ρ vs) u from e) with | _,.mk a us t q=>k a us t q
theorem un_loc {i : Nat} (e : c.V h ρ (.loc i) u) (k : ∀ a,hget ρ i = some a → M (.ref a)) : M u:=match u,(show LocR ρ i u from e) with | _,.mk a q=>k a q
theorem un_bs {i : Nat} (e : c.V h ρ (.bs i) u) (k : ∀ a,hget c.F i = some a → M (.ref a)) : M u:=match u,(show LocR c.F i u from e) with | _,.mk a q=>k a q
theorem un_bool {b : Bool} (e : c.V h ρ (.bool b) u) (k : M (.bool b)) : M u:=(show u = .bool b from e) ▸ k
theorem un_none (e : c.V h ρ .none u) (k : M .none) : M u:=(show u = .none from e) ▸ k
end
section
variable {T : Value → α → Prop}
theorem tp_int {k : Int → Option α} (e : c.V h ρ v u) (K : ∀ i t,v = .int i → TP (k i) (T (.int i t))) : TP (asInt v k) (T u):=match v,e with
  | .int i,e=>un_int (M:=fun u=>TP (k i) (T u)) e fun t=>K i t rfl
  | .none,_ | .any,_ | .bool _,_ | .str _,_ | .sym _,_ | .tup _,_ | .loc _,_ | .bs _,_ | .fn _,_ | .bi _,_=>tp_none
theorem tp_str {k : Str → Option α} (e : c.V h ρ v u) (K : ∀ i t,TP (k i) (T (.str i t))) : TP (asStr v k) (T u):=match v,e with
  | .str i,e=>un_str (M:=fun u=>TP (k i) (T u)) e (K i)
  | .none,_ | .any,_ | .bool _,_ | .int _,_ | .sym _,_ | .tup _,_ | .loc _,_ | .bs _,_ | .fn _,_ | .bi _,_=>tp_none
theorem tp_tup {k : List AV → Option α} (e : c.V h ρ v u) (K : ∀ vs a us,v = .tup vs → h.IsTuple a (us : List Value).toArray → c.Vs h ρ vs us → TP (k vs) (T (.ref a))) : TP (asTup v k) (T u):=match v,e with
  | .tup vs,e=>un_tup (M:=fun u=>TP (k vs) (T u)) e fun a us=>K vs a us rfl
  | .none,_ | .any,_ | .bool _,_ | .int _,_ | .sym _,_ | .str _,_ | .loc _,_ | .bs _,_ | .fn _,_ | .bi _,_=>tp_none
theorem tp_nn {x : Option α} (e : c.V h ρ v u) (K : v = .none → TP x (T .none)) : TP (asNone v x) (T u):=match v,e with
  | .none,e=>un_none (M:=fun u=>TP x (T u)) e (K rfl)
  | .bool _,_ | .any,_ | .tup _,_ | .int _,_ | .sym _,_ | .str _,_ | .loc _,_ | .bs _,_ | .fn _,_ | .bi _,_=>tp_none
theorem tp_loc {k : Nat → Option α} (e : c.V h ρ v u) (K : ∀ i a,hget ρ i = some a → TP (k i) (T (.ref a))) : TP (asLoc v k) (T u):=match v,e with
  | .loc i,e=>un_loc (M:=fun u=>TP (k i) (T u)) e (K i)
  | .bool _,_ | .any,_ | .tup _,_ | .int _,_ | .sym _,_ | .str _,_ | .none,_ | .bs _,_ | .fn _,_ | .bi _,_=>tp_none
theorem tp_nat {k : Nat → Option α} (e : c.V h ρ v u) (K : ∀ (i : Nat) t,v = .int (.ofNat i) → TP (k i) (T (.int (i : Int) t))) : TP (asNat v k) (T u):=tp_int e fun i t q=>match i,q with
  | .ofNat i,q=>K i t q
  | .negSucc _,_=>tp_none
theorem tp_ob {F : Hs} {k : Hs → AO → Option α} (LH : Lg c h ρ H ρ) (LF : Lg c h ρ F c.F) (e : c.V h ρ v u) (K : ∀ a ix L o,Lg c h ρ L ix → ORel c h ρ ix o a → TP (k L o) (T (.ref a))) : TP (obOf F H v k) (T u):=match v,e with
  | .loc i,e=>un_loc (M:=fun u=>TP (bn1 (hget H i) (k H)) (T u)) e fun a q=>tp_bn1 tp_eq fun o r=>K a ρ H o LH (LH.obj i o a q r)
  | .bs i,e=>un_bs (M:=fun u=>TP (bn1 (hget F i) (k F)) (T u)) e fun a q=>tp_bn1 tp_eq fun o r=>K a c.F F o LF (LF.obj i o a q r)
  | .bool _,_ | .any,_ | .tup _,_ | .int _,_ | .sym _,_ | .str _,_ | .none,_ | .fn _,_ | .bi _,_=>tp_none
theorem tp_lst {k : Nat → Nat → List AV → Option α} (R : RelH c ρ H h) (e : c.V h ρ v u) (K : ∀ i a n r,hget ρ i = some a → hget H i = some (.list n r) → ListR c h ρ n r a → TP (k i n r) (T (.ref a))) : TP (lstAt H v k) (T u):=
  tp_loc e fun i a q=>tp_bn1 tp_eq fun o r=>match o,r with
    | .list n l,r=>K i a n l q r (R.obj i a _ q r)
    | .dict _ _,_ | .ns _ _,_ | .inst _ _,_ | .gone,_=>tp_none
end
theorem tp_list {o : AO} {k : Nat → List AV → Option α} (r : ORel c h ρ ix o a) (K : ∀ n l,ListR c h ρ n l a → TP (k n l) T) : TP (asList o k) T:=match o,r with
  | .list n l,r=>K n l r
  | .dict _ _,_ | .ns _ _,_ | .inst _ _,_ | .gone,_=>tp_none
theorem tp_dict {o : AO} {k : List Str → List AV → Option α} (r : ORel c h ρ ix o a) (K : ∀ n l,DictR c h ρ n l a → TP (k n l) T) : TP (asDict o k) T:=match o,r with
  | .dict n l,r=>K n l r
  | .list _ _,_ | .ns _ _,_ | .inst _ _,_ | .gone,_=>tp_none
theorem tp_ns {o : AO} {k : List Str → List AV → Option α} (r : ORel c h ρ ix o a) (K : ∀ n l,NsR c h ρ n l a → TP (k n l) T) : TP (asNs o k) T:=match o,r with
  | .ns n l,r=>K n l r
  | .list _ _,_ | .dict _ _,_ | .inst _ _,_ | .gone,_=>tp_none
theorem tp_inst {o : AO} {k : Addr → Nat → Option α} (r : ORel c h ρ ix o a) (K : ∀ C d,InstR h ix C d a → TP (k C d) T) : TP (asInst o k) T:=match o,r with
  | .inst n l,r=>K n l r
  | .list _ _,_ | .dict _ _,_ | .ns _ _,_ | .gone,_=>tp_none
theorem tp_as1 {l : List AV} {k : AV → Option α} {T : List Value → α → Prop} (e : c.Vs h ρ l us) (K : ∀ x z,c.V h ρ x z → TP (k x) (T [z])) : TP (as1 l k) (T us):=match l,e with
  | [x],e=>e.un1 (M:=fun us=>TP (k x) (T us)) fun z q=>K x z q
  | [],_ | _ :: _ :: _,_=>tp_none
theorem tp_as2 {l : List AV} {k : AV → AV → Option α} {T : List Value → α → Prop} (e : c.Vs h ρ l us) (K : ∀ x y z w,c.V h ρ x z → c.V h ρ y w → TP (k x y) (T [z,w])) : TP (as2 l k) (T us):=match l,e with
  | [x,y],e=>e.un (M:=fun us=>TP (k x y) (T us)) fun z r q q'=>q'.un1 (M:=fun r=>TP (k x y) (T (z :: r))) fun w q'=>K x y z w q q'
  | [],_ | [_],_ | _ :: _ :: _ :: _,_=>tp_none
theorem tp_as0 {l : List AV} {x : Option α} {T : List Value → α → Prop} (e : c.Vs h ρ l us) (K : TP x (T [])) : TP (as0 l x) (T us):=match l,e with
  | [],e=>e.un0 (M:=fun us=>TP x (T us)) K
  | _ :: _,_=>tp_none
theorem pe_new {o : AO} {ob : Obj} {s' : Shared} (R : RelH c ρ H s.heap) (hn : ob.cls ≠ .type "tuple") (r : RelH c ρ H (s.heap.push ob) → (∀ {vs : List AV} {us : List Value},c.Vs s.heap ρ vs us → c.Vs (s.heap.push ob) (ρ ++ [s.heap.objs.size]) vs us) → ORel c (s.heap.push ob) (ρ ++ [s.heap.objs.size]) (ρ ++ [s.heap.objs.size]) o s.heap.objs.size)
    (hs : s'.heap = s.heap.push ob) (M : Same s s') (hf : ob.isFreed = false:=by rfl) : PE c ρ s (.loc (hlen H)) (snoc H o) (.ref s.heap.objs.size) s':=
  have S : Step ρ noX (ρ ++ [s.heap.objs.size]) s.heap (s.heap.push ob):=.add (push_keep ob) (none_size _)
  .mk (ρ ++ [s.heap.objs.size]) (by rw [hs]; exact R.add (push_keep ob) (none_size _) (Heap.get?_push_size _ hf) (notTup_cls (Heap.get?_push_size _ hf) hn) (r (R.push ob) (S.rels R noX_no))) (v_last R) ⟨by rw [hs]; exact S,M⟩
theorem pe_newL {k : Nat} {r : List AV} {s' : Shared} (R : RelH c ρ H s.heap) (hk : r.length ≤ k) (e : c.Vs s.heap ρ r.reverse us) (hs : s'.heap = s.heap.push { cls:=.type "list",data:=.seq us.toArray }) (M : Same s s') : PE c ρ s (.loc (hlen H)) (snoc H (.list k r)) (.ref s.heap.objs.size) s':=
  pe_new R (by simp) (fun _ q=>ListR.mk us hk ⟨0,Heap.get?_push_size _ rfl⟩ (q e)) hs M
theorem pe_tup {s' : Shared} (R : RelH c ρ H s.heap) (hv : c.Vs s.heap ρ vs us) (hs : s'.heap = s.heap.push { cls:=.type "tuple",data:=.seq us.toArray }) (M : Same s s') : PE c ρ s (.tup vs) H (.ref s.heap.objs.size) s':=
  have S : Step ρ noX ρ s.heap (s.heap.push { cls:=.type "tuple",data:=.seq us.toArray }):=.push _
  .mk ρ (by rw [hs]; exact R.push _) (by rw [hs]; exact v_tup ⟨_,Heap.get?_push_size _ rfl,rfl,_,rfl⟩ (S.rels R noX_no hv)) ⟨by rw [hs]; exact S,M⟩
theorem pe_grown {s' : Shared} (R : RelH c ρ H s.heap) (hk : ∀ b o,s.heap.get? b = some o → s'.heap.get? b = some o) (hv : c.V s'.heap ρ v u) (M : Same s s') : PE c ρ s v H u s':=.mk ρ (R.keeps hk) hv ⟨.keeps hk,M⟩
end
theorem line_of_small {m : Nat} (h : small m = true) : m ≤ sizeLine:=by
  have:=Nat.le_of_ble_eq_true h
  rw [sizeLine_eq]; omega
section
variable {c : Cx} {G : Pg} {K : Frag} {D n : Nat} {kd : Kd} {V : Vs} {ρ : List Addr} {H H' H1 H2 : Hs} {A : Around} {env : Env} {s : Shared} {v w : AV} {u : Value} {e : Expr} {pos : Pos}
noncomputable def unB (v : AV) : Bool:=match v with | .bool b=>b | _=>false
theorem bool_inj {a b : Bool} (h : AV.bool a = .bool b) : a = b:=congrArg unB h
inductive Both (c : Cx) (n : Nat) (kd : Kd) (e : Expr) (V : Vs) (H : Hs) (p : AV × Hs) : Prop
  | mk (T : TE c n kd e V H p.1 p.2) (B : ∀ b,p.1 = .bool b → TT c n kd e V H b p.2)
structure TEs (c : Cx) (n : Nat) (kd : Kd) (es : List Expr) (V : Vs) (H : Hs) (p : List AV × Hs) : Prop where
  go : ∀ (A : Around) (env : Env) (ρ : List Addr) (s : Shared) (pos : Pos),St c n kd V H A env ρ s → wpAny (model c.prog c.w) A (spliced (backTo pos (starEach es env))) (PEs c ρ s p.1 p.2) NoE s
  any : ∀ pos env,(backTo pos (starEach es env)).any (·.1) = false
  all : ∀ pos env,(backTo pos (starEach es env)).all (fun x=>!x.1) = true
  cons : ∀ env,(es = [] ∧ ∀ ρ s,RelH c ρ H s.heap → PEs c ρ s p.1 p.2 [] s) ∨ ∃ e r,starEach es env = (false,eval e env) :: r
  nil : es = [] → p = ([],H)
  one : ∀ e,es = [e] → ∃ v,p.1 = [v] ∧ TE c n kd e V H v p.2
structure TCj (op : BoolOp) (c : Cx) (n : Nat) (kd : Kd) (es : List Expr) (V : Vs) (H : Hs) (p : Bool × Hs) : Prop where
  t : ∀ (A : Around) (env : Env) (ρ : List Addr) (s : Shared),St c n kd V H A env ρ s → wpAny (model c.prog c.w) A (allTrue op es env) (PT c ρ s p.1 p.2) NoE s
  v : ∀ pos,l0 es = false → TE c n kd (.BoolOp op es pos) V H (.bool p.1) p.2
  z : es = [] → p = (opU op,H)
def SE1 (c : Cx) (n : Nat) (ok : KE1) (d : D1) : Prop:=∀ kd e V H,ok kd e = true → TP (d V H) (Both c n kd e V H)
structure SE2 (c : Cx) (n : Nat) (ok : KE2) (d : D2) : Prop where
  es : ∀ kd es V H,ok kd es = true → TP (d.es V H) (TEs c n kd es V H)
  cj : ∀ op kd es V H,ok kd es = true → TP (d.cj op V H) (TCj op c n kd es V H)
theorem both_plain (T : TE c n kd e V H v H') (he : ∀ env,isTrue e env (eval e env) = (do let v ← eval e env; standAt e.pos; holding [v] (truthy v))) : Both c n kd e V H (v,H'):=
  .mk T fun b q A env ρ s X=>wpAny_isTrue_value (TE.go (q ▸ T) X fun ρ1 s1 u X1 V1 W=>un_bool (M:=fun u=>wpAny (model c.prog c.w) A (truthy u) (PT c ρ s b H') NoE s1) V1 (wpAny_truthy_bool (.mk rfl ρ1 X1.R W))) (he env)
section
variable {cx : Cx} {nn : Nat} {kd : Kd} {V : Vs} {H : Hs}
theorem xName_tp {e : PySem.Expr} {k : Str → Pos → Bool} {oo : Option (AV × Hs)} (h : xName e k = true) (K : ∀ (y : Str) (p : Pos),k y p = true → TP oo (Both cx nn kd (.Name y p) V H)) : TP oo (Both cx nn kd e V H):=xName_el (M:=fun e=>TP oo (Both cx nn kd e V H)) h K
theorem xTuple_tp {e : PySem.Expr} {k : (List Expr) → Nat → Pos → Bool} {oo : Option (AV × Hs)} (h : xTuple e k = true) (K : ∀ (fs : List Expr) (n : Nat) (p : Pos),k fs n p = true → TP oo (Both cx nn kd (.Tuple fs n p) V H)) : TP oo (Both cx nn kd e V H):=xTuple_el (M:=fun e=>TP oo (Both cx nn kd e V H)) h K
theorem xList_tp {e : PySem.Expr} {k : (List Expr) → Pos → Bool} {oo : Option (AV × Hs)} (h : xList e k = true) (K : ∀ (fs : List Expr) (p : Pos),k fs p = true → TP oo (Both cx nn kd (.List fs p) V H)) : TP oo (Both cx nn kd e V H):=xList_el (M:=fun e=>TP oo (Both cx nn kd e V H)) h K
theorem xDict_tp {e : PySem.Expr} {k : (List (Option Expr)) → (List Expr) → Pos → Bool} {oo : Option (AV × Hs)} (h : xDict e k = true) (K : ∀ (ks : List (Option Expr)) (vs : List Expr) (p : Pos),k ks vs p = true → TP oo (Both cx nn kd (.Dict ks vs p) V H)) : TP oo (Both cx nn kd e V H):=xDict_el (M:=fun e=>TP oo (Both cx nn kd e V H)) h K
theorem xSub_tp {e : PySem.Expr} {k : Expr → Expr → Pos → Bool} {oo : Option (AV × Hs)} (h : xSub e k = true) (K : ∀ (v : Expr) (j : Expr) (p : Pos),k v j p = true → TP oo (Both cx nn kd (.Subscript v j p) V H)) : TP oo (Both cx nn kd e V H):=xSub_el (M:=fun e=>TP oo (Both cx nn kd e V H)) h K
theorem xAttr_tp {e : PySem.Expr} {k : Expr → Str → Pos → Bool} {oo : Option (AV × Hs)} (h : xAttr e k = true) (K : ∀ (v : Expr) (m : Str) (p : Pos),k v m p = true → TP oo (Both cx nn kd (.Attribute v m p) V H)) : TP oo (Both cx nn kd e V H):=xAttr_el (M:=fun e=>TP oo (Both cx nn kd e V H)) h K
theorem xCall_tp {e : PySem.Expr} {k : Expr → (List Expr) → (List Keyword) → Pos → Bool} {oo : Option (AV × Hs)} (h : xCall e k = true) (K : ∀ (f : Expr) (as : List Expr) (ks : List Keyword) (p : Pos),k f as ks p = true → TP oo (Both cx nn kd (.Call f as ks p) V H)) : TP oo (Both cx nn kd e V H):=xCall_el (M:=fun e=>TP oo (Both cx nn kd e V H)) h K
theorem xBin_tp {e : PySem.Expr} {k : Expr → Operator → Expr → Pos → Bool} {oo : Option (AV × Hs)} (h : xBin e k = true) (K : ∀ (l : Expr) (o : Operator) (r : Expr) (p : Pos),k l o r p = true → TP oo (Both cx nn kd (.BinOp l o r p) V H)) : TP oo (Both cx nn kd e V H):=xBin_el (M:=fun e=>TP oo (Both cx nn kd e V H)) h K
theorem xCmp_tp {e : PySem.Expr} {k : Expr → (List CmpOp) → (List Expr) → Pos → Bool} {oo : Option (AV × Hs)} (h : xCmp e k = true) (K : ∀ (l : Expr) (os : List CmpOp) (rs : List Expr) (p : Pos),k l os rs p = true → TP oo (Both cx nn kd (.Compare l os rs p) V H)) : TP oo (Both cx nn kd e V H):=xCmp_el (M:=fun e=>TP oo (Both cx nn kd e V H)) h K
theorem xUn_tp {e : PySem.Expr} {k : UnaryOp → Expr → Pos → Bool} {oo : Option (AV × Hs)} (h : xUn e k = true) (K : ∀ (o : UnaryOp) (x : Expr) (p : Pos),k o x p = true → TP oo (Both cx nn kd (.UnaryOp o x p) V H)) : TP oo (Both cx nn kd e V H):=xUn_el (M:=fun e=>TP oo (Both cx nn kd e V H)) h K
theorem xBool_tp {e : PySem.Expr} {k : BoolOp → (List Expr) → Pos → Bool} {oo : Option (AV × Hs)} (h : xBool e k = true) (K : ∀ (o : BoolOp) (fs : List Expr) (p : Pos),k o fs p = true → TP oo (Both cx nn kd (.BoolOp o fs p) V H)) : TP oo (Both cx nn kd e V H):=xBool_el (M:=fun e=>TP oo (Both cx nn kd e V H)) h K
theorem xIf_tp {e : PySem.Expr} {k : Expr → Expr → Expr → Pos → Bool} {oo : Option (AV × Hs)} (h : xIf e k = true) (K : ∀ (t : Expr) (x : Expr) (y : Expr) (p : Pos),k t x y p = true → TP oo (Both cx nn kd (.IfExp t x y p) V H)) : TP oo (Both cx nn kd e V H):=xIf_el (M:=fun e=>TP oo (Both cx nn kd e V H)) h K
theorem xConst_tp {e : PySem.Expr} {k : Const → Nat → Pos → Bool} {oo : Option (AV × Hs)} (h : xConst e k = true) (K : ∀ (c : Const) (n : Nat) (p : Pos),k c n p = true → TP oo (Both cx nn kd (.Constant c n p) V H)) : TP oo (Both cx nn kd e V H):=xConst_el (M:=fun e=>TP oo (Both cx nn kd e V H)) h K
theorem xComp_tp {e : PySem.Expr} {k : Expr → (List Comprehension) → Scope → Pos → Bool} {oo : Option (AV × Hs)} (h : xComp e k = true) (K : ∀ (el : Expr) (gs : List Comprehension) (sc : Scope) (p : Pos),k el gs sc p = true → TP oo (Both cx nn kd (.ListComp el gs sc p) V H)) : TP oo (Both cx nn kd e V H):=xComp_el (M:=fun e=>TP oo (Both cx nn kd e V H)) h K
end
theorem s_nil : SE2 c n (fun _ es=>l0 es) dNil:=⟨
  fun kd es V H h=>l0_el (M:=fun es=>TP (dNil.es V H) (TEs c n kd es V H)) h (tp_some ⟨fun A env ρ s pos X=>wpAny_items_nil (.mk ρ X.R .nil .refl),fun _ _=>rfl,fun _ _=>rfl,fun _=>.inl ⟨rfl,fun ρ s R=>.mk ρ R .nil .refl⟩,fun _=>rfl,fun _ q=>nomatch q⟩),
  fun op kd es V H h=>l0_el (M:=fun es=>TP (dNil.cj op V H) (TCj op c n kd es V H)) h (tp_some ⟨fun A env ρ s X=>match op with
    | .And=>wpAny_allTrue_And_nil (.mk rfl ρ X.R .refl)
    | .Or=>wpAny_allTrue_Or_nil (.mk rfl ρ X.R .refl),(fun _ q=>nomatch q),fun _=>rfl⟩)⟩
theorem starEach_cons {rest : List Expr} (h : noStar e = true) : starEach (e :: rest) env = (false,eval e env) :: starEach rest env:=by
  cases e <;> first | rfl | exact absurd h Bool.false_ne_true
theorem cons_el {ok : KE1} {r : KE2} {M : List Expr → Prop} {es : List Expr} (h : okCons ok r kd es = true) (k : ∀ e es,noStar e = true → ok kd e = true → r kd es = true → M (e :: es)) : M es:=match es,h with
  | e :: es,h=>b2_el h fun a h=>b2_el h fun b h=>k e es a b h
theorem conj_t {op : BoolOp} {rest : List Expr} {Q : Bool → Shared → Prop} {b : Bool} {E : Value → Shared → Prop} (h : wpAny (model c.prog c.w) A (isTrue e env (eval e env)) (fun r s1=>r = b ∧ if beqb b (opU op) then wpAny (model c.prog c.w) A (allTrue op rest env) Q E s1 else Q b s1) E s) : wpAny (model c.prog c.w) A (allTrue op (e :: rest) env) Q E s:=match op with
  | .And=>wpAny_allTrue_And_cons (wpAny_mono h (fun r s1 q=>match r,b,q with | true,_,⟨rfl,q⟩=>q | false,_,⟨rfl,q⟩=>q) fun _ _ x=>x)
  | .Or=>wpAny_allTrue_Or_cons (wpAny_mono h (fun r s1 q=>match r,b,q with | true,_,⟨rfl,q⟩=>q | false,_,⟨rfl,q⟩=>q) fun _ _ x=>x)
theorem conj_v {op : BoolOp} {e2 : Expr} {rest : List Expr} {Q : Value → Shared → Prop} {b : Bool} {E : Value → Shared → Prop} (h : wpAny (model c.prog c.w) A (eval e env) (fun u s1=>u = .bool b ∧ if beqb b (opU op) then wpAny (model c.prog c.w) A (eval (.BoolOp op (e2 :: rest) pos) env) Q E s1 else Q (.bool b) s1) E s) : wpAny (model c.prog c.w) A (eval (.BoolOp op (e :: e2 :: rest) pos) env) Q E s:=match op with
  | .And=>BoolOp_and (wpAny_mono h (fun r s1 q=>match r,b,q with | _,true,⟨rfl,q⟩=>wpAny_truthy_bool q | _,false,⟨rfl,q⟩=>wpAny_truthy_bool q) fun _ _ x=>x)
  | .Or=>BoolOp_or (wpAny_mono h (fun r s1 q=>match r,b,q with | _,true,⟨rfl,q⟩=>wpAny_truthy_bool q | _,false,⟨rfl,q⟩=>wpAny_truthy_bool q) fun _ _ x=>x)
theorem beqb_eq {a b : Bool} (h : beqb a b = true) : a = b:=match a,b,h with | true,true,_=>rfl | false,false,_=>rfl
theorem s_cj {op : BoolOp} {es : List Expr} {p : Bool × Hs} {b : Bool} (B : Both c n kd e V H (.bool b,H1)) (hp : (beqb b (opU op) = true ∧ TCj op c n kd es V H1 p) ∨ (beqb b (opU op) = false ∧ p = (b,H1))) : TCj op c n kd (e :: es) V H p:=match B with
  | .mk T B=>⟨fun A env ρ s X=>conj_t (b:=b) ((B b rfl).go X fun ρ1 s1 X1 W1=>⟨rfl,hp.elim (fun h=>by rw [if_pos h.1]; exact go (h.2.t A env ρ1 s1 X1) fun _ _ p=>p.from W1) fun h=>by rw [if_neg (by rw [h.1]; exact Bool.false_ne_true),h.2]; exact .mk rfl ρ1 X1.R W1⟩),
    fun pos _=>match es,hp with
      | [],hp=>fun A env ρ s X=>BoolOp_one (T.go X fun ρ1 s1 u X1 V1 W1=>hp.elim (fun h=>by rw [h.2.z rfl,← beqb_eq h.1]; exact .mk ρ1 X1.R V1 W1) fun h=>by rw [h.2]; exact .mk ρ1 X1.R V1 W1)
      | e2 :: es,hp=>fun A env ρ s X=>conj_v (b:=b) (T.go X fun ρ1 s1 u X1 V1 W1=>⟨V1,hp.elim (fun h=>by rw [if_pos h.1]; exact go (h.2.v pos rfl A env ρ1 s1 X1) fun _ _ p=>p.from W1) fun h=>by rw [if_neg (by rw [h.1]; exact Bool.false_ne_true),h.2]; exact .mk ρ1 X1.R v_bool W1⟩),fun q=>nomatch q⟩
theorem s_cons {ok : KE1} {okr : KE2} {f : D1} {r : D2} (F : SE1 c n ok f) (R : SE2 c n okr r) : SE2 c n (okCons ok okr) (dCons f r):=⟨
  fun kd es V H h=>cons_el (M:=fun es=>TP ((dCons f r).es V H) (TEs c n kd es V H)) h fun e es a b h=>tp_bnd (F kd e V H b) fun v H1 p=>tp_bnd (R.es kd es V H1 h) fun vs H2 q=>tp_some (match p with
    | .mk T _=>⟨fun A env ρ s pos X=>wpAny_items_cons (T.go X fun ρ1 s1 u X1 V1 W1=>go (q.go A env ρ1 s1 pos X1) fun us s2 p=>match p with | .mk ρ2 R2 V2 W2=>.mk ρ2 R2 (.cons (W2.rel X1.R V1) V2) (W1.trans W2)) (starEach_cons a),
      fun pos env=>by rw [starEach_cons a]; exact q.any pos env,fun pos env=>by rw [starEach_cons a]; exact q.all pos env,fun env=>.inr ⟨e,_,starEach_cons a⟩,(fun q=>nomatch q),fun e' z=>⟨v,by
        obtain ⟨rfl,rfl⟩:=List.cons.inj z
        have w:=q.nil rfl
        obtain rfl : vs = []:=congrArg Prod.fst w
        obtain rfl : H2 = H1:=congrArg Prod.snd w
        exact ⟨rfl,T⟩⟩⟩),
  fun op kd es V H h=>cons_el (M:=fun es=>TP ((dCons f r).cj op V H) (TCj op c n kd es V H)) h fun e es a b h=>tp_bnd (F kd e V H b) fun v H1 p=>match v,p with
    | .bool b,p=>tp_iff (fun q=>tp_mono (R.cj op kd es V H1 h) fun t Q=>s_cj p (.inl ⟨q,Q⟩)) fun q=>tp_some (s_cj p (.inr ⟨q,rfl⟩))
    | .none,_ | .any,_ | .tup _,_ | .int _,_ | .sym _,_ | .str _,_ | .loc _,_ | .bs _,_ | .fn _,_ | .bi _,_=>tp_none⟩
theorem kI_eq {x : Str} {k : NameKind} (h : kI kd x k = true) : kd.lookup x = some k:=opq_el h
theorem RelV.kindOf (RV : RelV c env kd V ρ s.heap) (x : Str) : env.kindOf x = kd.lookup x:=congrArg (List.lookup x) RV.names
theorem pn_el {x : Str} {C : Prop} (h : plainName x = true) (k : (x == ("__debug__" : Str)) = false → (x == ("__classdict__" : Str)) = false → C) : C:=b2_el h fun a b=>k (Bool.not_eq_true' _ ▸ a) (Bool.not_eq_true' _ ▸ b)
theorem te_var {y : Str} (hp : plainName y = true) (hk : (match kd.lookup y with | some .local | some .cell | some .free=>true | _=>false) = true) (hl : look V y = some v) : TE c n kd (.Name y pos) V H v H:=fun A env ρ s X=>pn_el hp fun p1 p2=>wpAny_Name (by
  have kk:=X.RV.kindOf y
  have cell : kd.lookup y = some .cell ∨ kd.lookup y = some .free → ∃ a,env.cells.lookup y = some a ∧ CvR c s.heap ρ v a:=fun k=>(Option.isSome_iff_exists.mp (X.RV.has y k)).elim fun a q=>⟨a,q,X.RV.cvar y v a hl k q⟩
  split at hk
  · rename_i k
    exact match X.RV.loc with | .mk m hn hv=>(hv y v hl k).elim fun u z=>wpAny_loadName_local X.RV.kind (kk.trans k) hn z.1 (.now0 X.R z.2)
  · rename_i k
    exact (cell (.inl k)).elim fun a z=>match z.2 with | .mk u hc hv=>wpAny_loadName_cell X.RV.kind (kk.trans k) z.1 hc (.now0 X.R hv)
  · rename_i k
    exact (cell (.inr k)).elim fun a z=>match z.2 with | .mk u hc hv=>wpAny_loadName_free X.RV.kind (kk.trans k) z.1 hc (.now0 X.R hv) p2
  · cases hk) p1
theorem te_gl {mg mb : Str → Option Value} {y : Str} (h1 : c.B.Ns mainGlobals mg) (h2 : c.B.Ns builtinsNs mb) (hp : plainName y = true) (hk : kI kd y .globalImplicit = true) (hx : GlR c mg mb y v) : TE c n kd (.Name y pos) V H v H:=fun A env ρ s X=>pn_el hp fun p1 p2=>
  Name_function_global X.RV.kind ((X.RV.kindOf y).trans (kI_eq hk)) (match hx with
    | .top u e hv=>loadGlobal_global (by rw [X.RV.glob]; exact h1.keeps X.R.keep) e (.now0 X.R (base_rel X.R hv))
    | .blt u e f hv=>loadGlobal_builtin (by rw [X.RV.glob]; exact h1.keeps X.R.keep) e (by rw [X.RV.blt]; exact h2.keeps X.R.keep) f (.now0 X.R (base_rel X.R hv))) p1
theorem s_var {x : Str} : SE1 c n (fun kd e=>xName e fun y _=>b2 (seqb x y) (b2 (plainName y) (match kd.lookup y with | some .local | some .cell | some .free=>true | _=>false))) (fun V H=>bn1 (look V x) fun v=>some (v,H)):=by
  intro kd e V H h
  refine xName_tp h fun y p h=>b2_el h fun e1 h=>b2_el h fun e2 e3=>tp_bn1 tp_eq fun v q=>?_
  obtain rfl:=seqb_eq e1
  exact tp_some (both_plain (te_var e2 e3 q) fun _=>rfl)
theorem s_gv (Bs : Base c K G D) {i : Nat} : SE1 c n (fun kd e=>xName e fun y _=>match hget G.gl i with | some p=>b2 (seqb p.1 y) (b2 (plainName y) (kI kd y .globalImplicit)) | none=>false) (fun _ H=>bn1 (hget G.gl i) fun p=>some (p.2,H)):=by
  intro kd e V H h
  refine xName_tp h fun y p h=>tp_bn1 tp_eq fun x q=>?_
  rw [q] at h
  refine b2_el h fun e1 h=>b2_el h fun e2 e3=>?_
  obtain ⟨z,v⟩:=x
  obtain rfl:=seqb_eq e1
  exact tp_some (both_plain (match Bs.g with | .mk mg mb h1 h2 gl _ _=>te_gl h1 h2 e2 e3 (gl i _ q)) fun _=>rfl)
theorem isI_el {M : Expr → Prop} {j : Int} (h : isI j e = true) (k : ∀ n p,M (.Constant (.int j) n p)) : M e:=xConst_el h fun c n p h=>cInt_el (M:=fun c=>M (.Constant c n p)) h fun i h=>(opq_el h : i = j) ▸ k n p
theorem con_ok {x : AV} {k : Const} {m : Nat} (h : okK x k = true) : Both c n kd (.Constant k m pos) V H (x,H):=match x,h with
  | .none,h=>cNone_el (M:=fun k=>Both c n kd (.Constant k m pos) V H (.none,H)) h (both_plain (fun A env ρ s X=>wpAny_Constant_none (.now0 X.R v_none)) fun _=>rfl)
  | .bool b,h=>cBool_el (M:=fun k=>Both c n kd (.Constant k m pos) V H (.bool b,H)) h fun d h=>beqb_eq h ▸ both_plain (fun A env ρ s X=>wpAny_Constant_bool (.now0 X.R v_bool)) fun _=>rfl
  | .int i,h=>cInt_el (M:=fun k=>Both c n kd (.Constant k m pos) V H (.int i,H)) h fun j h=>(opq_el h : i = j) ▸ both_plain (fun A env ρ s X=>wpAny_Constant_int (.now X.R v_int)) fun _=>rfl
  | .str y,h=>cStr_el (M:=fun k=>Both c n kd (.Constant k m pos) V H (.str y,H)) h fun t h=>seqb_eq h ▸ both_plain (fun A env ρ s X=>wpAny_Constant_str (.now X.R v_str)) fun _=>rfl
theorem s_con {x : AV} : SE1 c n (fun _ e=>okC x e) (fun _ H=>some (x,H)):=fun kd e V H h=>match x,h with
  | .int (.negSucc m),h=>xUn_tp h fun o x p h=>b2_el h fun a h=>by
    obtain rfl:=(opq_el a : o = UnaryOp.USub)
    exact isI_el (M:=fun x=>TP _ (Both c n kd (.UnaryOp .USub x p) V H)) h fun n p=>tp_some (both_plain (fun A env ρ s X=>wpAny_UnaryOp (wpAny_Constant_int (PySem.P.neg_int (.now X.R v_int)))) fun _=>rfl)
  | .int (.ofNat m),h=>xConst_tp h fun c n p h=>tp_some (con_ok h)
  | .none,h | .any,h | .bool _,h | .str _,h | .sym _,h | .tup _,h | .loc _,h | .bs _,h | .fn _,h | .bi _,h=>xConst_tp h fun c n p h=>tp_some (con_ok h)
theorem s_tup {ok : KE2} {r : D2} (R : SE2 c n ok r) : SE1 c n (fun kd e=>xTuple e fun fs _ _=>ok kd fs) (dTup r):=fun kd e V H h=>xTuple_tp h fun fs k p h=>tp_bnd (R.es kd fs V H h) fun vs H1 q=>tp_grd fun z=>tp_some (both_plain (fun A env ρ s X=>
  wpAny_Tuple (go (q.go A env ρ s p X) fun us s1 w=>match w with | .mk ρ1 R1 V1 W1=>⟨by rw [← V1.len]; exact line_of_small z,.from W1 (pe_tup R1 V1 rfl ⟨rfl,rfl,rfl⟩)⟩)) fun _=>rfl)
theorem s_lst {ok : KE2} {r : D2} (R : SE2 c n ok r) : SE1 c n (fun kd e=>xList e fun fs _=>ok kd fs) (dLst r):=fun kd e V H h=>xList_tp h fun fs p h=>tp_bnd (R.es kd fs V H h) fun vs H1 q=>tp_grd fun z=>tp_some (both_plain (fun A env ρ s X=>
  wpAny_List (go (q.go A env ρ s p X) fun us s1 w=>match w with | .mk ρ1 R1 V1 W1=>⟨by rw [← V1.len]; exact line_of_small z,.from W1 (pe_newL R1 (by rw [List.length_reverse]; exact Nat.le_refl _) (us:=us) (by rw [List.reverse_reverse]; exact V1) rfl ⟨rfl,rfl,rfl⟩)⟩)) fun _=>rfl)
theorem both_bool {α : Type} {T : α → Prop} {v : AV} {k : Bool → Option α} (q : Both c n kd e V H (v,H1)) (K : ∀ b,Both c n kd e V H (.bool b,H1) → TP (k b) T) : TP (asBool v k) T:=match v,q with
  | .bool b,q=>K b q
  | .none,_ | .any,_ | .tup _,_ | .int _,_ | .sym _,_ | .str _,_ | .loc _,_ | .bs _,_ | .fn _,_ | .bi _,_=>tp_none
theorem not_ok {b : Bool} (q : Both c n kd e V H (.bool b,H1)) : Both c n kd (.UnaryOp .Not e pos) V H (.bool (!b),H1):=match q with
  | .mk T B=>.mk (fun A env ρ s X=>wpAny_UnaryOp (T.go X fun ρ1 s1 u X1 V1 W1=>un_bool (M:=fun u=>wpAny (model c.prog c.w) A (unaryOp .Not u) (PE c ρ s (.bool (!b)) H1) NoE s1) V1 (not_value (wpAny_truthy_bool (.mk ρ1 X1.R v_bool W1)))))
      fun b' q A env ρ s X=>wpAny_isTrue_Not ((B b rfl).go X fun ρ1 s1 X1 W1=>.mk (bool_inj q) ρ1 X1.R W1)
theorem s_not {ok : KE1} {f : D1} (F : SE1 c n ok f) : SE1 c n (fun kd e=>xUn e fun o x _=>b2 (opq (instDecidableEqUnaryOp o .Not)) (ok kd x)) (dNot f):=fun kd e V H h=>xUn_tp h fun o x p h=>b2_el h fun a h=>by
  obtain rfl:=(opq_el a : o = UnaryOp.Not)
  exact tp_bnd (F kd x V H h) fun v H1 q=>both_bool q fun b q=>tp_some (not_ok q)
theorem both_if {t x y : Expr} {b : Bool} {p : AV × Hs} (B : Both c n kd t V H (.bool b,H1)) (h : (b = true ∧ Both c n kd x V H1 p) ∨ (b = false ∧ Both c n kd y V H1 p)) : Both c n kd (.IfExp t x y pos) V H p:=match B with
  | .mk _ B=>match b,B,h with
    | true,B,.inl ⟨_,.mk T C⟩=>.mk (fun A env ρ s X=>wpAny_IfExp ((B true rfl).go X fun ρ1 s1 X1 W1=>go (T A env ρ1 s1 X1) fun _ _ p=>p.from W1)) fun d q A env ρ s X=>isTrue_IfExp ((B true rfl).go X fun ρ1 s1 X1 W1=>go (C d q A env ρ1 s1 X1) fun _ _ p=>p.from W1)
    | false,B,.inr ⟨_,.mk T C⟩=>.mk (fun A env ρ s X=>wpAny_IfExp ((B false rfl).go X fun ρ1 s1 X1 W1=>go (T A env ρ1 s1 X1) fun _ _ p=>p.from W1)) fun d q A env ρ s X=>isTrue_IfExp ((B false rfl).go X fun ρ1 s1 X1 W1=>go (C d q A env ρ1 s1 X1) fun _ _ p=>p.from W1)
    | true,_,.inr ⟨q,_⟩=>nomatch q
    | false,_,.inl ⟨q,_⟩=>nomatch q
theorem s_ite {ok1 ok2 ok3 : KE1} {f g r : D1} (F : SE1 c n ok1 f) (G : SE1 c n ok2 g) (R : SE1 c n ok3 r) : SE1 c n (fun kd e=>xIf e fun t x y _=>b2 (ok1 kd t) (b2 (ok2 kd x) (ok3 kd y))) (dIte f g r):=fun kd e V H h=>xIf_tp h fun t x y p h=>b2_el h fun h1 h=>b2_el h fun h2 h3=>tp_bnd (F kd t V H h1) fun v H1 q=>both_bool q fun b q=>
  tp_iff (fun e=>tp_mono (G kd x V H1 h2) fun p w=>both_if q (.inl ⟨e,w⟩)) fun e=>tp_mono (R kd y V H1 h3) fun p w=>both_if q (.inr ⟨e,w⟩)
theorem s_conj {op : BoolOp} {ok : KE2} {r : D2} (R : SE2 c n ok r) : SE1 c n (fun kd e=>xBool e fun o fs _=>b2 (opq (instDecidableEqBoolOp o op)) (b2 (!l0 fs) (ok kd fs))) (dConj op r):=fun kd e V H h=>xBool_tp h fun o fs p h=>b2_el h fun a h=>b2_el h fun b hk=>by
  obtain rfl:=(opq_el a : o = op)
  exact tp_bnd (R.cj o kd fs V H hk) fun b' H1 q=>tp_some (.mk (q.v p (Bool.not_eq_true' _ ▸ b)) fun d q' A env ρ s X=>wpAny_isTrue_BoolOp (go (q.t A env ρ s X) fun _ _ z=>match z with | .mk e ρ1 R W=>.mk (e.trans (bool_inj q')) ρ1 R W))
end
theorem isubA_eq (a b : Int) : isubA a b = a - b:=by
  unfold isubA
  split
  · split
    · simp only [Int.ofNat_eq_natCast]; omega
    · rfl
  · rfl
theorem log2_lt {n k : Nat} (h : n < 2 ^ k) (hk : 0 < k) : n.log2 < k:=by
  by_cases hn : n = 0
  · subst hn; exact hk
  · exact (Nat.log2_lt hn).mpr h
theorem bits_small {y : Int} (h : intSmall y = true) : Builtin.Int.intBits y ≤ 64:=by
  have : y.natAbs < 2 ^ 63:=by
    unfold intSmall at h
    split at h
    · have:=Nat.le_of_ble_eq_true h; simp only [Int.ofNat_eq_natCast]; omega
    · have:=Nat.le_of_ble_eq_true h; simp only [Int.natAbs_negSucc]; omega
  unfold Builtin.Int.intBits
  split
  · omega
  · have:=log2_lt this (by omega); omega
theorem noFill_tuple_mul : fillsNumberSlot (.type "tuple") "mul" = pure false:=
  PySem.fillsNumberSlot_seq (id:="tuple.__mul__") (r:=some (.builtin "tuple.__rmul__")) PySem.F.slot_tuple_mul.lookup (by decide +kernel) PySem.F.slot_tuple_rmul.lookup (by decide +kernel)
theorem repeat_tuple : seqRepeat? (.type "tuple") = pure (some (.builtin "tuple.__mul__")):=by
  unfold seqRepeat?
  rw [PySem.seqSlot_of (T:="tuple") (name:="__mul__") (id:="tuple.__mul__") PySem.F.slot_tuple_mul.lookup (by decide +kernel),PySem.seqSlot_of (T:="tuple") (name:="__rmul__") (id:="tuple.__rmul__") PySem.F.slot_tuple_rmul.lookup (by decide +kernel)]
  rfl
theorem int_rmul_tuple (a : Int) (t : Tok) (l : Addr) (items : Array Value) (n : Nat) (d : Option Addr) (sl : Array (Option Value)) :
    Meets (Builtin.«int.__rmul__» ⟨[.int a t,.ref l],[]⟩) (fun _ R s=>s.heap.get? l = some { cls:=.type "tuple",dict:=d,data:=.seq items n,slots:=sl } ∧ R (.ok (.ret Value.notImplemented)) s):=
  .of_wp fun prog w A R s h=>by obtain ⟨hp,g,d,tk,os⟩:=s; obtain ⟨hl,h⟩:=h; wp_walk; exact ⟨_,rfl,h⟩
theorem tuple_mul_same (l : Addr) (items : Array Value) (n : Nat) (d : Option Addr) (sl : Array (Option Value)) (x : Int) (u : Tok) (hc0 : ¬ (decide (x < -(2 ^ 63)) || decide (x ≥ 2 ^ 63)) = true) (hc1 : (items.isEmpty || x == 1) = true) :
    Meets (Builtin.«tuple.__mul__» ⟨[.ref l,.int x u],[]⟩) (fun _ R s=>s.heap.get? l = some { cls:=.type "tuple",dict:=d,data:=.seq items n,slots:=sl } ∧ R (.ok (.ret (Value.ref l))) s):=
  .of_wp fun prog w A R s h=>by obtain ⟨hp,g,d,tk,os⟩:=s; obtain ⟨hl,h⟩:=h; wp_walk using AutoSeq1.wpAny_loadPart' hl; refine wpAny_ite_false (by simpa using hc0) ?_; wp_walk using AutoSeq1.wpAny_loadPart' hl; exact ⟨_,rfl,h⟩
theorem tuple_mul_none (l : Addr) (items : Array Value) (n : Nat) (d : Option Addr) (sl : Array (Option Value)) (x : Int) (u : Tok) (hc0 : ¬ (decide (x < -(2 ^ 63)) || decide (x ≥ 2 ^ 63)) = true) (hc1 : ¬ (items.isEmpty || x == 1) = true)
    (hc2 : (decide (x ≤ 0) || items.isEmpty) = true) :
    Meets (Builtin.«tuple.__mul__» ⟨[.ref l,.int x u],[]⟩) (fun _ R s=>s.heap.get? l = some { cls:=.type "tuple",dict:=d,data:=.seq items n,slots:=sl } ∧ R (.ok (.ret (Value.ref s.heap.objs.size))) { s with heap:=s.heap.push { cls:=Value.type "tuple",data:=Data.seq #[] } }):=
  .of_wp fun prog w A R s h=>by obtain ⟨hp,g,d,tk,os⟩:=s; obtain ⟨hl,h⟩:=h; wp_walk using AutoSeq1.wpAny_loadPart' hl; refine wpAny_ite_false (by simpa using hc0) ?_; wp_walk using AutoSeq1.wpAny_loadPart' hl; exact ⟨_,rfl,h⟩
theorem tuple_mul_more (l : Addr) (items : Array Value) (n : Nat) (d : Option Addr) (sl : Array (Option Value)) (x : Int) (u : Tok) (hc0 : ¬ (decide (x < -(2 ^ 63)) || decide (x ≥ 2 ^ 63)) = true) (hc1 : ¬ (items.isEmpty || x == 1) = true)
    (hc2 : ¬ (decide (x ≤ 0) || items.isEmpty) = true) (hc3 : ¬ ((items.size : Int) * x > (2 ^ 63 - 1) / 8)) (hc4 : ¬ Builtin.Tuple.tupleTooMany (items.size * x) = true) (hsz : (List.foldl (fun x1 x2=>x1 ++ x2) #[] (List.replicate x.toNat items)).size ≤ sizeLine) :
    Meets (Builtin.«tuple.__mul__» ⟨[.ref l,.int x u],[]⟩) (fun _ R s=>s.heap.get? l = some { cls:=.type "tuple",dict:=d,data:=.seq items n,slots:=sl } ∧ R (.ok (.ret (Value.ref s.heap.objs.size))) { s with heap:=s.heap.push { cls:=Value.type "tuple",data:=Data.seq (List.foldl (fun x1 x2=>x1 ++ x2) #[] (List.replicate x.toNat items)) } }):=
  .of_wp fun prog w A R s h=>by obtain ⟨hp,g,d,tk,os⟩:=s; obtain ⟨hl,h⟩:=h; wp_walk using AutoSeq1.wpAny_loadPart' hl; refine wpAny_ite_false (by simpa using hc0) ?_; wp_walk using AutoSeq1.wpAny_loadPart' hl; refine wpAny_ite_false (decide_eq_false hc3) ?_; wp_walk using AutoSeq1.wpAny_loadPart' hl; exact ⟨_,rfl,h⟩
section
variable {c : Cx} {A : Around} {s : Shared}
theorem isList_lit {h : Heap} {a : Addr} {us : Array Value} (x : h.IsList a us) : ∃ dd n sl,h.get? a = some { cls:=.type "list",dict:=dd,data:=.seq us n,slots:=sl }:=by
  obtain ⟨⟨cls,dd,data,sl⟩,ho,hc,n,hd⟩:=x
  simp only at hc hd
  subst hc hd
  exact ⟨dd,n,sl,ho⟩
theorem isTuple_lit {h : Heap} {a : Addr} {us : Array Value} (x : h.IsTuple a us) : ∃ dd n sl,h.get? a = some { cls:=.type "tuple",dict:=dd,data:=.seq us n,slots:=sl }:=by
  obtain ⟨⟨cls,dd,data,sl⟩,ho,hc,n,hd⟩:=x
  simp only at hc hd
  subst hc hd
  exact ⟨dd,n,sl,ho⟩
theorem add_list_raw {l b : Addr} {vs ws : List Value} {Q : Value → Shared → Prop} {E : Value → Shared → Prop} (hl : s.heap.IsList l vs.toArray) (hb : s.heap.IsList b ws.toArray)
    (h : Q (.ref s.heap.objs.size) { s with heap:=s.heap.push { cls:=.type "list",data:=.seq (vs ++ ws).toArray } })
    (hsz : vs.length + ws.length ≤ sizeLine) :
    wpAny (model c.prog c.w) A (binaryOp .Add (.ref l) (.ref b)) Q E s:=by
  obtain ⟨dd,n,sl,ho⟩:=isList_lit hl
  obtain ⟨dd2,n2,sl2,ho2⟩:=isList_lit hb
  have e : vs.toArray ++ ws.toArray = (vs ++ ws).toArray:=by simp
  refine concat_meets ⟨_,ho,rfl⟩ ⟨_,ho2,rfl⟩ noFill_list_add seq_list_add PySem.F.slot_list_add PySem.F.entry_list_add (PySem.F.args_list_add_2 _ _) (list_addW l b vs.toArray ws.toArray n n2 dd dd2 sl sl2 (by simpa using hsz)) ⟨ho,ho2,?_⟩
  rw [e]
  exact h
theorem add_tup_raw {t b : Addr} {vs ws : List Value} {Q : Value → Shared → Prop} {E : Value → Shared → Prop} (hl : s.heap.IsTuple t vs.toArray) (hb : s.heap.IsTuple b ws.toArray)
    (h0 : vs = [] → Q (.ref b) s) (h1 : ws = [] → Q (.ref t) s)
    (h2 : Q (.ref s.heap.objs.size) { s with heap:=s.heap.push { cls:=.type "tuple",data:=.seq (vs ++ ws).toArray } })
    (hsz : vs.length + ws.length ≤ sizeLine) :
    wpAny (model c.prog c.w) A (binaryOp .Add (.ref t) (.ref b)) Q E s:=by
  obtain ⟨dd,n,sl,ho⟩:=isTuple_lit hl
  obtain ⟨dd2,n2,sl2,ho2⟩:=isTuple_lit hb
  have e : vs.toArray ++ ws.toArray = (vs ++ ws).toArray:=by simp
  by_cases hv : vs = []
  · exact concat_meets ⟨_,ho,rfl⟩ ⟨_,ho2,rfl⟩ noFill_tuple_add seq_tuple_add PySem.F.slot_tuple_add PySem.F.entry_tuple_add (PySem.F.args_tuple_add_2 _ _)
      (tuple_addW0 t b vs.toArray ws.toArray n n2 dd dd2 sl sl2 (by simp [hv])) ⟨ho,ho2,h0 hv⟩
  · by_cases hw : ws = []
    · exact concat_meets ⟨_,ho,rfl⟩ ⟨_,ho2,rfl⟩ noFill_tuple_add seq_tuple_add PySem.F.slot_tuple_add PySem.F.entry_tuple_add (PySem.F.args_tuple_add_2 _ _)
        (tuple_addW1 t b vs.toArray ws.toArray n n2 dd dd2 sl sl2 (by simpa using hv) (by simp [hw])) ⟨ho,ho2,h1 hw⟩
    · refine concat_meets ⟨_,ho,rfl⟩ ⟨_,ho2,rfl⟩ noFill_tuple_add seq_tuple_add PySem.F.slot_tuple_add PySem.F.entry_tuple_add (PySem.F.args_tuple_add_2 _ _)
        (tuple_addW2 t b vs.toArray ws.toArray n n2 dd dd2 sl sl2 (by simpa using hv) (by simpa using hw) (by rw [List.size_toArray,List.size_toArray]; exact hsz)) ⟨ho,ho2,?_⟩
      rw [e]
      exact h2
theorem mul_list_x {l : Addr} {vs : Array Value} {x : Int} {u : Tok} {Q : Value → Shared → Prop} {E : Value → Shared → Prop} (hl : s.heap.IsList l vs) (q1 : ¬(!Builtin.List.listFitsIndex x) = true) (q2 : ¬vs.size * x.toNat > (2 ^ 63 - 1) / 8) (q3 : ¬Builtin.List.listTooLong (vs.size * x.toNat) = true)
    (h : Q (.ref s.heap.objs.size) { s with heap:=s.heap.push { cls:=.type "list",data:=.seq (List.replicate x.toNat vs.toList).flatten.toArray } }) :
    wpAny (model c.prog c.w) A (binaryOp .Mult (.ref l) (.int x u)) Q E s:=by
  obtain ⟨d,n,sl,ho⟩:=isList_lit hl
  have fin : Q (.ref s.heap.objs.size) { s with heap:=s.heap.push { cls:=.type "list",data:=.seq (List.foldl (fun x1 x2=>x1 ++ x2) #[] (List.replicate (if vs.isEmpty = true then 0 else x.toNat) vs)) } }:=by
    rw [listMul_foldl_if]; exact h
  exact wpAny_binaryOp_repeat_ref (T:="list") (U:="int") (by decide) ⟨_,ho,rfl⟩ (fun s'=>typeIs_int s' _ u) noFill_list_mul PySem.F.fills_int_mul PySem.F.slot_int_rmul repeat_list PySem.F.slot_int_index.lookup
    (call_meets PySem.F.slot_int_rmul (typeIs_int s _ u) PySem.F.entry_int_rmul (PySem.F.args_int_rmul_2 _ _) (lm_int_rmul_list_any _ u l vs n d sl)
      ⟨ho,rfl,⟨_,ho,rfl⟩,call_meets PySem.F.slot_list_mul ⟨_,ho,rfl⟩ PySem.F.entry_list_mul (PySem.F.args_list_mul_2 _ _) (lm_list_mul_any l vs n d sl x u q1 q2 q3) ⟨ho,fin⟩⟩)
theorem mul_list_raw {l : Addr} {vs : List Value} {k : Nat} {u : Tok} {Q : Value → Shared → Prop} {E : Value → Shared → Prop} (hl : s.heap.IsList l vs.toArray) (hk : k ≤ 1000000) (hsz : k * vs.length ≤ 1000000)
    (h : Q (.ref s.heap.objs.size) { s with heap:=s.heap.push { cls:=.type "list",data:=.seq (List.replicate k vs).flatten.toArray } }) :
    wpAny (model c.prog c.w) A (binaryOp .Mult (.ref l) (.int (k : Int) u)) Q E s:=by
  have hsz' : vs.toArray.size * (k : Int).toNat ≤ 1000000:=by
    show vs.toArray.size * k ≤ _
    rw [List.size_toArray,Nat.mul_comm]; exact hsz
  have q1 : ¬(!Builtin.List.listFitsIndex (k : Int)) = true:=by simp [Builtin.List.listFitsIndex]; omega
  have q2 : ¬vs.toArray.size * (k : Int).toNat > (2 ^ 63 - 1) / 8:=by generalize vs.toArray.size * (k : Int).toNat = z at hsz'; omega
  have q3 : ¬Builtin.List.listTooLong (vs.toArray.size * (k : Int).toNat) = true:=by
    simp only [Builtin.List.listTooLong,sizeLine_eq,decide_eq_true_eq]; generalize vs.toArray.size * (k : Int).toNat = z at hsz'; omega
  exact mul_list_x hl q1 q2 q3 h
theorem mul_tup_raw {l : Addr} {vs : List Value} {k : Nat} {u : Tok} {Q : Value → Shared → Prop} {E : Value → Shared → Prop} (hl : s.heap.IsTuple l vs.toArray) (hk : k ≤ 1000000) (hsz : k * vs.length ≤ 1000000)
    (h0 : (List.replicate k vs).flatten = vs → Q (.ref l) s)
    (h : Q (.ref s.heap.objs.size) { s with heap:=s.heap.push { cls:=.type "tuple",data:=.seq (List.replicate k vs).flatten.toArray } }) :
    wpAny (model c.prog c.w) A (binaryOp .Mult (.ref l) (.int (k : Int) u)) Q E s:=by
  obtain ⟨d,n,sl,ho⟩:=isTuple_lit hl
  have hc0 : ¬ (decide ((k : Int) < -(2 ^ 63)) || decide ((k : Int) ≥ 2 ^ 63)) = true:=by simp; omega
  have fin : wpAny (model c.prog c.w) A (call (.builtin "tuple.__mul__") [.ref l,.int (k : Int) u]) Q E s:=by
    by_cases c1 : (vs.toArray.isEmpty || (k : Int) == 1) = true
    · refine call_meets PySem.F.slot_tuple_mul ⟨_,ho,rfl⟩ PySem.F.entry_tuple_mul (PySem.F.args_tuple_mul_2 _ _) (tuple_mul_same l vs.toArray n d sl _ u hc0 c1) ⟨ho,h0 ?_⟩
      simp at c1
      rcases c1 with rfl | c1
      · simp
      · have : k = 1:=by omega
        subst this; simp
    · by_cases c2 : (decide ((k : Int) ≤ 0) || vs.toArray.isEmpty) = true
      · refine call_meets PySem.F.slot_tuple_mul ⟨_,ho,rfl⟩ PySem.F.entry_tuple_mul (PySem.F.args_tuple_mul_2 _ _) (tuple_mul_none l vs.toArray n d sl _ u hc0 c1 c2) ⟨ho,?_⟩
        simp at c1 c2
        have : k = 0:=by
          rcases c2 with c2 | c2
          · omega
          · exact absurd c2 c1.1
        subst this; exact h
      · have c4 : ((vs.length : Int) * (k : Int)) ≤ 1000000:=by rw [Int.mul_comm,← Int.natCast_mul]; exact Int.ofNat_le.mpr hsz
        refine call_meets PySem.F.slot_tuple_mul ⟨_,ho,rfl⟩ PySem.F.entry_tuple_mul (PySem.F.args_tuple_mul_2 _ _) (tuple_mul_more l vs.toArray n d sl _ u hc0 c1 c2 ?_ ?_ ?_) ⟨ho,?_⟩
        · rw [List.size_toArray]; omega
        · rw [List.size_toArray]; simp only [Builtin.Tuple.tupleTooMany,sizeLine_eq,decide_eq_true_eq]; omega
        · rw [AutoListH.size_joined,sizeLine_eq,List.size_toArray]
          show 0 + k * vs.length ≤ _
          omega
        · rw [listMul_foldl]
          simpa using h
  exact wpAny_binaryOp_repeat_ref (T:="tuple") (U:="int") (by decide) ⟨_,ho,rfl⟩ (fun s'=>typeIs_int s' _ u) noFill_tuple_mul PySem.F.fills_int_mul PySem.F.slot_int_rmul repeat_tuple PySem.F.slot_int_index.lookup
    (call_meets PySem.F.slot_int_rmul (typeIs_int s _ u) PySem.F.entry_int_rmul (PySem.F.args_int_rmul_2 _ _) (int_rmul_tuple _ u l vs.toArray n d sl)
      ⟨ho,rfl,⟨_,ho,rfl⟩,fin⟩)
end
theorem rep_len (k : Nat) (vs : List AV) : (rep k vs).length = k * vs.length:=Nat.rec (motive:=fun k=>(rep k vs).length = k * vs.length) (Nat.zero_mul _).symm (fun k ih=>by show (vs ++ rep k vs).length = _; rw [List.length_append,ih,Nat.succ_mul,Nat.add_comm]) k
theorem rep_comm (k : Nat) (vs : List AV) : vs ++ rep k vs = rep k vs ++ vs:=Nat.rec (motive:=fun k=>vs ++ rep k vs = rep k vs ++ vs) (List.append_nil vs) (fun k ih=>by show vs ++ (vs ++ rep k vs) = (vs ++ rep k vs) ++ vs; rw [List.append_assoc,ih]) k
theorem rep_rev (k : Nat) (vs : List AV) : (rep k vs).reverse = rep k vs.reverse:=Nat.rec (motive:=fun k=>(rep k vs).reverse = rep k vs.reverse) rfl (fun k ih=>by show (vs ++ rep k vs).reverse = vs.reverse ++ rep k vs.reverse; rw [List.reverse_append,ih,rep_comm]) k
theorem Cx.Vs.rep {c : Cx} {ρ : List Addr} {h : Heap} {vs : List AV} {us : List Value} (e : c.Vs h ρ vs us) (k : Nat) : c.Vs h ρ (rep k vs) (List.replicate k us).flatten:=Nat.rec (motive:=fun k=>c.Vs h ρ (Mine.rep k vs) (List.replicate k us).flatten) .nil (fun k ih=>by rw [List.replicate_succ,List.flatten_cons]; exact e.app ih) k
section
variable {c : Cx} {G : Pg} {K : Frag} {D n : Nat} {kd : Kd} {V : Vs} {ρ : List Addr} {H H' H1 H2 : Hs} {A : Around} {env : Env} {s : Shared} {x y : AV} {u w : Value}
def BO (c : Cx) (A : Around) (ρ : List Addr) (s : Shared) (op : Operator) (u w : Value) (p : AV × Hs) : Prop:=wpAny (model c.prog c.w) A (binaryOp op u w) (PE c ρ s p.1 p.2) NoE s
theorem small_le {m : Nat} (h : small m = true) : m ≤ 1000000:=Nat.le_of_ble_eq_true h
theorem ListR.isList {h : Heap} {k : Nat} {r : List AV} {a : Addr} (x : ListR c h ρ k r a) : ∃ us : List Value,h.IsList a us.toArray ∧ c.Vs h ρ r.reverse us ∧ us.length = r.length ∧ r.length ≤ k:=match x with | .mk us hn hp hv=>⟨us,hp.isList,hv,by rw [← hv.len,List.length_reverse],hn⟩
theorem add_ok (R : RelH c ρ H s.heap) (hu : c.V s.heap ρ x u) (hw : c.V s.heap ρ y w) : TP (addOp x y H) (BO c A ρ s .Add u w):=by
  have rest : TP (lstAt H x fun _ n r=>lstAt H y fun _ m q=>grd (small (n + m)) (newL (n + m) (q ++ r) H)) (BO c A ρ s .Add u w):=by
    refine tp_lst (T:=fun u=>BO c A ρ s .Add u w) R hu fun i a m r e1 e2 L=>tp_lst (T:=fun w=>BO c A ρ s .Add (.ref a) w) R hw fun j b k q f1 f2 M=>tp_grd fun z=>tp_some ?_
    obtain ⟨us,hl,hv,l1,l2⟩:=L.isList
    obtain ⟨ws,hm,hx,m1,m2⟩:=M.isList
    have z:=small_le z
    exact add_list_raw hl hm (pe_newL R (by rw [List.length_append]; omega) (by rw [List.reverse_append]; exact hv.app hx) rfl ⟨rfl,rfl,rfl⟩) (by rw [sizeLine_eq]; omega)
  cases x with
  | int i=>exact un_int (M:=fun u=>TP (addOp (.int i) y H) (BO c A ρ s .Add u w)) hu fun t=>tp_int (T:=fun w=>BO c A ρ s .Add (.int i t) w) hw fun j t' _=>tp_some (PySem.P.add_int (.now R v_int))
  | str i=>exact un_str (M:=fun u=>TP (addOp (.str i) y H) (BO c A ρ s .Add u w)) hu fun t=>tp_str (T:=fun w=>BO c A ρ s .Add (.str i t) w) hw fun j t'=>tp_grd fun z=>tp_some (PyProof.Rows.add_str (fun t' tk=>.now R (by
      have : i ++ j = (⟨(i.cps.toList ++ j.cps.toList).toArray⟩ : Str):=congrArg Str.mk (Array.toList_inj.mp (by simp))
      rw [this]; exact v_str)) (by have:=line_of_small z; simpa [Str.length] using this))
  | tup xs=>
    refine un_tup (M:=fun u=>TP (addOp (.tup xs) y H) (BO c A ρ s .Add u w)) hu fun a us ht h1=>tp_tup (T:=fun w=>BO c A ρ s .Add (.ref a) w) hw fun ys b ws _ hb h2=>tp_grd fun z=>tp_some ?_
    have hl:=h1.app h2
    refine add_tup_raw ht hb (fun e=>?_) (fun e=>?_) (pe_tup R hl rfl ⟨rfl,rfl,rfl⟩) (by rw [← h1.len,← h2.len]; exact line_of_small z)
    · obtain rfl:=List.length_eq_zero_iff.mp (h1.len.trans (by rw [e]; rfl))
      exact .now0 R (v_tup hb h2)
    · obtain rfl:=List.length_eq_zero_iff.mp (h2.len.trans (by rw [e]; rfl))
      rw [List.append_nil]
      exact .now0 R (v_tup ht h1)
  | none=>exact rest
  | any=>exact rest
  | bool _=>exact rest
  | sym _=>exact rest
  | loc _=>exact rest
  | bs _=>exact rest
  | fn _=>exact rest
  | bi _=>exact rest
theorem mul_ok (R : RelH c ρ H s.heap) (hu : c.V s.heap ρ x u) (hw : c.V s.heap ρ y w) : TP (mulOp x y H) (BO c A ρ s .Mult u w):=by
  have rest : TP (lstAt H x fun _ n r=>asNat y fun k=>grd (Nat.ble k 1000000) (grd (small (k * n)) (newL (k * n) (rep k r) H))) (BO c A ρ s .Mult u w):=by
    refine tp_lst (T:=fun u=>BO c A ρ s .Mult u w) R hu fun i a m r e1 e2 L=>tp_nat (T:=fun w=>BO c A ρ s .Mult (.ref a) w) hw fun k t _=>tp_grd fun z1=>tp_grd fun z=>tp_some ?_
    obtain ⟨us,hl,hv,l1,l2⟩:=L.isList
    have z:=small_le z
    exact mul_list_raw hl (Nat.le_of_ble_eq_true z1) (by rw [l1]; exact Nat.le_trans (Nat.mul_le_mul_left _ l2) z) (pe_newL R (by rw [rep_len]; exact Nat.mul_le_mul_left _ l2) (by rw [rep_rev]; exact hv.rep k) rfl ⟨rfl,rfl,rfl⟩)
  cases x with
  | int i=>exact un_int (M:=fun u=>TP (mulOp (.int i) y H) (BO c A ρ s .Mult u w)) hu fun t=>tp_int (T:=fun w=>BO c A ρ s .Mult (.int i t) w) hw fun j t' _=>tp_grd fun z=>tp_some (PySem.P.mul_int (.now R v_int) (IntMulOk.of_right (bits_small z)))
  | tup xs=>
    refine un_tup (M:=fun u=>TP (mulOp (.tup xs) y H) (BO c A ρ s .Mult u w)) hu fun a us ht h1=>tp_nat (T:=fun w=>BO c A ρ s .Mult (.ref a) w) hw fun k t _=>tp_grd fun z1=>tp_grd fun z=>tp_some ?_
    exact mul_tup_raw ht (Nat.le_of_ble_eq_true z1) (by rw [← h1.len]; exact small_le z) (fun e=>.now0 R (v_tup ht (by have:=h1.rep k; rwa [e] at this))) (pe_tup R (h1.rep k) rfl ⟨rfl,rfl,rfl⟩)
  | none=>exact rest
  | any=>exact rest
  | bool _=>exact rest
  | str _=>exact rest
  | sym _=>exact rest
  | loc _=>exact rest
  | bs _=>exact rest
  | fn _=>exact rest
  | bi _=>exact rest
theorem div_ok {f : Int → Int → Int} {op : Operator} (R : RelH c ρ H s.heap) (hu : c.V s.heap ρ x u) (hw : c.V s.heap ρ y w) (h : ∀ i (k : Nat) t t',k + 1 ≤ 1000001 → BO c A ρ s op (.int i t) (.int ((k + 1 : Nat) : Int) t') (.int (f i (.ofNat (k + 1))),H)) : TP (divOp f x y H) (BO c A ρ s op u w):=
  tp_int (T:=fun u=>BO c A ρ s op u w) hu fun i t _=>tp_nat (T:=fun w=>BO c A ρ s op (.int i t) w) hw fun k t' _=>match k with
    | 0=>tp_none
    | k + 1=>tp_grd fun z=>tp_some (h i k t t' (Nat.succ_le_succ (small_le z)))
theorem ieqA_n {a : Int} {n : Nat} (h : ieqA a (.ofNat n) = true) : a = .ofNat n:=match a,h with
  | .ofNat m,h=>congrArg Int.ofNat (Nat.eq_of_beq_eq_true h)
  | .negSucc m,h=>nomatch (show false = true from h)
theorem bin_ok (op : Operator) (R : RelH c ρ H s.heap) (hu : c.V s.heap ρ x u) (hw : c.V s.heap ρ y w) : TP (binOp op x y H) (BO c A ρ s op u w):=match op with
  | .Add=>add_ok R hu hw
  | .Sub=>tp_int (T:=fun u=>BO c A ρ s .Sub u w) hu fun i t _=>tp_int (T:=fun w=>BO c A ρ s .Sub (.int i t) w) hw fun j t' _=>tp_some (by rw [isubA_eq]; exact PySem.P.sub_int (.now R v_int))
  | .Mult=>mul_ok R hu hw
  | .FloorDiv=>div_ok R hu hw fun i k t t' z=>PyProof.Rows.floordiv_int (by omega) (.now R v_int) (.inl (PyProof.noPylong_of_log2 (Nat.lt_trans (log2_lt (k:=64) (by simp only [Int.natAbs_natCast]; omega) (by omega)) (by omega))))
  | .Mod=>tp_int (T:=fun u=>BO c A ρ s .Mod u w) hu fun i t _=>tp_nat (T:=fun w=>BO c A ρ s .Mod (.int i t) w) hw fun k t' _=>match k with
    | 0=>tp_none
    | k + 1=>tp_some (PyProof.Rows.mod_int' (by omega) (.now R v_int))
  | .Pow=>tp_int (T:=fun u=>BO c A ρ s .Pow u w) hu fun i t _=>tp_int (T:=fun w=>BO c A ρ s .Pow (.int i t) w) hw fun j t' _=>tp_grd fun z1=>tp_grd fun z2=>by
    obtain rfl:=ieqA_n z1
    obtain rfl:=ieqA_n z2
    refine tp_some (PySem.AutoIntOps.pow_4 (by decide) (by decide) (by decide) (by decide) (by decide +kernel) ?_)
    have e : ((Int.ofNat 10) ^ (Int.toNat (Int.ofNat 40)) : Int) = Int.ofNat 10000000000000000000000000000000000000000:=by decide +kernel
    rw [e]
    exact .now R v_int
  | .MatMult | .Div | .LShift | .RShift | .BitOr | .BitXor | .BitAnd=>tp_none
theorem s_bin {op : Operator} {ok1 ok2 : KE1} {f g : D1} (F : SE1 c n ok1 f) (G : SE1 c n ok2 g) : SE1 c n (fun kd e=>xBin e fun l o r _=>b2 (opq (instDecidableEqOperator op o)) (b2 (ok1 kd l) (ok2 kd r))) (dBin op f g):=fun kd e V H h=>xBin_tp h fun l o r p h=>b2_el h fun a h=>b2_el h fun h1 h2=>by
  obtain rfl:=(opq_el a : op = o)
  refine tp_bnd (F kd l V H h1) fun x H1 p1=>tp_bnd (G kd r V H1 h2) fun y H2 p2=>?_
  obtain ⟨T1,_⟩:=p1
  obtain ⟨T2,_⟩:=p2
  exact fun v hv=>both_plain (fun A env ρ s X=>wpAny_BinOp (T1.go X fun ρ1 s1 u X1 V1 W1=>T2.go X1 fun ρ2 s2 w X2 V2 W2=>go (bin_ok op X2.R (W2.rel X1.R V1) V2 v hv) fun _ _ p=>p.from (W1.trans W2))) fun _=>rfl
end
end Mine
namespace Mine
open PySem PySem.W PySem.Calls PyProof.Rows PySem.SeqAt
noncomputable def den (σ : Nat → Str) (v : AV) : AV:=AV.rec (motive_1:=fun _=>AV) (motive_2:=fun _=>List AV) .none .any .bool .int .str (fun k=>.str (σ k)) (fun _ ih=>.tup ih) .loc .bs .fn .bi [] (fun _ _ a b=>a :: b) v
noncomputable def dens (σ : Nat → Str) (l : List AV) : List AV:=AV.rec_1 (motive_1:=fun _=>AV) (motive_2:=fun _=>List AV) .none .any .bool .int .str (fun k=>.str (σ k)) (fun _ ih=>.tup ih) .loc .bs .fn .bi [] (fun _ _ a b=>a :: b) l
noncomputable def b01 (b : Bool) : Int:=if b then 1 else 0
noncomputable def eqD (x : AV) : AV → Bool:=AV.rec (motive_1:=fun _=>AV → Bool) (motive_2:=fun _=>List AV → Bool)
  (fun y=>match y with | .none=>true | _=>false) (fun _=>false) (fun a y=>match y with | .bool b=>a == b | .int j=>b01 a == j | _=>false) (fun i y=>match y with | .int j=>i == j | .bool b=>i == b01 b | _=>false)
  (fun a y=>match y with | .str b=>a == b | _=>false) (fun _ _=>false) (fun _ ih y=>match y with | .tup ys=>ih ys | _=>false) (fun _ _=>false) (fun _ _=>false) (fun _ _=>false) (fun _ _=>false)
  (fun ys=>match ys with | []=>true | _ :: _=>false) (fun _ _ f fs ys=>match ys with | []=>false | y :: ys=>f y && fs ys) x
noncomputable def eqDs (xs : List AV) : List AV → Bool:=List.rec (motive:=fun _=>List AV → Bool) (fun ys=>match ys with | []=>true | _ :: _=>false) (fun x _ fs ys=>match ys with | []=>false | y :: ys=>eqD x y && fs ys) xs
theorem eqD_tup : ∀ xs ys : List AV,eqD (.tup xs) (.tup ys) = eqDs xs ys:=fun xs=>List.rec (motive:=fun xs=>∀ ys,eqD (.tup xs) (.tup ys) = eqDs xs ys) (fun _=>rfl) (fun x xs ih ys=>match ys with | []=>rfl | y :: ys=>congrArg (eqD x y && ·) (ih ys)) xs
theorem dens_map (σ : Nat → Str) : ∀ l : List AV,dens σ l = l.map (den σ):=fun l=>List.rec (motive:=fun l=>dens σ l = l.map (den σ)) rfl (fun a r ih=>congrArg (den σ a :: ·) ih) l
theorem hget_map {α β : Type} {f : α → β} : ∀ {l : List α} {j : Nat} {y : β},hget (l.map f) j = some y → ∃ x,hget l j = some x ∧ y = f x:=fun {l}=>List.rec (motive:=fun l=>∀ {j : Nat} {y : β},hget (l.map f) j = some y → ∃ x,hget l j = some x ∧ y = f x) (fun h=>(hget_no h).elim)
  (fun a r ih {j y} h=>match j,h with | 0,h=>⟨a,rfl,(Option.some.inj h).symm⟩ | j + 1,h=>ih h) l
theorem hget_ext {α : Type} : ∀ {l m : List α},l.length = m.length → (∀ j x y,hget l j = some x → hget m j = some y → x = y) → l = m:=fun {l}=>List.rec (motive:=fun l=>∀ {m : List α},l.length = m.length → (∀ j x y,hget l j = some x → hget m j = some y → x = y) → l = m)
  (fun {m} h _=>match m,h with | [],_=>rfl) (fun a r ih {m} h k=>match m,h,k with | b :: q,h,k=>(congrArg (· :: r) (k 0 a b rfl rfl)).trans (congrArg (b :: ·) (ih (Nat.succ.inj h) fun j=>k (j + 1)))) l
section
variable {c : Cx} {G : Pg} {K : Frag} {D n : Nat} {kd : Kd} {V : List (Str × AV)} {ρ : List Addr} {H H' H1 H2 : Hs} {A : Around} {env : Env} {s : Shared} {x y : AV} {u w : Value} {d d' : Nat} {h : Heap}
inductive PlR (h : Heap) : Nat → AV → Value → Prop
  | none (d : Nat) : PlR h d .none .none
  | bool (d : Nat) (b : Bool) : PlR h d (.bool b) (.bool b)
  | int (d : Nat) (i : Int) (t : Tok) : PlR h d (.int i) (.int i t)
  | str (d : Nat) (x : Str) (t : Tok) : PlR h d (.str x) (.str x t)
  | tup (d : Nat) (xs : List AV) (a : Addr) (us : List Value) (ht : h.IsTuple a us.toArray) (hl : xs.length = us.length) (hs : ∀ j x z,hget xs j = some x → us[j]? = some z → PlR h d x z) : PlR h (d + 1) (.tup xs) (.ref a)
theorem cplL_mem : ∀ {xs : List AV},cpl (.tup xs) (d + 1) = true → ∀ {j : Nat} {x : AV},hget xs j = some x → cpl x d = true:=fun {xs}=>List.rec (motive:=fun xs=>cpl (.tup xs) (d + 1) = true → ∀ {j : Nat} {x : AV},hget xs j = some x → cpl x d = true)
  (fun _ {j x} h=>(hget_no h).elim) (fun a r ih h {j x} q=>by
    have h : (match cpl a d with | true=>cpl (.tup r) (d + 1) | false=>false) = true:=h
    cases e : cpl a d with
    | false=>rw [e] at h; cases h
    | true=>rw [e] at h; exact match j,q with | 0,q=>Option.some.inj q ▸ e | j + 1,q=>ih h q) xs
theorem pl_of : ∀ {x : AV} {d : Nat} {u : Value},cpl x d = true → c.V h ρ x u → PlR h d (den c.σ x) u:=fun {x}=>AV.ind (P:=fun x=>∀ {d : Nat} {u : Value},cpl x d = true → c.V h ρ x u → PlR h d (den c.σ x) u) (fun v ih {d u} q e=>match v,ih,q,e with
  | .none,_,_,e=>un_none (M:=PlR h d .none) e (.none d)
  | .bool b,_,_,e=>un_bool (M:=PlR h d (.bool b)) e (.bool d b)
  | .int i,_,_,e=>un_int (M:=PlR h d (.int i)) e (.int d i)
  | .str i,_,_,e=>un_str (M:=PlR h d (.str i)) e (.str d i)
  | .sym i,_,_,e=>un_sym (M:=PlR h d (.str (c.σ i))) e (.str d _)
  | .tup xs,ih,q,e=>match d,q with
    | d + 1,q=>un_tup (M:=PlR h (d + 1) (.tup (dens c.σ xs))) e fun a us ht hs=>.tup d _ a us ht (by rw [dens_map,List.length_map]; exact hs.len) fun j x z e1 e2=>(hget_map (dens_map c.σ xs ▸ e1)).elim fun x' w=>(hs.get w.1).elim fun z' w'=>by rw [w.2]; exact ih xs rfl x' (hget_mem w.1) (cplL_mem q w.1) (Option.some.inj (w'.1.symm.trans e2) ▸ w'.2)) x
theorem isTuple_same {a : Addr} {us ws : List Value} (x : h.IsTuple a us.toArray) (y : h.IsTuple a ws.toArray) : us = ws:=x.elim fun o q=>(isTuple_data y q.1).elim fun n z=>q.2.2.elim fun m e=>by
  have:=e.symm.trans z
  simpa using congrArg (fun d=>match d with | Data.seq us _=>us.toList | _=>[]) this
theorem pl_fun (p : PlR h d x u) : ∀ {d' : Nat} {y : AV},PlR h d' y u → x = y:=by
  induction p with
  | none d=>intro d' y q; cases q; rfl
  | bool d b=>intro d' y q; cases q; rfl
  | int d i t=>intro d' y q; cases q; rfl
  | str d i t=>intro d' y q; cases q; rfl
  | tup d xs a us ht hl hs ih=>
    intro d' y q
    cases q with
    | tup d' ys _ ws ht' hl' hs'=>
      obtain rfl:=isTuple_same ht ht'
      exact congrArg AV.tup (hget_ext (hl.trans hl'.symm) fun j x y e f=>(List.getElem?_eq_some_iff.mpr ⟨hl ▸ hget_lt e,rfl⟩ : us[j]? = some (us[j]'(hl ▸ hget_lt e))) |> fun z=>ih j x _ e z (hs' j y _ f z))
theorem eqDs_self : ∀ xs : List AV,(∀ j x,hget xs j = some x → eqD x x = true) → eqDs xs xs = true:=fun xs=>List.rec (motive:=fun xs=>(∀ j x,hget xs j = some x → eqD x x = true) → eqDs xs xs = true) (fun _=>rfl)
  (fun x xs ih k=>by show (eqD x x && eqDs xs xs) = true; rw [k 0 x rfl,ih fun j=>k (j + 1)]; rfl) xs
theorem eqD_pl (p : PlR h d x u) : eqD x x = true:=by
  induction p with
  | none d=>rfl
  | bool d b=>exact beq_self_eq_true b
  | int d i t=>exact beq_self_eq_true i
  | str d i t=>exact beq_self_eq_true i
  | tup d xs a us ht hl hs ih=>
    rw [eqD_tup]
    exact eqDs_self xs fun j x e=>ih j x _ e (List.getElem?_eq_some_iff.mpr ⟨hl ▸ hget_lt e,rfl⟩)
noncomputable def eqAtI (xs ys : List AV) (j : Nat) : Bool:=match hget xs j,hget ys j with | some x,some y=>eqD x y | _,_=>true
theorem eqDs_idx : ∀ xs ys : List AV,eqDs xs ys = ((List.range (min xs.length ys.length)).all (eqAtI xs ys) && xs.length == ys.length):=fun xs=>List.rec (motive:=fun xs=>∀ ys,eqDs xs ys = ((List.range (min xs.length ys.length)).all (eqAtI xs ys) && xs.length == ys.length))
  (fun ys=>match ys with | []=>rfl | y :: ys=>by show false = _; rw [show (([] : List AV).length == (y :: ys).length) = false from rfl,Bool.and_false])
  (fun x xs ih ys=>match ys with
    | []=>by show false = _; rw [show ((x :: xs).length == ([] : List AV).length) = false from rfl,Bool.and_false]
    | y :: ys=>by
      show (eqD x y && eqDs xs ys) = _
      rw [show min (x :: xs).length (y :: ys).length = min xs.length ys.length + 1 from Nat.succ_min_succ ..,List.range_succ_eq_map,List.all_cons,List.all_map,ih ys,Bool.and_assoc]
      congr 1
      congr 1
      rw [List.length_cons,List.length_cons]; simp) xs
theorem eq_of_ne (p : PlR h d x u) {v : Value} {k : Bool} (q : PlR h d' y v) (hne : u ≠ v) (r : RcAt A s u v k) : EqAt A s u v k:=fun prog w E Q hq=>by
  unfold eqBool
  refine wpAny_holding ?_
  refine wpAny_ite_split (fun hab=>absurd (eq_of_beq hab) hne) (fun _=>?_)
  have : wpAny (model prog w) A (richCompare .Eq u v) (fun a s'=>wpAny (model prog w) A (truthOfDropped a) Q E s') E s:=r prog w E _ (wpAny_truthy_bool hq)
  clear r hne hq
  cases p <;> exact wpAny_bind this
theorem eq_of_rc {v : Value} (p : PlR h d x u) (q : PlR h d' y v) (r : RcAt A s u v (eqD x y)) : EqAt A s u v (eqD x y):=
  if e : u = v then (by subst e; rw [pl_fun p q,eqD_pl q]; exact EqAt.same u) else eq_of_ne p q e r
theorem items_eq {xs ys : List AV} {us ws : List Value} (hl : xs.length = us.length) (hl' : ys.length = ws.length) (k : ∀ j x z y z',hget xs j = some x → us[j]? = some z → hget ys j = some y → ws[j]? = some z' → EqAt A s z z' (eqD x y)) : ∀ j (h1 : j < us.toArray.size) (h2 : j < ws.toArray.size),EqAt A s us.toArray[j] ws.toArray[j] (eqAtI xs ys j):=fun j h1 h2=>by
  have h1 : j < us.length:=h1
  have h2 : j < ws.length:=h2
  obtain ⟨x,ex⟩:=hget_of_lt (hl ▸ h1)
  obtain ⟨y,ey⟩:=hget_of_lt (hl' ▸ h2)
  rw [show eqAtI xs ys j = eqD x y by unfold eqAtI; rw [ex,ey]]
  exact k j x _ y _ ex (List.getElem?_eq_getElem h1) ey (List.getElem?_eq_getElem h2)
theorem rc_pl (p : PlR s.heap d x u) : ∀ {d' : Nat} {y : AV} {v : Value} {A : Around},A.units + d < cLine → PlR s.heap d' y v → RcAt A s u v (eqD x y):=by
  have lt : ∀ {A : Around} {d : Nat},A.units + d < cLine → A.units < cLine:=fun h=>Nat.lt_of_le_of_lt (Nat.le_add_right ..) h
  induction p with
  | none d=>intro d' y v A hA q; cases q with
    | none=>exact RcAt.none_none
    | bool _ b=>exact RcAt.none_bool b
    | int _ i t=>exact RcAt.none_int i t
    | str _ x t=>exact RcAt.none_str x t
    | tup _ _ _ _ ht _ _=>exact RcAt.none_tuple ht (lt hA)
  | bool d a=>intro d' y v A hA q; cases q with
    | none=>exact RcAt.bool_none a
    | bool _ b=>exact RcAt.bool_bool a b
    | int _ i t=>exact RcAt.bool_int a i t
    | str _ x t=>exact RcAt.bool_str a x t
    | tup _ _ _ _ ht _ _=>exact RcAt.bool_tuple a ht (lt hA)
  | int d a ta=>intro d' y v A hA q; cases q with
    | none=>exact RcAt.int_none a ta
    | bool _ b=>exact RcAt.int_bool a ta b
    | int _ i t=>exact RcAt.int_int a ta i t
    | str _ x t=>exact RcAt.int_str a ta x t
    | tup _ _ _ _ ht _ _=>exact RcAt.int_tuple a ta ht (lt hA)
  | str d a ta=>intro d' y v A hA q; cases q with
    | none=>exact RcAt.str_none a ta
    | bool _ b=>exact RcAt.str_bool a ta b
    | int _ i t=>exact RcAt.str_int a ta i t
    | str _ x t=>exact RcAt.str_str a ta x t
    | tup _ _ _ _ ht _ _=>exact RcAt.str_tuple a ta ht (lt hA)
  | tup d xs a us ht hl hs ih=>intro d' y v A hA q; cases q with
    | none=>exact RcAt.tuple_none ht (lt hA)
    | bool _ b=>exact RcAt.tuple_bool b ht (lt hA)
    | int _ i t=>exact RcAt.tuple_int i t ht (lt hA)
    | str _ x t=>exact RcAt.tuple_str x t ht (lt hA)
    | tup d' ys b ws ht' hl' hs'=>
      rw [eqD_tup,eqDs_idx,hl,hl']
      exact RcAt.tuples (e:=eqAtI xs ys) ht ht' (lt hA) (items_eq hl hl' fun j x z y z' e1 e2 e3 e4=>eq_of_rc (hs j x z e1 e2) (hs' j y z' e3 e4) (ih j x z e1 e2 (by show A.units + 1 + d < _; omega) (hs' j y z' e3 e4)))
theorem ne_pl (p : PlR s.heap d x u) {y : AV} {v : Value} (hA : A.units + d < cLine) (q : PlR s.heap d' y v) : RcNeAt A s u v (!eqD x y):=by
  have lt : A.units < cLine:=Nat.lt_of_le_of_lt (Nat.le_add_right ..) hA
  cases p with
  | none=>cases q with
    | none=>exact RcNeAt.none_none
    | bool _ b=>exact RcNeAt.none_bool b
    | int _ i t=>exact RcNeAt.none_int i t
    | str _ x t=>exact RcNeAt.none_str x t
    | tup _ _ _ _ ht _ _=>exact RcNeAt.none_tuple ht lt
  | bool _ a=>cases q with
    | none=>exact RcNeAt.bool_none a
    | bool _ b=>exact RcNeAt.bool_bool a b
    | int _ i t=>exact RcNeAt.bool_int a i t
    | str _ x t=>exact RcNeAt.bool_str a x t
    | tup _ _ _ _ ht _ _=>exact RcNeAt.bool_tuple a ht lt
  | int _ a ta=>cases q with
    | none=>exact RcNeAt.int_none a ta
    | bool _ b=>exact RcNeAt.int_bool a ta b
    | int _ i t=>exact RcNeAt.int_int a ta i t
    | str _ x t=>exact RcNeAt.int_str a ta x t
    | tup _ _ _ _ ht _ _=>exact RcNeAt.int_tuple a ta ht lt
  | str _ a ta=>cases q with
    | none=>exact RcNeAt.str_none a ta
    | bool _ b=>exact RcNeAt.str_bool a ta b
    | int _ i t=>exact RcNeAt.str_int a ta i t
    | str _ x t=>exact RcNeAt.str_str a ta x t
    | tup _ _ _ _ ht _ _=>exact RcNeAt.str_tuple a ta ht lt
  | tup d xs a us ht hl hs=>cases q with
    | none=>exact RcNeAt.tuple_none ht lt
    | bool _ b=>exact RcNeAt.tuple_bool b ht lt
    | int _ i t=>exact RcNeAt.tuple_int i t ht lt
    | str _ x t=>exact RcNeAt.tuple_str x t ht lt
    | tup d' ys b ws ht' hl' hs'=>
      rw [eqD_tup,eqDs_idx,hl,hl']
      exact RcNeAt.tuples (e:=eqAtI xs ys) ht ht' lt (items_eq hl hl' fun j x z y z' e1 e2 e3 e4=>eq_of_rc (hs j x z e1 e2) (hs' j y z' e3 e4) (rc_pl (hs j x z e1 e2) (by show A.units + 1 + d < _; omega) (hs' j y z' e3 e4)))
end
theorem ieqA_ok (a b : Int) : ieqA a b = (a == b):=match a,b with
  | .ofNat m,.ofNat n=>by
    show Nat.beq m n = _
    rw [Bool.eq_iff_iff,Nat.beq_eq,beq_iff_eq]
    exact ⟨fun e=>e ▸ rfl,fun e=>Int.ofNat.inj e⟩
  | .negSucc m,.negSucc n=>by
    show Nat.beq m n = _
    rw [Bool.eq_iff_iff,Nat.beq_eq,beq_iff_eq]
    exact ⟨fun e=>e ▸ rfl,fun e=>Int.negSucc.inj e⟩
  | .ofNat _,.negSucc _=>rfl
  | .negSucc _,.ofNat _=>rfl
theorem seqb_beq (a b : Str) : seqb a b = (a == b):=by rw [Bool.eq_iff_iff,seqb_iff,beq_iff_eq]
theorem ileA_ok (a b : Int) : ileA a b = decide (a ≤ b):=by
  unfold ileA
  split
  · symm; apply decide_eq_true; simp only [Int.ofNat_eq_natCast]; omega
  · rename_i m n _
    rw [show Nat.ble m n = decide (m ≤ n) by rw [Bool.eq_iff_iff,Nat.ble_eq,decide_eq_true_iff]]
    exact decide_eq_decide.mpr Int.ofNat_le.symm
  · symm; apply decide_eq_false; simp only [Int.ofNat_eq_natCast]; omega
  · symm; apply decide_eq_true; simp only [Int.ofNat_eq_natCast]; omega
  · rename_i m n
    rw [show Nat.ble n m = decide (n ≤ m) by rw [Bool.eq_iff_iff,Nat.ble_eq,decide_eq_true_iff]]
    exact decide_eq_decide.mpr (by omega)
section
variable {c : Cx} {G : Pg} {K : Frag} {D n : Nat} {kd : Kd} {V : List (Str × AV)} {ρ : List Addr} {H H' H1 H2 : Hs} {A : Around} {env : Env} {s : Shared} {x y : AV} {u w : Value} {d d' : Nat} {h : Heap} {b : Bool}
structure KOk (c : Cx) (G : Pg) : Prop where
  kn : ∀ i j b,G.kn i j = some b → (c.σ i == c.σ j) = b
  kl : ∀ i s b,G.kl i s = some b → (c.σ i == s) = b
theorem Base.kok (Bs : Base c K G D) : KOk c G:=⟨Bs.kn,Bs.kl⟩
theorem and3_ok {p q : Option Bool} {p' q' : Bool} (hp : ∀ b,p = some b → p' = b) (hq : ∀ b,q = some b → q' = b) (e : and3 p q = some b) : (q' && p') = b:=by
  cases p with
  | some z=>cases z with
    | false=>rw [hp false rfl,Bool.and_false]; exact Option.some.inj e
    | true=>rw [hp true rfl,Bool.and_true]; exact hq b e
  | none=>cases q with
    | none=>exact nomatch (show (none : Option Bool) = some b from e)
    | some z=>cases z with
      | false=>rw [hq false rfl,Bool.false_and]; exact Option.some.inj e
      | true=>exact nomatch (show (none : Option Bool) = some b from e)
theorem aeq_ok (hk : KOk c G) : ∀ {x y : AV} {b : Bool},aeq G x y = some b → eqD (den c.σ x) (den c.σ y) = b:=fun {x}=>AV.ind (P:=fun x=>∀ {y : AV} {b : Bool},aeq G x y = some b → eqD (den c.σ x) (den c.σ y) = b) (fun x ih {y b} e=>by
  have inj : ∀ {p q : Bool},some p = some q → p = q:=fun e=>Option.some.inj e
  cases x with
  | none=>cases y <;> first | exact inj e | exact nomatch e
  | bool a=>cases y <;> first | (rename_i z; cases a <;> cases z <;> exact inj e) | exact inj e | exact nomatch e
  | int a=>cases y <;> first | exact (ieqA_ok a _).symm.trans (inj e) | exact inj e | exact nomatch e
  | str a=>cases y <;> first | exact (seqb_beq a _).symm.trans (inj e) | exact BEq.comm.trans (hk.kl _ a b e) | exact inj e | exact nomatch e
  | sym k=>cases y with
    | sym j=>
      have e : iff (Nat.beq k j) (some true) (G.kn k j) = some b:=e
      cases q : Nat.beq k j with
      | true=>rw [q] at e; rw [Nat.eq_of_beq_eq_true q]; exact (beq_self_eq_true (c.σ j)).trans (inj e)
      | false=>rw [q] at e; exact hk.kn k j b e
    | str a=>exact hk.kl k a b e
    | none=>exact inj e
    | bool _=>exact inj e
    | int _=>exact inj e
    | tup _=>exact inj e
    | any=>exact nomatch e
    | loc _=>exact nomatch e
    | bs _=>exact nomatch e
    | fn _=>exact nomatch e
    | bi _=>exact nomatch e
  | tup xs=>cases y with
    | tup ys=>
      show eqD (.tup (dens c.σ xs)) (.tup (dens c.σ ys)) = b
      rw [eqD_tup]
      have ih2:=ih xs rfl
      clear ih
      have e2 : (AV.rec_1 (motive_1:=fun _=>AV → Option Bool) (motive_2:=fun _=>List AV → Option Bool) _ _ _ _ _ _ _ _ _ _ _ _ _ xs : List AV → Option Bool) ys = some b:=e
      clear e
      induction xs generalizing ys b with
      | nil=>cases ys <;> exact inj e2
      | cons x xs ihx=>cases ys with
        | nil=>exact inj e2
        | cons y ys=>exact and3_ok (q':=eqD (den c.σ x) (den c.σ y)) (p':=eqDs (dens c.σ xs) (dens c.σ ys)) (fun b e=>ihx ys (fun z m=>ih2 z (List.mem_cons_of_mem _ m)) e) (fun b e=>ih2 x (List.mem_cons_self ..) e) e2
    | none=>exact inj e
    | bool _=>exact inj e
    | int _=>exact inj e
    | str _=>exact inj e
    | sym _=>exact inj e
    | any=>exact nomatch e
    | loc _=>exact nomatch e
    | bs _=>exact nomatch e
    | fn _=>exact nomatch e
    | bi _=>exact nomatch e
  | any=>exact nomatch e
  | loc _=>exact nomatch e
  | bs _=>exact nomatch e
  | fn _=>exact nomatch e
  | bi _=>exact nomatch e) x
structure EqR (A : Around) (s : Shared) (u w : Value) (b : Bool) : Prop where
  rc : RcAt A s u w b
  ne : RcNeAt A s u w (!b)
theorem eqT_el {C : Prop} (h : eqT G x y = some b) (k : cpl x 40 = true → cpl y 40 = true → aeq G x y = some b → C) : C:=
  (tp_grd (T:=fun r=>(cpl x 40 = true → cpl y 40 = true → aeq G x y = some r → C) → C) fun e=>tp_grd fun f r q k=>k e f q) b h k
theorem eqT_rc (hk : KOk c G) (hA : A.units + 41 < cLine) (hu : c.V s.heap ρ x u) (hw : c.V s.heap ρ y w) (h : eqT G x y = some b) : EqR A s u w b:=eqT_el h fun e f q=>aeq_ok hk q ▸ ⟨rc_pl (pl_of e hu) (by omega) (pl_of f hw),ne_pl (pl_of e hu) (by omega) (pl_of f hw)⟩
theorem eqT_eq (hk : KOk c G) (hA : A.units + 40 < cLine) (hu : c.V s.heap ρ x u) (hw : c.V s.heap ρ y w) (h : eqT G x y = some b) : EqAt A s u w b:=eqT_el h fun e f q=>aeq_ok hk q ▸ eq_of_rc (pl_of e hu) (pl_of f hw) (rc_pl (pl_of e hu) hA (pl_of f hw))
theorem lists_ne {l m : Addr} {us ws : List Value} (hl : s.heap.IsList l us.toArray) (hm : s.heap.IsList m ws.toArray) (hu : A.units < cLine) (q : us.length ≠ ws.length) : EqR A s (.ref l) (.ref m) false:=have : (us.toArray.size != ws.toArray.size) = true:=bne_iff_ne.mpr q
  ⟨RcAt.lists_lengths hl hm this hu,RcNeAt.lists_lengths hl hm this hu⟩
theorem eqLs_rc (hk : KOk c G) {r q : List AV} {us ws : List Value} {l m : Addr} (hA : A.units + 41 < cLine) (hl : s.heap.IsList l us.toArray) (hm : s.heap.IsList m ws.toArray) (h1 : c.Vs s.heap ρ r.reverse us) (h2 : c.Vs s.heap ρ q.reverse ws) (h : eqLs G r q = some b) : EqR A s (.ref l) (.ref m) b:=by
  have hu : A.units < cLine:=by omega
  have z1 : r.length = us.length:=List.length_reverse.symm.trans h1.len
  have z2 : q.length = ws.length:=List.length_reverse.symm.trans h2.len
  match r,q,h,z1,z2,h1,h2 with
  | [],[],h,z1,z2,_,_=>
    obtain rfl:=Option.some.inj h
    obtain rfl:=List.length_eq_zero_iff.mp z1.symm
    obtain rfl:=List.length_eq_zero_iff.mp z2.symm
    exact ⟨RcAt.lists (e:=fun _=>true) hl hm rfl hu fun j q=>absurd q (Nat.not_lt_zero _),RcNeAt.lists (e:=fun _=>true) hl hm rfl hu fun j q=>absurd q (Nat.not_lt_zero _)⟩
  | [],_ :: _,h,z1,z2,_,_=>exact Option.some.inj h ▸ lists_ne hl hm hu (by rw [← z1,← z2]; exact fun e=>nomatch e)
  | _ :: _,[],h,z1,z2,_,_=>exact Option.some.inj h ▸ lists_ne hl hm hu (by rw [← z1,← z2]; exact fun e=>nomatch e)
  | [x],[y],h,_,_,h1,h2=>
    refine h1.un1 (M:=fun us=>s.heap.IsList l us.toArray → EqR A s (.ref l) (.ref m) b) (fun u e1 hl=>h2.un1 (M:=fun ws=>s.heap.IsList m ws.toArray → EqR A s (.ref l) (.ref m) b) (fun w f1 hm=>?_) hm) hl
    have he : ∀ j (h1 : j < [u].toArray.size) (h2 : j < [w].toArray.size),EqAt A.in1 s [u].toArray[j] [w].toArray[j] ((fun _=>b) j):=fun j q1 q2=>match j,q1,q2 with
      | 0,_,_=>eqT_eq hk (by show A.units + 1 + 40 < _; omega) e1 f1 h
    have all : (List.range [u].toArray.size).all (fun _=>b) = b:=by show (List.range 1).all (fun _=>b) = b; simp [List.range_succ]
    exact ⟨all ▸ RcAt.lists (e:=fun _=>b) hl hm rfl hu he,all ▸ RcNeAt.lists (e:=fun _=>b) hl hm rfl hu he⟩
theorem eqV_rc (hk : KOk c G) (R : RelH c ρ H s.heap) (hA : A.units + 41 < cLine) (hu : c.V s.heap ρ x u) (hw : c.V s.heap ρ y w) : TP (eqV G H x y) (EqR A s u w):=match x,hu with
  | .loc i,hu=>tp_lst (T:=fun u b=>EqR A s u w b) R hu fun _ a m r _ _ L=>tp_lst (T:=fun w b=>EqR A s (.ref a) w b) R hw fun _ b k q _ _ M r' e=>by
      obtain ⟨us,hl,hv,_⟩:=L.isList
      obtain ⟨ws,hm,hx,_⟩:=M.isList
      exact eqLs_rc hk hA hl hm hv hx e
  | .none,hu | .any,hu | .bool _,hu | .int _,hu | .str _,hu | .sym _,hu | .tup _,hu | .bs _,hu | .fn _,hu | .bi _,hu=>fun b e=>eqT_rc hk hA hu hw e
noncomputable def inP (c : Cx) (ρ : List Addr) (h : Heap) (x : AV) (u : Value) : Bool:=@decide (∃ v,cpl v 40 = true ∧ c.V h ρ v u ∧ eqD (den c.σ v) (den c.σ x) = true) (Classical.propDecidable _)
theorem inP_eq {v : AV} (hv : cpl v 40 = true) (e : c.V h ρ v u) : inP c ρ h x u = eqD (den c.σ v) (den c.σ x):=by
  rw [Bool.eq_iff_iff,inP,@decide_eq_true_iff _ (Classical.propDecidable _)]
  exact ⟨fun ⟨v',h1,h2,h3⟩=>pl_fun (pl_of h1 h2) (pl_of hv e) ▸ h3,fun q=>⟨v,hv,e,q⟩⟩
theorem orO_ok {p q : Option Bool} {p' q' : Bool} (hp : ∀ b,p = some b → p' = b) (hq : ∀ b,q = some b → q' = b) (e : orO p q = some b) : (p' || q') = b:=by
  cases p with
  | some z=>cases z with
    | true=>rw [hp true rfl,Bool.true_or]; exact Option.some.inj e
    | false=>rw [hp false rfl,Bool.false_or]; exact hq b e
  | none=>cases q with
    | none=>exact nomatch (show (none : Option Bool) = some b from e)
    | some z=>cases z with
      | true=>rw [hq true rfl,Bool.or_true]; exact Option.some.inj e
      | false=>exact nomatch (show (none : Option Bool) = some b from e)
theorem ain1_any (hk : KOk c G) : ∀ {ys : List AV} {ws : List Value} {b : Bool},cplL ys 40 = true → c.Vs h ρ ys ws → ain1 G x ys = some b → ws.any (inP c ρ h x) = b
  | [],ws,b,_,e,q=>e.un0 (M:=fun ws=>ws.any (inP c ρ h x) = b) (Option.some.inj q)
  | y :: ys,ws,b,hy,e,q=>e.un (M:=fun ws=>ws.any (inP c ρ h x) = b) fun w r e1 e2=>by
    have hy : (match cpl y 40 with | true=>cplL ys 40 | false=>false) = true:=hy
    cases z : cpl y 40 with
    | false=>rw [z] at hy; cases hy
    | true=>
      rw [z] at hy
      rw [List.any_cons,inP_eq z e1]
      exact orO_ok (fun b e=>aeq_ok hk e) (fun b e=>ain1_any hk hy e2 e) q
theorem ain_any (hk : KOk c G) {ys : List AV} {ws : List Value} (hA : A.units + 41 < cLine) (hu : c.V s.heap ρ x u) (e : c.Vs s.heap ρ ys ws) : TP (ain G x ys) fun b=>∃ g : Value → Bool,(∀ y ∈ ws.toArray,EqAt A.in1 s y u (g y)) ∧ ws.toArray.any g = b:=
  tp_grd fun h1=>tp_grd fun h2 b q=>⟨inP c ρ s.heap x,fun y hy=>by
    obtain ⟨j,hj,rfl⟩:=List.getElem_of_mem (List.mem_toArray.mp hy)
    obtain ⟨v,ev⟩:=hget_of_lt (l:=ys) (e.len ▸ hj)
    obtain ⟨z,q1,q2⟩:=e.get ev
    obtain rfl:=Option.some.inj ((List.getElem?_eq_getElem hj).symm.trans q1)
    have cv : cpl v 40 = true:=cplL_mem (d:=40) (xs:=ys) (by
      have : ∀ l : List AV,cpl (.tup l) 41 = cplL l 40:=fun l=>List.rec (motive:=fun l=>cpl (.tup l) 41 = cplL l 40) rfl (fun a r ih=>by show (match cpl a 40 with | true=>cpl (.tup r) 41 | false=>false) = (match cpl a 40 with | true=>cplL r 40 | false=>false); rw [ih]) l
      rw [this]; exact h2) ev
    rw [inP_eq cv q2]
    exact eq_of_rc (pl_of cv q2) (pl_of h1 hu) (rc_pl (pl_of cv q2) (by show A.units + 1 + 40 < _; omega) (pl_of h1 hu)),by
    have:=ain1_any hk h2 e q
    simpa using this⟩
theorem kv_cons {k : Str} {ks : List Str} {v : Value} {us : List Value} (z : Str) : valueAt (kv (k :: ks) (v :: us)) z = if k = z then some v else valueAt (kv ks us) z:=by
  unfold valueAt kv
  rw [List.zip_cons_cons,List.find?_cons]
  by_cases hk : k = z
  · simp [hk]
  · simp [hk]
theorem khas_value : ∀ {ks : List Str} {us : List Value} {z : Str},ks.length = us.length → (valueAt (kv ks us) z).isSome = khas ks z
  | [],us,z,h=>rfl
  | k :: ks,u :: us,z,h=>by
    rw [kv_cons]
    show _ = (match seqb k z with | true=>true | false=>khas ks z)
    cases e : seqb k z with
    | true=>rw [if_pos (seqb_eq e)]; rfl
    | false=>rw [if_neg (seqb_ne e)]; exact khas_value (Nat.succ.inj h)
structure InR (c : Cx) (A : Around) (s : Shared) (u w : Value) (b : Bool) : Prop where
  yes : ∀ Q : Value → Shared → Prop,(∀ t,Q (.bool b) { s with toks:=t }) → wpAny (model c.prog c.w) A (compareOp .In u w) Q NoE s
  no : ∀ Q : Value → Shared → Prop,(∀ t,Q (.bool (!b)) { s with toks:=t }) → wpAny (model c.prog c.w) A (compareOp .NotIn u w) Q NoE s
theorem inV_ok (Bs : Base c K G D) (R : RelH c ρ H s.heap) (hA : A.units + 41 < cLine) (hu : c.V s.heap ρ x u) (hw : c.V s.heap ρ y w) : TP (inV G H x y) (InR c A s u w):=by
  have rest : TP (obOf G.F H y fun _ ob=>match ob with | .list _ r=>ain G x r.reverse | .dict ks _=>asStr x fun s=>some (khas ks s) | _=>none) (InR c A s u w):=
    tp_ob (T:=fun w=>InR c A s u w) R.lg (R.lgF Bs) hw fun a ix L o LL r=>match o,r with
      | .list k l,.mk us _ hp hv=>tp_mono (ain_any Bs.kok hA hu hv) fun b z=>z.elim fun g z=>⟨fun Q q=>in_listAt g hp.isList z.1 (by rw [z.2]; exact q s.toks),fun Q q=>notIn_listAt g hp.isList z.1 (by rw [z.2]; exact q s.toks)⟩
      | .dict ks vs,.mk us h0 hd hl hv=>tp_str (T:=fun u=>InR c A s u (.ref a)) hu fun z t=>tp_some ⟨fun Q q=>wpAny_in_of (strKind_is _ _ z t) h0 hd.mapOf (by rw [khas_value hl]; exact q _),fun Q q=>wpAny_notIn_of (strKind_is _ _ z t) h0 hd.mapOf (by rw [khas_value hl]; exact q _)⟩
      | .ns _ _,_ | .inst _ _,_ | .gone,_=>tp_none
  cases y with
  | tup ys=>exact un_tup (M:=fun w=>TP (ain G x ys) (InR c A s u w)) hw fun a us ht hv=>tp_mono (ain_any Bs.kok hA hu hv) fun b z=>z.elim fun g z=>⟨fun Q q=>in_tupleAt g ht z.1 (by rw [z.2]; exact q s.toks),fun Q q=>notIn_tupleAt g ht z.1 (by rw [z.2]; exact q s.toks)⟩
  | none=>exact rest
  | any=>exact rest
  | bool _=>exact rest
  | int _=>exact rest
  | str _=>exact rest
  | sym _=>exact rest
  | loc _=>exact rest
  | bs _=>exact rest
  | fn _=>exact rest
  | bi _=>exact rest
end
section
variable {c : Cx} {G : Pg} {K : Frag} {D n : Nat} {kd : Kd} {V : List (Str × AV)} {ρ : List Addr} {H H' H1 H2 : Hs} {A : Around} {env : Env} {s : Shared} {x y : AV} {u w : Value} {d d' : Nat} {h : Heap} {b : Bool} {e : Expr}
theorem isN_ok (hu : c.V s.heap ρ x u) (hw : c.V s.heap ρ y w) : TP (isN x y) fun b=>w = .none ∧ (u == Value.none) = b:=tp_nn (T:=fun w b=>w = .none ∧ (u == Value.none) = b) hw fun _=>by
  cases x with
  | none=>exact tp_some ⟨rfl,un_none (M:=fun u=>(u == Value.none) = true) hu rfl⟩
  | bool b=>exact tp_some ⟨rfl,un_bool (M:=fun u=>(u == Value.none) = false) hu rfl⟩
  | int b=>exact tp_some ⟨rfl,un_int (M:=fun u=>(u == Value.none) = false) hu fun _=>rfl⟩
  | str b=>exact tp_some ⟨rfl,un_str (M:=fun u=>(u == Value.none) = false) hu fun _=>rfl⟩
  | sym b=>exact tp_some ⟨rfl,un_sym (M:=fun u=>(u == Value.none) = false) hu fun _=>rfl⟩
  | tup b=>exact tp_some ⟨rfl,un_tup (M:=fun u=>(u == Value.none) = false) hu fun _ _ _ _=>rfl⟩
  | loc b=>exact tp_some ⟨rfl,un_loc (M:=fun u=>(u == Value.none) = false) hu fun _ _=>rfl⟩
  | bs b=>exact tp_some ⟨rfl,un_bs (M:=fun u=>(u == Value.none) = false) hu fun _ _=>rfl⟩
  | any=>exact tp_none
  | fn _=>exact tp_none
  | bi _=>exact tp_none
def CO (c : Cx) (A : Around) (s : Shared) (op : CmpOp) (u w : Value) (b : Bool) : Prop:=∀ Q : Value → Shared → Prop,(∀ t,Q (.bool b) { s with toks:=t }) → wpAny (model c.prog c.w) A (compareOp op u w) Q NoE s
theorem cmpI_ok {f : Int → Int → Bool} {op : CmpOp} (hu : c.V s.heap ρ x u) (hw : c.V s.heap ρ y w) (k : ∀ i t j t',CO c A s op (.int i t) (.int j t') (f i j)) : TP (cmpI f x y) (CO c A s op u w):=
  tp_int (T:=fun u=>CO c A s op u w) hu fun i t _=>tp_int (T:=fun w=>CO c A s op (.int i t) w) hw fun j t' _=>tp_some (k i t j t')
theorem tp_not {o : Option Bool} {P T : Bool → Prop} (h : TP o P) (k : ∀ b,P b → T (!b)) : TP (notO o) T:=fun r e=>match o,h,e with
  | some b,h,e=>Option.some.inj e ▸ k b (h b rfl)
theorem cmp_ok (Bs : Base c K G D) (R : RelH c ρ H s.heap) (hA : A.units + 41 < cLine) (hu : c.V s.heap ρ x u) (hw : c.V s.heap ρ y w) (op : CmpOp) : TP (cmpOp G H op x y) (CO c A s op u w):=match op with
  | .Eq=>tp_mono (eqV_rc Bs.kok R hA hu hw) fun b r Q q=>r.rc c.prog c.w NoE _ (q s.toks)
  | .NotEq=>tp_not (eqV_rc Bs.kok R hA hu hw) fun b r Q q=>r.ne c.prog c.w NoE _ (q s.toks)
  | .In=>tp_mono (inV_ok Bs R hA hu hw) fun b r=>r.yes
  | .NotIn=>tp_not (inV_ok Bs R hA hu hw) fun b r=>r.no
  | .Is=>tp_mono (isN_ok hu hw) fun b r Q q=>r.1 ▸ is_none (by rw [r.2]; exact q s.toks)
  | .IsNot=>tp_not (isN_ok hu hw) fun b r Q q=>r.1 ▸ isNot_none (by rw [r.2]; exact q s.toks)
  | .Lt=>cmpI_ok hu hw fun i t j t' Q q=>PySem.P.lt_int (by rw [show decide (i < j) = !(ileA j i) by rw [ileA_ok,← decide_not]; exact decide_eq_decide.mpr Int.not_le.symm]; exact q s.toks)
  | .LtE=>cmpI_ok hu hw fun i t j t' Q q=>PySem.P.le_int (by rw [← ileA_ok]; exact q s.toks)
  | .Gt=>cmpI_ok hu hw fun i t j t' Q q=>PySem.P.gt_int (by rw [show decide (i > j) = !(ileA i j) by rw [ileA_ok,← decide_not]; exact decide_eq_decide.mpr Int.not_le.symm]; exact q s.toks)
  | .GtE=>cmpI_ok hu hw fun i t j t' Q q=>PySem.P.ge_int (by rw [show decide (i ≥ j) = ileA j i by rw [ileA_ok]]; exact q s.toks)
theorem s_cmp (Bs : Base c K G D) {op : CmpOp} {ok1 ok2 : KE1} {f g : D1} (F1 : SE1 c n ok1 f) (G1 : SE1 c n ok2 g) : SE1 c n (fun kd e=>xCmp e fun l os rs _=>l1 os fun o=>l1 rs fun r=>b2 (opq (instDecidableEqCmpOp op o)) (b2 (!behindInMarks op r) (b2 (ok1 kd l) (ok2 kd r)))) (dCmp G op f g):=by
  intro kd e V H h
  refine xCmp_tp h fun l os rs p h=>l1_el (M:=fun os=>TP _ (Both c n kd (.Compare l os rs p) V H)) h fun o h=>l1_el (M:=fun rs=>TP _ (Both c n kd (.Compare l [o] rs p) V H)) h fun r h=>b2_el h fun a h=>b2_el h fun hb h=>b2_el h fun h1 h2=>?_
  obtain rfl:=(opq_el a : op = o)
  have hb : behindInMarks op r = false:=Bool.not_eq_true' _ ▸ hb
  refine tp_bnd (F1 kd l V H h1) fun x H1 p1=>tp_bnd (G1 kd r V H1 h2) fun y H2 p2=>?_
  obtain ⟨T1,_⟩:=p1
  obtain ⟨T2,_⟩:=p2
  refine tp_bn1 (U:=fun b=>∀ (A : Around) (ρ : List Addr) (s : Shared) (u w : Value),RelH c ρ H2 s.heap → A.units + 41 < cLine → c.V s.heap ρ x u → c.V s.heap ρ y w → CO c A s op u w b) (fun b e A ρ s u w R hA hu hw=>cmp_ok Bs R hA hu hw op b e) fun b C=>tp_some (.mk ?_ fun b' q=>?_)
  · exact fun A env ρ s X=>wpAny_Compare1 (T1.go X fun ρ1 s1 u X1 V1 W1=>T2.go X1 fun ρ2 s2 w X2 V2 W2=>C A ρ2 s2 u w X2.R X.a.u41 (W2.rel X1.R V1) V2 _ fun t=>.mk ρ2 X2.R v_bool ((W1.trans W2).trans .toks)) hb
  · obtain rfl:=bool_inj q
    exact fun A env ρ s X=>wpAny_isTrue_Compare1 (T1.go X fun ρ1 s1 u X1 V1 W1=>T2.go X1 fun ρ2 s2 w X2 V2 W2=>C A ρ2 s2 u w X2.R X.a.u41 (W2.rel X1.R V1) V2 _ fun t=>wpAny_truthy_bool (.mk rfl ρ2 X2.R ((W1.trans W2).trans .toks))) hb
inductive IdxR (n : Nat) (k : Int) (j : Nat) : Prop
  | pos (e : seqIndex? k n = some j) (a : -(2 ^ 63) ≤ k) (b : k < 2 ^ 63) (l : j < n) (p : 0 ≤ k) (q : k.toNat = j) : IdxR n k j
  | neg (e : seqIndex? k n = some j) (a : -(2 ^ 63) ≤ k) (b : k < 2 ^ 63) (l : j < n) (p : k < 0) (q : -(n : Int) ≤ k) (r : (k + n).toNat = j) : IdxR n k j
theorem idx_ok (n : Nat) (k : Int) : TP (idx n k) (IdxR n k):=match k with
  | .ofNat j=>tp_grd fun h1=>tp_grd fun h2=>tp_some (by
    have h1 : j < n:=Nat.blt_eq.mp h1
    have h2:=Nat.le_of_ble_eq_true h2
    refine .pos ?_ (by simp only [Int.ofNat_eq_natCast]; omega) (by simp only [Int.ofNat_eq_natCast]; omega) h1 (Int.natCast_nonneg j) rfl
    unfold seqIndex?
    simp only [Int.ofNat_eq_natCast,show ¬ ((j : Int) < 0) by omega,if_false]
    rw [if_pos (show (decide (0 ≤ (j : Int)) && decide ((j : Int) < (n : Int))) = true by simp; omega)]; simp)
  | .negSucc m=>tp_grd fun h1=>tp_grd fun h2=>tp_some (by
    have h1 : m < n:=Nat.blt_eq.mp h1
    have h2:=Nat.le_of_ble_eq_true h2
    refine .neg ?_ (by omega) (by omega) (by omega) (Int.negSucc_lt_zero m) (by omega) (by omega)
    unfold seqIndex?
    simp only [Int.negSucc_lt_zero m,if_true]
    rw [if_pos (show (decide (0 ≤ Int.negSucc m + (n : Int)) && decide (Int.negSucc m + (n : Int) < (n : Int))) = true by simp; omega)]
    exact congrArg some (by omega))
theorem kget_ok : ∀ {ks : List Str} {vs : List AV} {us : List Value} {z : Str},ks.length = us.length → c.Vs h ρ vs us → match kget ks z vs with | some v=>∃ u,valueAt (kv ks us) z = some u ∧ c.V h ρ v u | none=>valueAt (kv ks us) z = none
  | [],vs,us,z,hl,hv=>rfl
  | k :: ks,[],us,z,hl,hv=>hv.un0 (M:=fun us=>(k :: ks).length = us.length → _) (fun h=>nomatch h) hl
  | k :: ks,v :: vs,us,z,hl,hv=>hv.un (M:=fun us=>(k :: ks).length = us.length → match kget (k :: ks) z (v :: vs) with | some v=>∃ u,valueAt (kv (k :: ks) us) z = some u ∧ c.V h ρ v u | none=>valueAt (kv (k :: ks) us) z = none) (fun u r e1 e2 hl=>by
    have ih:=kget_ok (z:=z) (Nat.succ.inj hl) e2
    show match iff (seqb k z) (some v) (kget ks z vs) with | some v=>∃ u',valueAt (kv (k :: ks) (u :: r)) z = some u' ∧ c.V h ρ v u' | none=>valueAt (kv (k :: ks) (u :: r)) z = none
    rw [kv_cons]
    cases q : seqb k z with
    | true=>exact ⟨u,if_pos (seqb_eq q),e1⟩
    | false=>rw [if_neg (seqb_ne q)]; exact ih) hl
theorem kget_some {ks : List Str} {vs : List AV} {us : List Value} {z : Str} {v : AV} (hl : ks.length = us.length) (hv : c.Vs h ρ vs us) (e : kget ks z vs = some v) : ∃ u,valueAt (kv ks us) z = some u ∧ c.V h ρ v u:=by have:=kget_ok (z:=z) hl hv; rw [e] at this; exact this
theorem kget_none {ks : List Str} {vs : List AV} {us : List Value} {z : Str} (hl : ks.length = us.length) (hv : c.Vs h ρ vs us) (e : kget ks z vs = none) : valueAt (kv ks us) z = none:=by have:=kget_ok (z:=z) hl hv; rw [e] at this; exact this
theorem notSlice {j : Expr} (h : noStar j = true) (o i : Value) : subscripted j false o i = operate [o,i] (getItem o i):=by
  cases j <;> first | rfl | exact absurd h Bool.false_ne_true
def GI (c : Cx) (A : Around) (ρ : List Addr) (s : Shared) (e j : Expr) (u w : Value) (v : AV) : Prop:=∀ Q : Value → Shared → Prop,(∀ z t,c.V s.heap ρ v z → Q z { s with toks:=t }) → wpAny (model c.prog c.w) A (subscriptTail e j u w) Q NoE s
theorem getL_ok {j : Expr} {xs : List AV} {us : List Value} {a : Addr} (hv : c.Vs s.heap ρ xs us) (hw : c.V s.heap ρ y w) (k : ∀ i t jx z,IdxR us.length i jx → us[jx]? = some z → ∀ Q : Value → Shared → Prop,Q z s → wpAny (model c.prog c.w) A (subscriptTail e j (.ref a) (.int i t)) Q NoE s) : TP (getL xs y) (GI c A ρ s e j (.ref a) w):=
  tp_int (T:=fun w=>GI c A ρ s e j (.ref a) w) hw fun i t _=>tp_bn1 (idx_ok xs.length i) fun jx I v g Q q=>(hv.get g).elim fun z z'=>k i t jx z (hv.len ▸ I) z'.1 Q (q z s.toks z'.2)
theorem getItem_list_idx {l : Addr} {us : List Value} {k : Int} {t : Tok} {j : Nat} {x : Value} {Q : Value → Shared → Prop} {E : Value → Shared → Prop} (hl : s.heap.IsList l us.toArray) (hj : IdxR us.length k j) (hx : us[j]? = some x) (h : Q x s) : wpAny (model c.prog c.w) A (getItem (.ref l) (.int k t)) Q E s:=match hj with
  | .pos e a b l p q=>wpAny_getItem_list hl p b (by rw [q]; simpa using hx) h
  | .neg e a b l p q r=>wpAny_getItem_list_neg hl p (by simpa using q) a (by simp only [List.size_toArray]; rw [r]; simpa using hx) h
theorem getI_ok (Bs : Base c K G D) {e j : Expr} (hns : noStar j = true) (R : RelH c ρ H s.heap) (hu : c.V s.heap ρ x u) (hw : c.V s.heap ρ y w) : TP (getI G.F H x y) (GI c A ρ s e j u w):=by
  have rest : TP (obOf G.F H x fun _ ob=>match ob with | .list _ r=>getL r.reverse y | .dict ks vs=>asStr y fun x=>kget ks x vs | _=>none) (GI c A ρ s e j u w):=
    tp_ob (T:=fun u=>GI c A ρ s e j u w) R.lg (R.lgF Bs) hu fun a ix L o LL r=>match o,r with
      | .list k l,.mk us _ hp hv=>getL_ok hv hw fun i t jx z I q Q h=>tail_any hp.isList.typeIs slot_list_getitem.lookup (getItem_list_idx hp.isList I q h) (notSlice hns _ _)
      | .dict ks vs,.mk us h0 hd hl hv=>tp_str (T:=fun w=>GI c A ρ s e j (.ref a) w) hw fun z t v q Q k=>(kget_some hl hv q).elim fun u' z'=>tail_any hd.mapOf.typeIs slot_dict_getitem.lookup (wpAny_getItem_of (strKind_is _ _ _ t) hd.mapOf z'.1 (k u' _ z'.2)) (notSlice hns _ _)
      | .ns _ _,_ | .inst _ _,_ | .gone,_=>tp_none
  cases x with
  | tup xs=>exact un_tup (M:=fun u=>TP (getL xs y) (GI c A ρ s e j u w)) hu fun a us ht hv=>getL_ok hv hw fun i t jx z I q Q h=>match I with
      | .pos e1 a b _ _ _ | .neg e1 a b _ _ _ _=>tail_any ht.typeIs slot_tuple_getitem.lookup (PyProof.Rows.getItem_tuple ht a b (by rw [List.size_toArray]; exact e1) (by simpa using q) h) (notSlice hns _ _)
  | none=>exact rest
  | any=>exact rest
  | bool _=>exact rest
  | int _=>exact rest
  | str _=>exact rest
  | sym _=>exact rest
  | loc _=>exact rest
  | bs _=>exact rest
  | fn _=>exact rest
  | bi _=>exact rest
theorem s_sub (Bs : Base c K G D) {ok1 ok2 : KE1} {f g : D1} (F1 : SE1 c n ok1 f) (G1 : SE1 c n ok2 g) : SE1 c n (fun kd e=>xSub e fun v j _=>b2 (ok1 kd v) (b2 (noStar j) (ok2 kd j))) (dSub G.F f g):=by
  intro kd e V H h
  refine xSub_tp h fun v j p h=>b2_el h fun h1 h=>b2_el h fun hns h2=>tp_bnd (F1 kd v V H h1) fun x H1 p1=>tp_bnd (G1 kd j V H1 h2) fun y H2 p2=>?_
  obtain ⟨T1,_⟩:=p1
  obtain ⟨T2,_⟩:=p2
  refine tp_bn1 (U:=fun r=>∀ (A : Around) (ρ : List Addr) (s : Shared) (u w : Value),RelH c ρ H2 s.heap → c.V s.heap ρ x u → c.V s.heap ρ y w → GI c A ρ s v j u w r) (fun b e A ρ s u w R hu hw=>getI_ok Bs hns R hu hw b e) fun r C=>tp_some (both_plain ?_ fun _=>rfl)
  exact fun A env ρ s X=>Subscript_ (T1.go X fun ρ1 s1 u X1 V1 W1=>T2.go X1 fun ρ2 s2 w X2 V2 W2=>C A ρ2 s2 u w X2.R (W2.rel X1.R V1) V2 _ fun z t hz=>.mk ρ2 X2.R hz ((W1.trans W2).trans .toks))
theorem slice_tail {l : Addr} {e j : Expr} {vl vu vst : Value} {lo hi st : Option Int} {ops : List Value} {k : Nat} {r r' : List AV} {s₀ : Shared} {ρ₀ : List Addr} (L : ListR c s.heap ρ k r l) (R : RelH c ρ H s.heap) (W : Aft ρ₀ s₀ ρ s) (hz : small k = true) (pl : IsPart vl lo) (pu : IsPart vu hi) (ps : IsPart vst st) (h0 : st ≠ some 0) (hr : r'.length ≤ r.length)
    (hs : ∀ o i : Value,subscripted j false o i = operate (ops ++ (match j with | .Slice _ _ none _=>[i,o] | _=>[o,i])) (getItem o i))
    (hp : ∀ us : List Value,c.Vs s.heap ρ r.reverse us → ∃ vs : List Value,slicePick us.toArray lo hi st = vs.toArray ∧ c.Vs s.heap ρ r'.reverse vs) :
    wpAny (model c.prog c.w) A (subscriptTail e j (.ref l) (.ref s.heap.objs.size)) (PE c ρ₀ s₀ (.loc (hlen H)) (snoc H (.list k r'))) NoE { s with heap:=s.heap.push { cls:=.type "slice",data:=.fields #[vl,vu,vst] } }:=match L with
  | .mk us hn hl hv=>(hp us hv).elim fun vs q=>by
    have hl' : (s.heap.push { cls:=.type "slice",data:=.fields #[vl,vu,vst] }).IsList l us.toArray:=hl.isList.push _
    have hlen : us.length ≤ sizeLine:=by rw [← hv.len,List.length_reverse]; exact Nat.le_trans hn (line_of_small hz)
    refine tail_any (Heap.IsList.typeIs (s:={ s with heap:=s.heap.push { cls:=.type "slice",data:=.fields #[vl,vu,vst] } }) hl') slot_list_getitem.lookup (wpAny_getItem_list_slice hl' (Heap.IsSliceOf.new ..) pl pu ps h0 ?_ (by simpa using hlen)) (hs _ _)
    have W1 : Aft ρ s ρ { s with heap:=s.heap.push { cls:=.type "slice",data:=.fields #[vl,vu,vst] } }:=⟨.push _,rfl,rfl,rfl⟩
    exact .from (W.trans W1) (pe_newL (s:={ s with heap:=s.heap.push { cls:=.type "slice",data:=.fields #[vl,vu,vst] } }) (R.push _) (Nat.le_trans hr hn) (W1.rels R q.2) (by rw [q.1]) ⟨rfl,rfl,rfl⟩)
theorem isM1_el {M : Expr → Prop} {e : Expr} (h : isM1 e = true) (k : ∀ n p p',M (.UnaryOp .USub (.Constant (.int 1) n p) p')) : M e:=xUn_el h fun o x p h=>b2_el h fun a h=>by
  obtain rfl:=(opq_el a : o = UnaryOp.USub)
  exact isI_el (M:=fun x=>M (.UnaryOp .USub x p)) h fun n q=>k n q p
theorem m1_eval {n : Nat} {p p' : Pos} {Q : Value → Shared → Prop} (hQ : ∀ u t,IsPart u (some (-1)) → Q u { s with toks:=t }) : wpAny (model c.prog c.w) A (eval (.UnaryOp .USub (.Constant (.int 1) n p) p') env) Q NoE s:=wpAny_UnaryOp (wpAny_Constant_int (PySem.P.neg_int (hQ _ _ (.int _ _))))
theorem i_eval {i : Int} {n : Nat} {p : Pos} {Q : Value → Shared → Prop} (hQ : ∀ u t,IsPart u (some i) → Q u { s with toks:=t }) : wpAny (model c.prog c.w) A (eval (.Constant (.int i) n p) env) Q NoE s:=wpAny_Constant_int (hQ _ _ (.int _ _))
theorem both_slc {e j : Expr} {pos : Pos} {f : Hs → Nat → Nat → List AV → Option (AV × Hs)} {o : AV} {V : List (Str × AV)} (B : Both c n kd e V H (o,H1))
    (k : ∀ i a m r (ρ : List Addr) (s : Shared),RelH c ρ H1 s.heap → ListR c s.heap ρ m r a → TP (f H1 i m r) fun p=>∀ (A : Around) (env : Env) (ρ₀ : List Addr) (s₀ : Shared),Aft ρ₀ s₀ ρ s → wpAny (model c.prog c.w) A (eval j env) (fun w s'=>wpAny (model c.prog c.w) A (subscriptTail e j (.ref a) w) (PE c ρ₀ s₀ p.1 p.2) NoE s') NoE s) :
    TP (lstAt H1 o (f H1)) (Both c n kd (.Subscript e j pos) V H):=match B with
  | .mk T _=>fun p q=>both_plain (fun A env ρ s X=>Subscript_ (T.go X fun ρ1 s1 u X1 V1 W1=>(tp_lst (T:=fun u p=>wpAny (model c.prog c.w) A (eval j env) (fun w s'=>wpAny (model c.prog c.w) A (subscriptTail e j u w) (PE c ρ s p.1 p.2) NoE s') NoE s1) X1.R V1 fun i a m r _ _ L=>tp_mono (k i a m r ρ1 s1 X1.R L) fun p z=>z A env ρ s W1) p q)) fun _=>rfl
theorem s_rev {ok : KE1} {f : D1} (F1 : SE1 c n ok f) : SE1 c n (fun kd e=>xSub e fun v j _=>b2 (ok kd v) (xSlc j fun l u s _=>b2 (oN l) (b2 (oN u) (oS s isM1)))) (dSlc List.reverse f):=fun kd e V H h=>xSub_tp h fun v j p h=>b2_el h fun h1 h=>xSlc_el (M:=fun j=>TP _ (Both c n kd (.Subscript v j p) V H)) h fun l u st q h=>b2_el h fun e1 h=>b2_el h fun e2 e3=>
  oN_el (M:=fun l=>TP _ (Both c n kd (.Subscript v (.Slice l u st q) p) V H)) e1 (oN_el (M:=fun u=>TP _ (Both c n kd (.Subscript v (.Slice none u st q) p) V H)) e2 (oS_el (M:=fun st=>TP _ (Both c n kd (.Subscript v (.Slice none none st q) p) V H)) e3 fun st e3=>isM1_el (M:=fun st=>TP _ (Both c n kd (.Subscript v (.Slice none none (some st) q) p) V H)) e3 fun n1 p1 p2=>
    tp_bnd (F1 kd v V H h1) fun x H1 B=>both_slc (f:=fun H1 _ n r=>grd (small n) (newL n r.reverse H1)) B fun i a m r ρ s R L=>tp_grd fun z=>tp_some fun A env ρ₀ s₀ W=>wpAny_Slice (by
      rw [evalPart_none]; refine wpAny_pure (wpAny_pure ?_); rw [evalPart_some]
      exact m1_eval fun u t hu=>slice_tail (s:={ s with toks:=t }) (ops:=[]) (lo:=none) (hi:=none) (st:=some (-1)) L R (W.trans .toks) z .none .none hu (by decide) (by rw [List.length_reverse]; exact Nat.le_refl _) (fun o i=>rfl) fun us hv=>⟨us.reverse,krv_pick _,hv.rev⟩)))
theorem s_drop1 {ok : KE1} {f : D1} (F1 : SE1 c n ok f) : SE1 c n (fun kd e=>xSub e fun v j _=>b2 (ok kd v) (xSlc j fun l u s _=>b2 (oN u) (b2 (oN s) (oS l (isI 1))))) (dSlc (fun r=>(r.reverse.drop 1).reverse) f):=fun kd e V H h=>xSub_tp h fun v j p h=>b2_el h fun h1 h=>xSlc_el (M:=fun j=>TP _ (Both c n kd (.Subscript v j p) V H)) h fun l u st q h=>b2_el h fun e1 h=>b2_el h fun e2 e3=>
  oN_el (M:=fun u=>TP _ (Both c n kd (.Subscript v (.Slice l u st q) p) V H)) e1 (oN_el (M:=fun st=>TP _ (Both c n kd (.Subscript v (.Slice l none st q) p) V H)) e2 (oS_el (M:=fun l=>TP _ (Both c n kd (.Subscript v (.Slice l none none q) p) V H)) e3 fun l e3=>isI_el (M:=fun l=>TP _ (Both c n kd (.Subscript v (.Slice (some l) none none q) p) V H)) e3 fun n1 p1=>
    tp_bnd (F1 kd v V H h1) fun x H1 B=>both_slc (f:=fun H1 _ n r=>grd (small n) (newL n (r.reverse.drop 1).reverse H1)) B fun i a m r ρ s R L=>tp_grd fun z=>tp_some fun A env ρ₀ s₀ W=>wpAny_Slice (by
      rw [evalPart_some]
      refine i_eval fun u t hu=>wpAny_pure (wpAny_pure ?_)
      exact slice_tail (s:={ s with toks:=t }) (ops:=[]) (lo:=some ((1 : Nat) : Int)) (hi:=none) (st:=none) L R (W.trans .toks) z hu .none .none (by simp) (by rw [List.length_reverse,List.length_drop,List.length_reverse]; exact Nat.sub_le ..) (fun o i=>rfl) fun us hv=>⟨us.drop 1,slicePick_from' _ _,by rw [List.reverse_reverse]; exact hv.drop 1⟩)))
theorem pick0 {us : List Value} (h : us.length ≤ 1) : slicePick us.toArray none (some 0) (some (-1)) = ([] : List Value).toArray:=by
  cases us with
  | nil=>rfl
  | cons x us=>cases us with
    | nil=>rfl
    | cons y us=>exact absurd (Nat.le_of_succ_le_succ h) (Nat.not_succ_le_zero _)
theorem tp_le1 {α : Type} {T : α → Prop} {r : List AV} {x : Option α} (k : r.length ≤ 1 → TP x T) : TP (le1 r x) T:=match r,k with | [],k=>k (Nat.zero_le _) | [_],k=>k (Nat.le_refl _) | _ :: _ :: _,_=>tp_none
theorem s_cut0 {ok : KE1} {f : D1} (F1 : SE1 c n ok f) : SE1 c n (fun kd e=>xSub e fun v j _=>b2 (ok kd v) (xSlc j fun l u s _=>b2 (oN l) (b2 (oS u (isI 0)) (oS s isM1)))) (dCut0 f):=fun kd e V H h=>xSub_tp h fun v j p h=>b2_el h fun h1 h=>xSlc_el (M:=fun j=>TP _ (Both c n kd (.Subscript v j p) V H)) h fun l u st q h=>b2_el h fun e1 h=>b2_el h fun e2 e3=>
  oN_el (M:=fun l=>TP _ (Both c n kd (.Subscript v (.Slice l u st q) p) V H)) e1 (oS_el (M:=fun u=>TP _ (Both c n kd (.Subscript v (.Slice none u st q) p) V H)) e2 fun u e2=>isI_el (M:=fun u=>TP _ (Both c n kd (.Subscript v (.Slice none (some u) st q) p) V H)) e2 fun n1 p1=>oS_el (M:=fun st=>TP _ (Both c n kd (.Subscript v (.Slice none (some (.Constant (.int 0) n1 p1)) st q) p) V H)) e3 fun st e3=>isM1_el (M:=fun st=>TP _ (Both c n kd (.Subscript v (.Slice none (some (.Constant (.int 0) n1 p1)) (some st) q) p) V H)) e3 fun n2 p2 p3=>
    tp_bnd (F1 kd v V H h1) fun x H1 B=>both_slc (f:=fun H1 _ n r=>grd (small n) (le1 r (newL n [] H1))) B fun i a m r ρ s R L=>tp_grd fun z=>tp_le1 fun hr=>tp_some fun A env ρ₀ s₀ W=>wpAny_Slice (by
        rw [evalPart_none]; refine wpAny_pure ?_; rw [evalPart_some]
        refine i_eval fun u t hu=>?_
        rw [evalPart_some]
        exact m1_eval fun u' t' hu'=>slice_tail (s:={ s with toks:=t' }) (ops:=[]) (lo:=none) (hi:=some 0) (st:=some (-1)) L R (W.trans .toks) z .none hu hu' (by decide) (Nat.zero_le _) (fun o i=>rfl) fun us hv=>⟨[],pick0 (by rw [← hv.len,List.length_reverse]; exact hr),.nil⟩))
theorem s_cut {ok ok2 : KE1} {f g : D1} (F1 : SE1 c n ok f) (G1 : SE1 c n ok2 g) : SE1 c n (fun kd e=>xSub e fun v j _=>b2 (ok kd v) (xSlc j fun l u s _=>b2 (oN l) (b2 (oN s) (oS u (ok2 kd))))) (dCut f g):=fun kd e V H h=>xSub_tp h fun v j p h=>b2_el h fun h1 h=>xSlc_el (M:=fun j=>TP _ (Both c n kd (.Subscript v j p) V H)) h fun l u st q h=>b2_el h fun e1 h=>b2_el h fun e2 e3=>
  oN_el (M:=fun l=>TP _ (Both c n kd (.Subscript v (.Slice l u st q) p) V H)) e1 (oN_el (M:=fun st=>TP _ (Both c n kd (.Subscript v (.Slice none u st q) p) V H)) e2 (oS_el (M:=fun u=>TP _ (Both c n kd (.Subscript v (.Slice none u none q) p) V H)) e3 fun k e3=>
    tp_bnd (F1 kd v V H h1) fun x H1 B=>tp_bnd (G1 kd k V H1 e3) fun y H2 B2=>match B,B2 with
      | .mk T1 _,.mk T2 _=>fun pr hpr=>both_plain (fun A env ρ s X=>Subscript_ (T1.go X fun ρ1 s1 u X1 V1 W1=>wpAny_Slice (by
          rw [evalPart_none]; refine wpAny_pure ?_; rw [evalPart_some]
          refine T2.go X1 fun ρ2 s2 w X2 V2 W2=>wpAny_pure ?_
          refine (tp_nat (T:=fun w (pr : AV × Hs)=>wpAny (model c.prog c.w) A (subscriptTail v (.Slice none (some k) none q) u (.ref s2.heap.objs.size)) (PE c ρ s pr.1 pr.2) NoE { s2 with heap:=s2.heap.push { cls:=.type "slice",data:=.fields #[.none,w,.none] } }) V2 fun m t _=>tp_lst (T:=fun u (pr : AV × Hs)=>wpAny (model c.prog c.w) A (subscriptTail v (.Slice none (some k) none q) u (.ref s2.heap.objs.size)) (PE c ρ s pr.1 pr.2) NoE { s2 with heap:=s2.heap.push { cls:=.type "slice",data:=.fields #[.none,.int (m : Int) t,.none] } }) X2.R (W2.rel X1.R V1) fun i a b r _ _ L=>tp_grd fun z=>tp_some ?_) pr hpr
          exact slice_tail (ops:=[]) (lo:=none) (hi:=some (m : Int)) (st:=none) L X2.R (W1.trans W2) z .none (.int _ t) .none (by simp) (by rw [List.length_reverse,List.length_take,List.length_reverse]; exact Nat.min_le_right ..) (fun o i=>rfl) fun us hv=>⟨us.take m,slicePick_upto' _ _,by rw [List.reverse_reverse]; exact hv.take m⟩))) fun _=>rfl))
end
section
variable {c : Cx} {G : Pg} {K : Frag} {D n : Nat} {kd : Kd} {V : List (Str × AV)} {ρ ix : List Addr} {H H' H1 H2 : Hs} {A : Around} {env : Env} {s : Shared} {x y : AV} {u w : Value} {d d' : Nat} {h : Heap} {b : Bool} {e : Expr} {name : Str} {a C dx : Addr} {l : Cl}
theorem lookIn_of {m : Str → Option Value} (hn : h.Ns a m) : ∃ o,h.get? a = some o ∧ lookIn name o = some (m name):=hn.elim fun o q=>q.elim fun es q=>q.elim fun ep q=>⟨o,q.1,by
  obtain ⟨e,hd,hk,hf⟩:=q
  have this:=hf name
  unfold nsFind findBy at this
  unfold lookIn
  rw [hd]
  dsimp only
  rw [Array.find?_toList]
  cases z : Array.find? (fun e=>e.key.isStr name) es with
  | some z'=>rw [z] at this; rw [← this]; rfl
  | none=>
    rw [z] at this
    dsimp only
    have nk : es.toList.any (·.refKey) = false:=by
      rw [List.any_eq_false]
      intro e he
      obtain ⟨n,t,hq⟩:=hk e (Array.mem_toList_iff.mp he)
      simp [DictEntry.refKey,hq]
    rw [if_neg (by rw [nk]; exact Bool.false_ne_true),← this]; rfl⟩
structure ClP (K : Frag) (C : Addr) (l : Cl) : Prop where
  mks : makesIn K C = true
  init : findIn K (.ref C) "__init__" = some (some (.ref l.init))
  ifn : typeIn K (.ref l.init) = some (.type "function")
  get : findIn K (.ref C) "__getattribute__" = some (some (.builtin "object.__getattribute__"))
  set : findIn K (.ref C) "__setattr__" = some (some (.builtin "object.__setattr__"))
  miss : findIn K (.ref C) "__getattr__" = some none
  over : plainOver K C = true
  dict : (clsIn K C).any (·.hasDict) = true
  fs : ∀ n ∈ l.fs,findIn K (.ref C) n = some none
  ms : ∀ p ∈ l.ms,findIn K (.ref C) p.1 = some (some (.ref p.2)) ∧ typeIn K (.ref p.2) = some (.type "function") ∧ khas l.fs p.1 = false
theorem cl_parts (h : clOk K C l = true) : ClP K C l:=by
  unfold clOk at h
  simp only [Bool.and_eq_true,beq_iff_eq,List.all_eq_true,Bool.not_eq_true'] at h
  obtain ⟨⟨⟨⟨⟨⟨⟨⟨⟨h1,h2⟩,h3⟩,h4⟩,h5⟩,h6⟩,h7⟩,h8⟩,h9⟩,h10⟩:=h
  exact ⟨h1,h2,h3,h4,h5,h6,h7,h8,h9,fun p hp=>⟨(h10 p hp).1.1,(h10 p hp).1.2,(h10 p hp).2⟩⟩
theorem khas_cons (k : Str) (ks : List Str) (z : Str) : khas (k :: ks) z = match seqb k z with | true=>true | false=>khas ks z:=rfl
theorem khas_mem : ∀ {ks : List Str} {z : Str},khas ks z = true → z ∈ ks
  | k :: ks,z,h=>by
    rw [khas_cons] at h
    cases e : seqb k z with
    | true=>exact List.mem_cons.mpr (.inl (seqb_eq e).symm)
    | false=>rw [e] at h; exact List.mem_cons.mpr (.inr (khas_mem h))
theorem mget_mem : ∀ {ms : List (Str × Addr)} {z : Str} {a : Addr},mget ms z = some a → (z,a) ∈ ms
  | p :: r,z,a,h=>by
    have h : iff (seqb p.1 z) (some p.2) (mget r z) = some a:=h
    cases e : seqb p.1 z with
    | true=>rw [e] at h; rw [← seqb_eq e,← Option.some.inj h]; exact List.mem_cons_self ..
    | false=>rw [e] at h; exact List.mem_cons_of_mem _ (mget_mem h)
theorem Ns1.ns {m : Str → Option Value} (x : h.Ns1 a m) : h.Ns a m:=x.elim fun o q=>q.elim fun es q=>q.elim fun ep q=>⟨o,es,ep,q.1,q.2.1,q.2.2.1,q.2.2.2.2⟩
theorem inst_at {o : Obj} (h1 : h.get? a = some (instObj C dx)) (h2 : h.get? dx = some o) : InstAt h a (instObj C dx) C (some o):=⟨h1,rfl,rfl,h2⟩
theorem handed_of (hx : x ≠ .any) (e : c.V h ρ x u) : handedIn u = true:=by
  cases x with
  | none=>exact un_none (M:=fun u=>handedIn u = true) e rfl
  | any=>exact absurd rfl hx
  | bool b=>exact un_bool (M:=fun u=>handedIn u = true) e rfl
  | int i=>exact un_int (M:=fun u=>handedIn u = true) e fun _=>rfl
  | str i=>exact un_str (M:=fun u=>handedIn u = true) e fun _=>rfl
  | sym i=>exact un_sym (M:=fun u=>handedIn u = true) e fun _=>rfl
  | tup xs=>exact un_tup (M:=fun u=>handedIn u = true) e fun _ _ _ _=>rfl
  | loc _=>exact un_loc (M:=fun u=>handedIn u = true) e fun _ _=>rfl
  | bs _=>exact un_bs (M:=fun u=>handedIn u = true) e fun _ _=>rfl
  | fn _=>rw [show u = .ref _ from e]; rfl
  | bi b=>rw [show u = biVal b from e]; cases b <;> first | rfl | decide +kernel
theorem findObj_own {o : Obj} (hd : (clsIn K C).any (·.hasDict) = true) (hf : findIn K (.ref C) name = some none) (hl : lookIn name o = some (some u)) : findObj K C (some o) name = some (.value u):=by
  obtain ⟨cd,hc,h1⟩:=any_some hd
  unfold findObj
  rw [hc,Option.bind_some,hf,Option.bind_some]
  simp only [Option.bind_some]
  unfold PySem.W.ownOf
  rw [if_pos h1]
  show ((lookIn name o).bind _) = _
  rw [hl]
  rfl
theorem Base.kin' (Bs : Base c K G D) (R : RelH c ρ H h) : K.In h:=fun a o e=>R.keep a o (Bs.kin a o e)
def AtR (c : Cx) (A : Around) (ρ : List Addr) (s : Shared) (u : Value) (name : Str) (v : AV) : Prop:=∀ Q : Value → Shared → Prop,(∀ z t,c.V s.heap ρ v z → Q z { s with toks:=t }) → wpAny (model c.prog c.w) A (getAttr u name true) Q NoE s
theorem attr_ok (Bs : Base c K G D) (R : RelH c ρ H s.heap) (hu : c.V s.heap ρ x u) (name : Str) : TP (attrOf G H x name) (AtR c A ρ s u name):=
  tp_ob (T:=fun u v=>AtR c A ρ s u name v) R.lg (R.lgF Bs) hu fun a ix L o LL r=>tp_inst r fun C d i=>tp_bn1 tp_eq fun l hl=>tp_grd fun hm=>match i with
    | .mk dx h1 h2=>tp_bn1 (U:=fun o=>ORel c s.heap ρ ix o dx) (fun o e=>LL.obj d o dx h2 e) fun o r=>tp_ns r fun ks vs N=>tp_bn1 tp_eq fun v e=>tp_iff (fun _=>tp_none) fun q=>tp_some (match N with
      | .mk m us n1 n2 n3 n4=>fun Q k=>(kget_some n2 n4 e).elim fun z z'=>(lookIn_of (name:=name) (Ns1.ns n1)).elim fun ob w=>get_value (Bs.kin' R) (inst_at h1 w.1) (cl_parts (Bs.cl C l hl)).get (findObj_own (cl_parts (Bs.cl C l hl)).dict ((cl_parts (Bs.cl C l hl)).fs _ (khas_mem hm)) (by rw [w.2,n3,z'.1])) (handed_of (fun e=>by rw [e] at q; cases q) z'.2) (k z _ z'.2))
theorem base_eq {v : Expr} (h : noSuper v = true) : attributeBase v name env (eval v env) = eval v env:=
  ((Bool.or_eq_true ..).mp h).elim (fun h=>xName_el (M:=fun v=>attributeBase v name env (eval v env) = eval v env) h fun _ _ _=>rfl) fun h=>((Bool.or_eq_true ..).mp h).elim (fun h=>xAttr_el (M:=fun v=>attributeBase v name env (eval v env) = eval v env) h fun _ _ _ _=>rfl) fun h=>
    ((Bool.or_eq_true ..).mp h).elim (fun h=>xSub_el (M:=fun v=>attributeBase v name env (eval v env) = eval v env) h fun _ _ _ _=>rfl) fun h=>xCall_el (M:=fun v=>attributeBase v name env (eval v env) = eval v env) h fun f as ks p h=>xAttr_el (M:=fun f=>attributeBase (.Call f as ks p) name env (eval (.Call f as ks p) env) = eval (.Call f as ks p) env) h fun _ _ _ _=>rfl
theorem s_attr (Bs : Base c K G D) {name : Str} {ok : KE1} {f : D1} (F1 : SE1 c n ok f) : SE1 c n (fun kd e=>xAttr e fun v m _=>b2 (ok kd v) (b2 (seqb name m) (noSuper v))) (dAttr G f name):=by
  intro kd e V H h
  refine xAttr_tp h fun v m p h=>b2_el h fun h1 h=>b2_el h fun h2 h3=>?_
  obtain rfl:=seqb_eq h2
  refine tp_bnd (F1 kd v V H h1) fun x H1 B=>tp_bn1 (U:=fun r=>∀ (A : Around) (ρ : List Addr) (s : Shared) (u : Value),RelH c ρ H1 s.heap → c.V s.heap ρ x u → AtR c A ρ s u name r) (fun b e A ρ s u R hu=>attr_ok Bs R hu name b e) fun r C=>tp_some (both_plain ?_ fun _=>rfl)
  obtain ⟨T,_⟩:=B
  intro A env ρ s X
  rw [arm_eval_Attribute,base_eq h3]
  refine wpAny_bind (T.go X fun ρ1 s1 u X1 V1 W1=>wpAny_bind (wpAny_standAt (wpAny_bind (wpAny_holding (C A ρ1 s1 u X1.R V1 _ fun z t hz=>?_)))))
  exact wpAny_bind (wpAny_letTemporaryGo (wpAny_pure (.mk ρ1 X1.R hz (W1.trans .toks))))
end
section
variable {c : Cx} {G : Pg} {K : Frag} {D n : Nat} {kd : Kd} {V : List (Str × AV)} {ρ ix : List Addr} {H H' H1 H2 : Hs} {A : Around} {env : Env} {s s' : Shared} {x y v : AV} {u w : Value} {d d' : Nat} {h h' : Heap} {b : Bool} {e : Expr} {a : Addr} {o : AO} {ob : Obj}
def BR (c : Cx) (A : Around) (ρ : List Addr) (s : Shared) (f : Value) (vals : List Value) (p : AV × Hs) : Prop:=wpAny (model c.prog c.w) A (call f vals) (PE c ρ s p.1 p.2) NoE s
inductive SeqR (c : Cx) (h : Heap) (ρ : List Addr) (vs : List AV) : Value → Prop
  | mk (a : Addr) (o : Obj) (T : String) (n : Nat) (us : List Value) (hT : T = "list" ∨ T = "tuple") (e : h.get? a = some o) (hc : o.cls = .type T) (hd : o.data = .seq us.toArray n) (hv : c.Vs h ρ vs us) : SeqR c h ρ vs (.ref a)
theorem items_ok (Bs : Base c K G D) (R : RelH c ρ H h) (hu : c.V h ρ x u) : TP (items G.F H x) fun vs=>SeqR c h ρ vs u:=by
  have rest : TP (obOf G.F H x fun _ ob=>asList ob fun _ r=>some r.reverse) fun vs=>SeqR c h ρ vs u:=tp_ob (T:=fun u vs=>SeqR c h ρ vs u) R.lg (R.lgF Bs) hu fun a ix L o LL r=>tp_list r fun k l L=>match L with
    | .mk us _ hp hv=>hp.elim fun k e=>tp_some (.mk a _ "list" k us (.inl rfl) e rfl rfl hv)
  cases x with
  | tup xs=>exact un_tup (M:=fun u=>TP (some xs) fun vs=>SeqR c h ρ vs u) hu fun a us ht hv=>ht.elim fun o q=>q.2.2.elim fun k hd=>tp_some (.mk a o "tuple" k us (.inr rfl) q.1 q.2.1 hd hv)
  | none=>exact rest
  | any=>exact rest
  | bool _=>exact rest
  | int _=>exact rest
  | str _=>exact rest
  | sym _=>exact rest
  | loc _=>exact rest
  | bs _=>exact rest
  | fn _=>exact rest
  | bi _=>exact rest
theorem kv_len {ks : List Str} {us : List Value} (h : ks.length = us.length) : (kv ks us).length = ks.length:=by unfold kv; rw [List.length_zip,← h,Nat.min_self]
theorem len_ok (Bs : Base c K G D) (R : RelH c ρ H s.heap) (hu : c.V s.heap ρ x u) : TP (lenOf G.F H x) fun m=>small m = true → BR c A ρ s (.builtin "len") [u] (.int (.ofNat m),H):=by
  have fin : ∀ (m : Nat) t t',PE c ρ s (.int (.ofNat m)) H (.int (m : Int) t) { s with toks:=t' }:=fun m t t'=>.now R v_int
  have rest : TP (obOf G.F H x fun _ ob=>match ob with | .list _ r=>some r.length | .dict ks _=>some ks.length | _=>none) fun m=>small m = true → BR c A ρ s (.builtin "len") [u] (.int (.ofNat m),H):=
    tp_ob (T:=fun u m=>small m = true → BR c A ρ s (.builtin "len") [u] (.int (.ofNat m),H)) R.lg (R.lgF Bs) hu fun a ix L o LL r=>match o,r with
      | .list k l,.mk us _ hp hv=>tp_some fun z=>by
        have hl : us.length = l.length:=by rw [← hv.len,List.length_reverse]
        have z:=small_le z
        exact call_len_list hp.isList (by rw [List.size_toArray]; omega) (by rw [List.size_toArray,hl]; exact fin _ _ _)
      | .dict ks vs,.mk us h0 hd hl hv=>tp_some fun z=>by
        have z:=small_le z
        exact call_len_dict h0 hd (by rw [kv_len hl]; omega) (by rw [kv_len hl]; exact fin _ _ _)
      | .ns _ _,_ | .inst _ _,_ | .gone,_=>tp_none
  cases x with
  | tup xs=>exact un_tup (M:=fun u=>TP (some xs.length) fun m=>small m = true → BR c A ρ s (.builtin "len") [u] (.int (.ofNat m),H)) hu fun a us ht hv=>tp_some (fun z=>by
                have z:=small_le z
                have hl:=hv.len
                exact len_tuple ht (by rw [List.size_toArray]; omega) (by rw [List.size_toArray,← hl]; exact fin _ _ _))
  | none=>exact rest
  | any=>exact rest
  | bool _=>exact rest
  | int _=>exact rest
  | str _=>exact rest
  | sym _=>exact rest
  | loc _=>exact rest
  | bs _=>exact rest
  | fn _=>exact rest
  | bi _=>exact rest
theorem list_ok (R : RelH c ρ H s.heap) {vs : List AV} (q : SeqR c s.heap ρ vs u) (hz : small vs.length = true) : BR c A ρ s (.type "list") [u] (.loc (hlen H),snoc H (.list vs.length vs.reverse)):=match u,q with
  | _,.mk a o T k us hT e hc hd hv=>call_list_seq a hT e hc hd (fun h' c' hk hD=>by
    have S : Step ρ noX (ρ ++ [s.heap.objs.size]) s.heap h':=Step.add hk (none_size _)
    exact .mk (ρ ++ [s.heap.objs.size]) (R.add hk (none_size _) hD (notTup_cls hD (by simp)) (ListR.mk us (by rw [List.length_reverse]; exact Nat.le_refl _) ⟨_,hD⟩ (by rw [List.reverse_reverse]; exact S.rels R noX_no hv))) (v_last R) ⟨S,rfl,rfl,rfl⟩)
    (by rw [List.size_toArray,← hv.len]; exact line_of_small hz)
theorem tuple_ok (Bs : Base c K G D) (R : RelH c ρ H s.heap) (hu : c.V s.heap ρ x u) : TP (lstAt H x fun _ n r=>grd (small n) (some (.tup r.reverse,H))) (BR c A ρ s (.type "tuple") [u]):=
  tp_lst (T:=fun u=>BR c A ρ s (.type "tuple") [u]) R hu fun i a m r _ _ L=>tp_grd fun z=>tp_some (match L with
    | .mk us hn hp hv=>call_tuple_list hp.isList (fun h' hk=>by
      have hk' : ∀ b o',s.heap.get? b = some o' → (h'.push { cls:=.type "tuple",data:=.seq us.toArray }).get? b = some o':=fun b o' e=>Heap.get?_push_of_some _ (hk b o' e)
      exact pe_grown R hk' (v_tup ⟨_,Heap.get?_push_size _ rfl,rfl,_,rfl⟩ (Cx.Vs.mono (fun a _ t=>tup_keep (hk' a) t) (fun _ _ e=>e) hv)) ⟨rfl,rfl,rfl⟩)
      (by have:=line_of_small z; rw [List.size_toArray,← hv.len,List.length_reverse]; omega))
theorem ints_of : ∀ {vs : List AV} {us : List Value} {l : List Int},intsA vs = some l → c.Vs h ρ vs us → IntsAre us l
  | [],us,l,e,q=>q.un0 (M:=fun us=>IntsAre us l) (Option.some.inj e ▸ .nil)
  | v :: vs,us,l,e,q=>q.un (M:=fun us=>IntsAre us l) fun z r h1 h2=>(tp_int (T:=fun z l=>IntsAre (z :: r) l) h1 fun i t _=>tp_bn1 tp_eq fun l' e'=>tp_some (.cons _ t (ints_of e' h2))) l e
theorem sumI_eq : ∀ l : List Int,sumI l = l.sum
  | []=>rfl
  | i :: r=>by show i + sumI r = _; rw [sumI_eq r,List.sum_cons]
theorem sum_ok (hh : A.handled = none) (R : RelH c ρ H s.heap) (hu : c.V s.heap ρ x u) : TP (lstAt H x fun _ _ r=>bn1 (intsA r.reverse) fun l=>some (.int (sumI l),H)) (BR c A ρ s (.builtin "sum") [u]):=
  tp_lst (T:=fun u=>BR c A ρ s (.builtin "sum") [u]) R hu fun i a m r _ _ L=>tp_bn1 tp_eq fun l hi=>tp_some (match L with
    | .mk us hn hp hv=>by
      have hI:=ints_of hi hv
      have ht:=hp.isList
      obtain ⟨xs,hx⟩:=hI.allInts.items
      rw [hx] at ht
      refine sum_intListG hh ht fun h' tk t' hk=>?_
      have hs : preSum (numAt xs) xs.size = sumI l:=by
        rw [preSum_eq,List.take_of_length_le (by simp),← nums_intItems,← hx,sumI_eq]
        rw [show us.toArray.toList = us from rfl,hI.numsOf]
      rw [hs]
      exact pe_grown R hk v_int ⟨rfl,rfl,rfl⟩)
theorem abs_ok (R : RelH c ρ H s.heap) (hu : c.V s.heap ρ x u) : TP (asInt x fun i=>some (.int (.ofNat i.natAbs),H)) (BR c A ρ s (.builtin "abs") [u]):=
  tp_int (T:=fun u=>BR c A ρ s (.builtin "abs") [u]) hu fun i t _=>tp_some (call_abs_int fun u tk=>by
    rw [show (if i < 0 then -i else i) = Int.ofNat i.natAbs by simp only [Int.ofNat_eq_natCast]; split <;> omega]
    exact .now R v_int)
theorem digit_str {k : Nat} (hk : k < 10) : Str.ofString (toString (k : Int)) = ⟨#[48 + k]⟩:=by
  have : ∀ k : Nat,k < 10 → Str.ofString (toString (k : Int)) = ⟨#[48 + k]⟩:=by decide +kernel
  exact this k hk
theorem str_ok (R : RelH c ρ H s.heap) (hu : c.V s.heap ρ x u) : TP (asNat x fun k=>bn1 (digit k) fun s=>some (.str s,H)) (BR c A ρ s (.type "str") [u]):=
  tp_nat (T:=fun u=>BR c A ρ s (.type "str") [u]) hu fun k t _=>tp_bn1 (U:=fun z=>k < 10 ∧ z = (⟨#[48 + k]⟩ : Str)) (tp_grd fun z=>tp_some ⟨Nat.blt_eq.mp z,rfl⟩) fun z q=>tp_some (PySem.P.str_of_int (by have q1:=q.1; exact Nat.lt_trans (log2_lt (k:=4) (by simp; omega) (by omega)) (by omega)) (by rw [digit_str q.1,q.2]; exact .now R v_str))
theorem max_ok (hh : A.handled = none) (R : RelH c ρ H s.heap) (hu : c.V s.heap ρ x u) (hw : c.V s.heap ρ y w) : TP (asInt x fun i=>asInt y fun j=>some (.int (match ileA j i with | true=>i | false=>j),H)) (BR c A ρ s (.builtin "max") [u,w]):=
  tp_int (T:=fun u=>BR c A ρ s (.builtin "max") [u,w]) hu fun i t _=>tp_int (T:=fun w=>BR c A ρ s (.builtin "max") [.int i t,w]) hw fun j t' _=>tp_some (max_two_ints hh fun h' tk hk=>by
    rw [ileA_ok]
    by_cases q : j > i
    · rw [if_pos q,decide_eq_false (by omega)]; exact pe_grown R hk v_int ⟨rfl,rfl,rfl⟩
    · rw [if_neg q,decide_eq_true (by omega)]; exact pe_grown R hk v_int ⟨rfl,rfl,rfl⟩)
theorem min_ok (hh : A.handled = none) (R : RelH c ρ H s.heap) (hu : c.V s.heap ρ x u) (hw : c.V s.heap ρ y w) : TP (asInt x fun i=>asInt y fun j=>some (.int (match ileA i j with | true=>i | false=>j),H)) (BR c A ρ s (.builtin "min") [u,w]):=
  tp_int (T:=fun u=>BR c A ρ s (.builtin "min") [u,w]) hu fun i t _=>tp_int (T:=fun w=>BR c A ρ s (.builtin "min") [.int i t,w]) hw fun j t' _=>tp_some (min_two_ints hh fun h' tk hk=>by
    rw [ileA_ok]
    by_cases q : j < i
    · rw [if_pos q,decide_eq_false (by omega)]; exact pe_grown R hk v_int ⟨rfl,rfl,rfl⟩
    · rw [if_neg q,decide_eq_true (by omega)]; exact pe_grown R hk v_int ⟨rfl,rfl,rfl⟩)
theorem pe_change {i : Nat} (R : RelH c ρ H s.heap) (ea : hget ρ i = some a) (hs : Heap.SameBut a s.heap h') (e : h'.get? a = some ob) (hn : ∀ us,¬ h'.IsTuple a us)
    (r : (∀ {v : AV} {u : Value},c.V s.heap ρ v u → c.V h' ρ v u) → (∀ {v : List AV} {u : List Value},c.Vs s.heap ρ v u → c.Vs h' ρ v u) → ORel c h' ρ ρ o a ∧ c.V h' ρ v u) (hh : s'.heap = h') (M : Same s s') : PE c ρ s v (setN H i o) u s':=by
  subst hh
  have S : Step ρ noX ρ s.heap s'.heap:=Step.change (hget_mem ea) hs e
  obtain ⟨r1,r2⟩:=r (S.rel R noX_no) (S.rels R noX_no)
  exact .mk ρ (R.change ea hs e hn r1) r2 ⟨S,M⟩
theorem isL_upd {its : Array Value} {m : Nat} (e : h.get? a = some { cls:=.type "list",data:=.seq its m }) (g : Array Value → Array Value) : ∃ m',(h.update a (Obj.mapSeq g)).get? a = some { cls:=.type "list",data:=.seq (g its) m' }:=by
  obtain ⟨m',hd⟩:=Obj.data_mapSeq (o:={ cls:=.type "list",data:=.seq its m }) rfl g
  refine ⟨m',?_⟩
  rw [Heap.get?_update_self _ e (Obj.isFreed_of_seq hd)]
  congr 1
  have hc:=Obj.cls_mapSeq { cls:=.type "list",data:=.seq its m } g
  unfold Obj.mapSeq at hd ⊢
  simp only at hd ⊢
  split <;> simp_all
theorem append_ok (R : RelH c ρ H s.heap) (hu : c.V s.heap ρ x u) (hw : c.V s.heap ρ y w) : TP (lstAt H x fun i n r=>grd (small n) (some (.none,setN H i (.list (n + 1) (y :: r))))) (BR c A ρ s (.builtin "list.append") [u,w]):=
  tp_lst (T:=fun u=>BR c A ρ s (.builtin "list.append") [u,w]) R hu fun i a m r ea _ L=>tp_grd fun z=>tp_some (match L with
    | .mk us hn hp hv=>wpAny_list_append_plain hp (fun h' hp hs=>by
      have hp' : h'.PlainList a (us ++ [w]).toArray:=by simpa using hp
      obtain ⟨k,hm⟩:=id hp'
      exact pe_change R ea hs hm (notTup_cls hm (by simp)) (fun r1 r2=>⟨ListR.mk (us ++ [w]) (Nat.succ_le_succ hn) hp' (by rw [List.reverse_cons]; exact (r2 hv).app (.one (r1 hw))),v_none⟩) rfl ⟨rfl,rfl,rfl⟩)
      (by have:=small_le z; rw [List.size_toArray,← hv.len,List.length_reverse,sizeLine_eq]; omega))
theorem extend_ok (R : RelH c ρ H s.heap) (hu : c.V s.heap ρ x u) (hw : c.V s.heap ρ y w) : TP (lstAt H x fun i n r=>lstAt H y fun j k q=>iff (Nat.beq i j) none (grd (small (n + k)) (some (.none,setN H i (.list (n + k) (q ++ r)))))) (BR c A ρ s (.builtin "list.extend") [u,w]):=
  tp_lst (T:=fun u=>BR c A ρ s (.builtin "list.extend") [u,w]) R hu fun i a m r ea _ L=>tp_lst (T:=fun w=>BR c A ρ s (.builtin "list.extend") [.ref a,w]) R hw fun j b k q _ _ M=>tp_iff (fun _=>tp_none) fun _=>tp_grd fun z=>tp_some (match L,M with
    | .mk us hn ⟨p,hl⟩ hv,.mk ws hm ⟨p',hl'⟩ hx=>by
      have z:=small_le z
      have z1 : us.length ≤ m:=by rw [← hv.len,List.length_reverse]; exact hn
      have z2 : ws.length ≤ k:=by rw [← hx.len,List.length_reverse]; exact hm
      obtain ⟨m',hm'⟩:=isL_upd hl (fun x=>x ++ ws.toArray)
      have hm2 : (s.heap.update a (Obj.mapSeq fun x=>x ++ ws.toArray)).PlainList a (us ++ ws).toArray:=⟨m',by rw [hm']; simp⟩
      refine call_meets PySem.F.slot_list_extend ⟨_,hl,rfl⟩ PySem.F.entry_list_extend (PySem.F.args_list_extend_2 _ _) (PySem.AutoSeq1.list_extend_list_list_0 a us.toArray p b ws.toArray p' ?_ ?_ ?_) ⟨hl,hl',?_⟩
      · simp only [Builtin.List.listTooLong,List.size_toArray,sizeLine_eq,Bool.and_eq_true,decide_eq_true_eq,not_and]
        intro _; omega
      · rw [List.size_toArray,sizeLine_eq]; omega
      · rw [List.size_toArray,List.size_toArray,sizeLine_eq]; omega
      · exact pe_change R ea (Heap.SameBut.update ..) hm' (notTup_cls hm' (by simp)) (fun r1 r2=>⟨ListR.mk (us ++ ws) (by rw [List.length_append]; omega) hm2 (by rw [List.reverse_append]; exact (r2 hv).app (r2 hx)),v_none⟩) rfl ⟨rfl,rfl,rfl⟩)
theorem pop_ok (R : RelH c ρ H s.heap) (hu : c.V s.heap ρ x u) : TP (lstAt H x fun i n r=>match r with | x :: r'=>grd (small n) (some (x,setN H i (.list n r'))) | []=>none) (BR c A ρ s (.builtin "list.pop") [u]):=
  tp_lst (T:=fun u=>BR c A ρ s (.builtin "list.pop") [u]) R hu fun i a m r ea _ L=>match r,L with
    | [],_=>tp_none
    | x :: r,.mk us hn ⟨z,hl⟩ hv=>tp_grd fun hz=>tp_some (by
      have hz:=small_le hz
      rw [List.reverse_cons] at hv
      refine hv.split (M:=fun us=>s.heap.get? a = some { cls:=.type "list",data:=.seq us.toArray z } → BR c A ρ s (.builtin "list.pop") [.ref a] (x,setN H i (.list m r))) (fun p q hp hq=>hq.un1 (M:=fun q=>s.heap.get? a = some { cls:=.type "list",data:=.seq (p ++ q).toArray z } → BR c A ρ s (.builtin "list.pop") [.ref a] (x,setN H i (.list m r))) fun y hy hl=>?_) hl
      have hsz : (p ++ [y]).toArray.size - 1 = p.length:=by rw [List.size_toArray,List.length_append]; rfl
      have hlen : p.length = r.length:=by rw [← hp.len,List.length_reverse]
      obtain ⟨m',hm⟩:=isL_upd hl (fun xs=>xs.eraseIdxIfInBounds ((p ++ [y]).toArray.size - 1))
      rw [show (p ++ [y]).toArray.eraseIdxIfInBounds ((p ++ [y]).toArray.size - 1) = p.toArray by rw [hsz,kl_erase,List.append_nil]] at hm
      rw [List.length_cons] at hn
      refine call_meets PySem.F.slot_list_pop ⟨_,hl,rfl⟩ PySem.F.entry_list_pop (PySem.F.args_list_pop_1 _) (PySem.MeetsSeq.list_pop_last a _ z y (by rw [hsz]; simp) (by rw [List.size_toArray,List.length_append,sizeLine_eq]; show p.length + 1 ≤ _; omega)) ⟨hl,?_⟩
      exact pe_change R ea (Heap.SameBut.update ..) hm (notTup_cls hm (by simp)) (fun r1 r2=>⟨ListR.mk p (by omega) ⟨m',hm⟩ (r2 hp),r1 hy⟩) rfl ⟨rfl,rfl,rfl⟩)
theorem get_ok (Bs : Base c K G D) {z : AV} {zv : Value} (R : RelH c ρ H s.heap) (hu : c.V s.heap ρ x u) (hw : c.V s.heap ρ y w) (hz : c.V s.heap ρ z zv) : TP (obOf G.F H x fun _ o=>asDict o fun ks vs=>asStr y fun x=>some ((match kget ks x vs with | some v=>v | none=>z),H)) (BR c A ρ s (.builtin "dict.get") [u,w,zv]):=
  tp_ob (T:=fun u=>BR c A ρ s (.builtin "dict.get") [u,w,zv]) R.lg (R.lgF Bs) hu fun a ix L o LL r=>tp_dict r fun ks vs M=>tp_str (T:=fun w=>BR c A ρ s (.builtin "dict.get") [.ref a,w,zv]) hw fun k t=>tp_some (match M with
    | .mk us h0 hd hl hv=>call_meetsIn PySem.F.slot_dict_get hd.mapOf.typeIs PySem.F.entry_dict_get (PySem.F.args_dict_get_3 _ _ _) (meets_dict_get_default (PySem.strKind c.prog c.w) a (strKind_is _ _ k t) h0 zv) ⟨_,hd.mapOf,by
      show PE c ρ s _ H ((valueAt (kv ks us) k).getD zv) _
      cases q : kget ks k vs with
      | none=>rw [kget_none hl hv q]; exact .now R hz
      | some y=>obtain ⟨z',z1,z2⟩:=kget_some hl hv q; rw [z1]; exact .now R z2⟩)
theorem split_ok (R : RelH c ρ H s.heap) {t t' : Tok} : BR c A ρ s (.builtin "str.split") [.str s_T2 t,.str s_bang t'] (.loc (hlen H),snoc H (.list 1 [.str s_T2])):=by
  refine call_meets PySem.F.slot_str_split (typeIs_str _ _ _) PySem.F.entry_str_split (PySem.F.args_str_split_2 _ _) (meets_str_split_not_found s_T2 s_bang t t' (by decide +kernel) (by decide +kernel) (by decide +kernel)) ?_
  exact pe_newL R (Nat.le_refl _) (us:=[.str s_T2 t]) (.one v_str) rfl ⟨rfl,rfl,rfl⟩
end
section
variable {c : Cx} {G : Pg} {K : Frag} {D n : Nat} {kd : Kd} {V : List (Str × AV)} {ρ ix : List Addr} {H H' H1 H2 : Hs} {A : Around} {env : Env} {s : Shared} {x y v f : AV} {u w : Value} {h : Heap} {b : Bool} {e : Expr} {a : Addr} {p : AV × Hs} {es : List Expr} {vs as fs : List AV} {vals first : List Value} {pos : Pos}
inductive CaR (c : Cx) (K : Frag) (n : Nat) (f : AV) (as : List AV) (H : Hs) (p : AV × Hs) : Prop
  | fn (a : Addr) (e : f = .fn a) (hk : keepIn K (.ref a) = true) (T : TC c n (.fn a) as H p.1 p.2) : CaR c K n f as H p
  | bi (b : Bi) (e : f = .bi b) (B : ∀ (A : Around) (ρ : List Addr) (s : Shared) (vals : List Value),AOk A n → RelH c ρ H s.heap → c.Vs s.heap ρ as vals → BR c A ρ s (biVal b) vals p) : CaR c K n f as H p
def CaOk (c : Cx) (K : Frag) (n : Nat) (call : AV → List AV → Hs → Option (AV × Hs)) : Prop:=∀ f as H,TP (call f as H) (CaR c K n f as H)
theorem TC.go (T : TC c n f as H v H') (a : AOk A n) (R : RelH c ρ H s.heap) (hu : c.V s.heap ρ f u) (hv : c.Vs s.heap ρ as vals) : wpAny (model c.prog c.w) A (call u vals) (PE c ρ s v H') NoE s:=
  wpAny_call (codeAny_mono (T A ρ s u vals a R hu hv) fun r s' p=>match r,p with | _,.mk u rfl p=>p)
theorem TC.le {m : Nat} (T : TC c n f as H v H') (h : n ≤ m) : TC c m f as H v H':=fun A ρ s fv vals a=>T A ρ s fv vals (a.le h)
theorem TEs.args {q : List AV × Hs} (T : TEs c n kd es V H q) (X : St c n kd V H A env ρ s) {fv : Value} {Q : Args → Shared → Prop} (k : ∀ us s1,PEs c ρ s q.1 q.2 us s1 → Q ⟨us,[]⟩ s1) : wpAny (model c.prog c.w) A (evalArgs fv true (backTo pos (starEach es env)) []) Q NoE s:=
  (T.cons env).elim (fun q=>by obtain ⟨rfl,w⟩:=q; exact PyProof.Rows.evalArgs_none (k _ _ (w ρ s X.R))) fun q=>q.elim fun e q=>q.elim fun r q=>by
    have hs:=T.go A env ρ s pos X
    rw [q] at hs ⊢
    exact evalArgs_plain (Mine.go hs k)
theorem callw_fn (Bs : Base c K G D) (hk : keepIn K (.ref a) = true) (Q : TEs c n kd es V H (vs,H1)) (T : TC c n (.fn a) (fs ++ vs) H1 v H') (X : St c n kd V H A env ρ s) (hf : c.Vs s.heap ρ fs first) :
    wpAny (model c.prog c.w) A (callWith pos (.ref a) first (backTo pos (starEach es env)) []) (PE c ρ s v H') NoE s:=
  callWith_of (P:=K.In) (by rw [Q.any pos env]; rfl) (keeps_K hk) (Q.args X fun us s1 w=>match w with | .mk ρ1 R1 V1 W1=>⟨Bs.kin' R1,go (TC.go T X.a R1 v_fn ((W1.rels X.R hf).app V1)) fun _ _ q=>q.from W1⟩)
theorem callw_bi {g : Value} (hg : (∃ i,g = .builtin i) ∨ ∃ T,g = .type T) (Q : TEs c n kd es V H (vs,H1)) (X : St c n kd V H A env ρ s) (T : ∀ ρ1 s1 vals,RelH c ρ1 H1 s1.heap → Aft ρ s ρ1 s1 → c.Vs s1.heap ρ1 vs vals → BR c A ρ1 s1 g (first ++ vals) p) :
    wpAny (model c.prog c.w) A (callWith pos g first (backTo pos (starEach es env)) []) (PE c ρ s p.1 p.2) NoE s:=
  have key : wpAny (model c.prog c.w) A (evalArgs g true (backTo pos (starEach es env)) []) (fun a s₁=>wpAny (model c.prog c.w) A (call g (first ++ a.pos) a.kw) (PE c ρ s p.1 p.2) NoE s₁) NoE s:=Q.args X fun us s1 w=>match w with | .mk ρ1 R1 V1 W1=>go (T ρ1 s1 us R1 W1 V1) fun _ _ q=>q.from W1
  hg.elim (fun q=>by obtain ⟨i,rfl⟩:=q; exact callWith_builtin (Q.any pos env) key) fun q=>by obtain ⟨i,rfl⟩:=q; exact PyProof.Rows.callWith_type (Q.any pos env) key
theorem bi_cases (b : Bi) : (∃ i,biVal b = .builtin i) ∨ ∃ T,biVal b = .type T:=by cases b <;> first | exact .inl ⟨_,rfl⟩ | exact .inr ⟨_,rfl⟩
theorem te_call (Bs : Base c K G D) {y : Str} {yp : Pos} (B : Both c n kd (.Name y yp) V H (f,H1)) (Q : TEs c n kd es V H1 (vs,H2)) (C : CaR c K n f vs H2 p) : TE c n kd (.Call (.Name y yp) es [] pos) V H p.1 p.2:=match B with
  | .mk T _=>fun A env ρ s X=>Call_Name rfl (T.go X fun ρ1 s1 u X1 V1 W1=>match C with
    | .fn a e hk T2=>by
      subst e
      obtain rfl : u = .ref a:=V1
      exact go (callw_fn Bs hk Q (fs:=[]) T2 X1 .nil) fun _ _ q=>q.from W1
    | .bi b e hb=>by
      subst e
      obtain rfl : u = biVal b:=V1
      exact go (callw_bi (first:=[]) (bi_cases b) Q X1 fun ρ2 s2 us R2 W2 V2=>hb A ρ2 s2 us X1.a R2 V2) fun _ _ q=>q.from W1)
theorem s_call (Bs : Base c K G D) {call : AV → List AV → Hs → Option (AV × Hs)} (CO : CaOk c K n call) {ok : KE1} {okr : KE2} {g : D1} {r : D2} (F : SE1 c n ok g) (R : SE2 c n okr r) : SE1 c n (fun kd e=>xCall e fun g as ks pos=>b2 (l0 ks) (b2 (xName g fun y p=>ok kd (.Name y p)) (okr kd as))) (dCall call g r):=
  fun kd e V H h=>xCall_tp h fun g as ks pos h=>b2_el h fun h0 h=>b2_el h fun h1 h2=>l0_el (M:=fun ks=>TP _ (Both c n kd (.Call g as ks pos) V H)) h0 (xName_el (M:=fun g=>TP _ (Both c n kd (.Call g as [] pos) V H)) h1 fun y p h1=>
    tp_bnd (F kd (.Name y p) V H h1) fun fv H1 B=>tp_bnd (R.es kd as V H1 h2) fun vs H2 Q=>tp_mono (CO fv vs H2) fun p C=>both_plain (te_call Bs B Q C) fun _=>rfl)
noncomputable def unF (v : AV) : Addr:=match v with | .fn a=>a | _=>0
noncomputable def bmId (b : BM) : String:=match b with | .append=>"list.append" | .extend=>"list.extend" | .pop=>"list.pop" | .get=>"dict.get" | .split=>"str.split"
noncomputable def mkVal (k : MK) : Value:=match k with | .bm b=>.builtin (bmId b) | .fm a=>.ref a
theorem s_append_eq : s_append = Str.ofString "append":=by decide +kernel
theorem s_extend_eq : s_extend = Str.ofString "extend":=by decide +kernel
theorem s_pop_eq : s_pop = Str.ofString "pop":=by decide +kernel
theorem s_get_eq : s_get = Str.ofString "get":=by decide +kernel
theorem s_split_eq : s_split = Str.ofString "split":=by decide +kernel
def GM (c : Cx) (A : Around) (s : Shared) (u : Value) (m : Str) (k : MK) : Prop:=∀ (pl : Sem Bool) (Q : Value × List Value → Shared → Prop),Q (mkVal k,[u]) s → wpAny (model c.prog c.w) A (getMethod u m pl) Q NoE s
theorem list_gm {m : Str} {us : Array Value} (hp : s.heap.PlainList a us) : TP (iff (seqb m s_pop) (some (MK.bm .pop)) (iff (seqb m s_append) (some (.bm .append)) (grd (seqb m s_extend) (some (.bm .extend))))) (GM c A s (.ref a) m):=
  hp.elim fun k p1=>
    have hT : s.TypeIs (.ref a) "list":=⟨_,p1,rfl⟩
    have hD : ∀ b,Value.ref a = .ref b → ∃ o,s.heap.get? b = some o ∧ o.dict = none:=fun b q=>by cases q; exact ⟨_,p1,rfl⟩
    tp_iff (fun q=>by obtain rfl:=seqb_eq q; exact tp_some fun pl Q hQ=>by rw [s_pop_eq]; exact getMethod_builtin hT PySem.F.plainAttrs_list PySem.F.slot_list_pop PySem.F.type_list_pop hD hQ) fun _=>
    tp_iff (fun q=>by obtain rfl:=seqb_eq q; exact tp_some fun pl Q hQ=>by rw [s_append_eq]; exact getMethod_builtin hT PySem.F.plainAttrs_list PySem.F.slot_list_append PySem.F.type_list_append hD hQ) fun _=>
    tp_grd fun q=>by obtain rfl:=seqb_eq q; exact tp_some fun pl Q hQ=>by rw [s_extend_eq]; exact getMethod_builtin hT PySem.F.plainAttrs_list PySem.F.slot_list_extend PySem.F.type_list_extend hD hQ
theorem dict_gm {m : Str} {l : List (Str × Value)} (hd : s.heap.DictOf (strKind c.prog c.w) a l) : TP (grd (seqb m s_get) (some (MK.bm .get))) (GM c A s (.ref a) m):=
  tp_grd fun q=>by obtain rfl:=seqb_eq q; exact tp_some fun pl Q hQ=>by rw [s_get_eq]; exact getMethod_builtin hd.mapOf.typeIs PySem.F.plainAttrs_dict PySem.F.slot_dict_get PySem.F.type_dict_get hd.mapOf.noDict hQ
theorem inst_gm (Bs : Base c K G D) (R : RelH c ρ H s.heap) {L : Hs} {C : Addr} {d : Nat} {m : Str} (LL : Lg c s.heap ρ L ix) (r : InstR s.heap ix C d a) : TP (bn1 (hget L d) fun x=>asNs x fun ks _=>bn1 (G.cl C) fun c=>bn1 (mget c.ms m) fun f=>iff (khas ks m) none (some (.fm f))) (GM c A s (.ref a) m):=match r with
  | .mk dx h1 h2=>tp_bn1 (U:=fun o=>ORel c s.heap ρ ix o dx) (fun o e=>LL.obj d o dx h2 e) fun o r=>tp_ns r fun ks vs N=>tp_bn1 tp_eq fun l hl=>tp_bn1 tp_eq fun f hf=>tp_iff (fun _=>tp_none) fun q=>tp_some fun pl Q hQ=>match N with
    | .mk mm us n1 n2 n3 n4=>(lookIn_of (name:=m) (Ns1.ns n1)).elim fun o w=>by
      have P:=cl_parts (Bs.cl C l hl)
      obtain ⟨m1,m2,_⟩:=P.ms _ (mget_mem hf)
      have e : mm m = none:=by
        rw [n3]
        have:=khas_value (z:=m) n2
        rw [q] at this
        exact Option.not_isSome_iff_eq_none.mp (by rw [this]; exact Bool.false_ne_true)
      exact method_fn (Bs.kin' R) (inst_at h1 w.1) P.get P.miss m1 m2 (by show (lookIn m o).map _ = _; rw [w.2,e]; rfl) hQ
theorem mth_ok (Bs : Base c K G D) (R : RelH c ρ H s.heap) {m : Str} (hu : c.V s.heap ρ x u) : TP (mth G H x m) (GM c A s u m):=by
  have rest : TP (obOf G.F H x fun L o=>match o with
    | .list _ _=>iff (seqb m s_pop) (some (MK.bm .pop)) (iff (seqb m s_append) (some (.bm .append)) (grd (seqb m s_extend) (some (.bm .extend))))
    | .dict _ _=>grd (seqb m s_get) (some (.bm .get))
    | .inst C d=>bn1 (hget L d) fun x=>asNs x fun ks _=>bn1 (G.cl C) fun c=>bn1 (mget c.ms m) fun f=>iff (khas ks m) none (some (.fm f))
    | _=>none) (GM c A s u m):=tp_ob (T:=fun u k=>GM c A s u m k) R.lg (R.lgF Bs) hu fun a ix L o LL r=>match o,r with
      | .list _ _,.mk us _ hp _=>list_gm hp
      | .dict _ _,.mk us _ hd _ _=>dict_gm hd
      | .inst C d,r=>inst_gm Bs R LL r
      | .ns _ _,_ | .gone,_=>tp_none
  cases x with
  | str t=>exact un_str (M:=fun u=>TP (grd (seqb m s_split) (some (MK.bm .split))) (GM c A s u m)) hu fun t=>tp_grd fun q=>by obtain rfl:=seqb_eq q; exact tp_some fun pl Q hQ=>by rw [s_split_eq]; exact getMethod_builtin (typeIs_str _ _ _) PySem.F.plainAttrs_str PySem.F.slot_str_split PySem.F.type_str_split (fun a e=>nomatch e) hQ
  | tup xs=>exact rest
  | none=>exact rest
  | any=>exact rest
  | bool _=>exact rest
  | int _=>exact rest
  | sym _=>exact rest
  | loc _=>exact rest
  | bs _=>exact rest
  | fn _=>exact rest
  | bi _=>exact rest
theorem mop_ok (Bs : Base c K G D) {bm : BM} (R : RelH c ρ H s.heap) (hu : c.V s.heap ρ x u) (hv : c.Vs s.heap ρ vs vals) : TP (mop bm G.F x vs H) (BR c A ρ s (.builtin (bmId bm)) (u :: vals)):=match bm with
  | .append=>tp_as1 (T:=fun us=>BR c A ρ s (.builtin "list.append") (u :: us)) hv fun y w hw=>append_ok R hu hw
  | .extend=>tp_as1 (T:=fun us=>BR c A ρ s (.builtin "list.extend") (u :: us)) hv fun y w hw=>extend_ok R hu hw
  | .pop=>tp_as0 (T:=fun us=>BR c A ρ s (.builtin "list.pop") (u :: us)) hv (pop_ok R hu)
  | .get=>tp_as2 (T:=fun us=>BR c A ρ s (.builtin "dict.get") (u :: us)) hv fun y z w zv hw hz=>get_ok Bs R hu hw hz
  | .split=>tp_as1 (T:=fun us=>BR c A ρ s (.builtin "str.split") (u :: us)) hv fun y w hw=>tp_str (T:=fun u=>BR c A ρ s (.builtin "str.split") [u,w]) hu fun k t=>tp_str (T:=fun w=>BR c A ρ s (.builtin "str.split") [.str k t,w]) hw fun k' t'=>tp_grd fun q=>tp_grd fun q'=>by
    obtain rfl:=seqb_eq q
    obtain rfl:=seqb_eq q'
    exact tp_some (split_ok R)
theorem meth_open {o : Expr} {name : Str} {apos : Pos} {Q : Value → Shared → Prop} {E : Value → Shared → Prop} (hb : noSuper o = true) (hform : methodCallForm (es.length + ([] : List Keyword).length) (backTo pos (starEach es env)) [] = true) (hline : Nat.beq apos.endLine pos.line = true)
    (h : wpAny (model c.prog c.w) A (eval o env) (fun ov s1=>∀ pl,wpAny (model c.prog c.w) A (getMethod ov name pl) (fun p s2=>wpAny (model c.prog c.w) A (callWith pos p.1 p.2 (backTo pos (starEach es env)) []) Q E s2) E s1) E s) :
    wpAny (model c.prog c.w) A (eval (.Call (.Attribute o name apos) es [] pos) env) Q E s:=by
  rw [arm_eval_Call,base_eq hb]
  refine wpAny_bind (wpAny_mono h (fun ov s1 h1=>wpAny_bind (wpAny_standAt ?_)) fun _ _ e=>e)
  have hpos : methodCallPos true o env apos pos = pure pos:=by unfold methodCallPos; simp [Nat.eq_of_beq_eq_true hline]
  unfold methodCall
  rw [show backToKw pos (keywordEach [] env) = [] from rfl,hform]
  exact wpAny_bind (wpAny_holding (wpAny_mono (h1 _) (fun p s2 h2=>wpAny_bind (wpAny_of_eq hpos h2)) fun _ _ e=>e))
theorem form_ok {q : List AV × Hs} (T : TEs c n kd es V H q) (hl : Nat.ble es.length 20 = true) : methodCallForm (es.length + ([] : List Keyword).length) (backTo pos (starEach es env)) [] = true:=by
  unfold methodCallForm
  rw [T.all pos env]
  have:=Nat.le_of_ble_eq_true hl
  simp; omega
noncomputable def mCall (G : Pg) (call : AV → List AV → Hs → Option (AV × Hs)) (u : AV) (vs : List AV) (H2 : Hs) (k : MK) : Option (AV × Hs):=match k with
  | .bm b=>mop b G.F u vs H2
  | .fm f=>call (.fn f) (u :: vs) H2
theorem mcall_ok (Bs : Base c K G D) {call : AV → List AV → Hs → Option (AV × Hs)} (CO : CaOk c K n call) (k : MK) (Q : TEs c n kd es V H (vs,H1)) : TP (mCall G call x vs H1 k) fun p=>∀ A env ρ s u,St c n kd V H A env ρ s → c.V s.heap ρ x u → wpAny (model c.prog c.w) A (callWith pos (mkVal k) [u] (backTo pos (starEach es env)) []) (PE c ρ s p.1 p.2) NoE s:=match k with
  | .bm b=>fun p e A env ρ s u X hu=>callw_bi (.inl ⟨_,rfl⟩) Q X fun ρ1 s1 vals R1 W1 V1=>mop_ok Bs R1 (W1.rel X.R hu) V1 p e
  | .fm f=>fun p e A env ρ s u X hu=>match CO (.fn f) (x :: vs) H1 p e with
    | .fn a q hk T=>by
      obtain rfl:=(congrArg unF q : f = a)
      exact callw_fn Bs hk Q (fs:=[x]) T X (.one hu)
    | .bi b q _=>nomatch q
theorem s_meth (Bs : Base c K G D) {call : AV → List AV → Hs → Option (AV × Hs)} (CO : CaOk c K n call) {m : Str} {ok : KE1} {okr : KE2} {g : D1} {r : D2} (F : SE1 c n ok g) (R : SE2 c n okr r) :
    SE1 c n (fun kd e=>xCall e fun g as ks pos=>b2 (l0 ks) (b2 (Nat.ble as.length 20) (b2 (xAttr g fun v n ap=>b2 (ok kd v) (b2 (seqb m n) (b2 (noSuper v) (Nat.beq ap.endLine pos.line)))) (okr kd as)))) (dMeth G call g m r):=
  fun kd e V H h=>xCall_tp h fun g as ks pos h=>b2_el h fun h0 h=>b2_el h fun h1 h=>b2_el h fun h2 h3=>l0_el (M:=fun ks=>TP _ (Both c n kd (.Call g as ks pos) V H)) h0 (xAttr_el (M:=fun g=>TP _ (Both c n kd (.Call g as [] pos) V H)) h2 fun o nm ap h=>b2_el h fun h4 h=>b2_el h fun h5 h=>b2_el h fun h6 h7=>by
    obtain rfl:=seqb_eq h5
    exact tp_bnd (F kd o V H h4) fun x H1 B=>tp_bn1 tp_eq fun k hk=>tp_bnd (R.es kd as V H1 h3) fun vs H2 Q=>tp_mono (mcall_ok Bs CO k Q) fun p C=>both_plain (fun A env ρ s X=>meth_open h6 (form_ok Q h1) h7 (match B with
      | .mk T _=>T.go X fun ρ1 s1 u X1 V1 W1 pl=>mth_ok Bs X1.R V1 k hk pl _ (go (C A env ρ1 s1 u X1 V1) fun _ _ q=>q.from W1))) fun _=>rfl)
end
abbrev SL:=List (Str × Value)
def slot1 (x : Str × Value) (s : SL) : SL:=if (List.lookup x.1 s).isNone = true then s ++ [(x.1,x.2)] else s
theorem slots_loop {f : Str × Value → SL → Sem (ForInStep SL)} (hf : ∀ x s,f x s = pure (.yield (slot1 x s))) : ∀ (l s : SL),forIn l s f = pure (l.foldl (fun s x=>slot1 x s) s)
  | [],s=>by rw [List.forIn_nil]; rfl
  | x :: l,s=>by rw [List.forIn_cons,hf,pure_bind]; exact slots_loop hf l _
theorem beq_ne {x k : Str} (h : x ≠ k) : (x == k) = false:=beq_eq_false_iff_ne.mpr h
theorem lookup_ne {k x : Str} {u : Value} {l : SL} (h : x ≠ k) : List.lookup x ((k,u) :: l) = List.lookup x l:=by rw [List.lookup_cons,beq_ne h]
theorem lookup_self {k : Str} {u : Value} {l : SL} : List.lookup k ((k,u) :: l) = some u:=by rw [List.lookup_cons,beq_self_eq_true]
theorem zip_some : ∀ {ks : List Str} {us : List Value} {x : Str} {m : Nat},x ∈ ks.take m → m ≤ us.length → ((ks.zip us).lookup x).isSome = true
  | k :: ks,u :: us,x,m + 1,h,hl=>by
    by_cases e : x = k
    · rw [e,List.zip_cons_cons,lookup_self]; rfl
    · rw [List.zip_cons_cons,lookup_ne e]
      exact zip_some ((List.mem_cons.mp h).resolve_left e) (Nat.le_of_succ_le_succ hl)
  | _ :: _,[],_,m + 1,_,hl=>nomatch hl
  | [],_,_,_,h,_=>by rw [List.take_nil] at h; cases h
  | _ :: _,_,_,0,h,_=>nomatch h
theorem zip_none : ∀ {ks : List Str} {us : List Value} {x : Str},ks.Nodup → x ∈ ks.drop us.length → (ks.zip us).lookup x = none
  | k :: ks,[],x,_,h=>rfl
  | k :: ks,u :: us,x,hn,h=>by
    obtain ⟨n1,n2⟩:=List.nodup_cons.mp hn
    have h : x ∈ ks.drop us.length:=h
    rw [List.zip_cons_cons,lookup_ne (fun e=>n1 (by rw [← e]; exact List.mem_of_mem_drop h) : x ≠ k)]
    exact zip_none n2 h
  | [],_,_,_,h=>by rw [List.drop_nil] at h; cases h
theorem lookup_app {l r : SL} {x : Str} (h : l.lookup x = none) : (l ++ r).lookup x = r.lookup x:=by
  rw [List.lookup_append,h]; rfl
theorem fold_add : ∀ (ks : List Str) (us : List Value) (s : SL),ks.Nodup → (∀ x ∈ ks,s.lookup x = none) → (ks.zip us).foldl (fun s x=>slot1 x s) s = s ++ ks.zip us
  | [],us,s,_,h=>(List.append_nil s).symm
  | k :: ks,[],s,_,h=>(List.append_nil s).symm
  | k :: ks,u :: us,s,hn,h=>by
    obtain ⟨n1,n2⟩:=List.nodup_cons.mp hn
    rw [List.zip_cons_cons,List.foldl_cons,slot1,if_pos (by rw [h k (List.mem_cons_self ..)]; rfl),fold_add ks us _ n2 fun x m=>?_,List.append_assoc]
    · rfl
    · rw [lookup_app (h x (List.mem_cons_of_mem _ m)),lookup_ne (fun e=>n1 (by rw [← e]; exact m) : x ≠ k)]; rfl
theorem fold_F : ∀ (m : Nat) (qs : List Str) (ds : List Value) (s : SL),(∀ x ∈ qs.take m,(s.lookup x).isSome = true) → (∀ x ∈ qs.drop m,s.lookup x = none) → (qs.drop m).Nodup → (qs.zip ds).foldl (fun s x=>slot1 x s) s = s ++ (qs.drop m).zip (ds.drop m)
  | 0,qs,ds,s,_,h,n=>fold_add qs ds s n h
  | m + 1,[],ds,s,_,_,_=>(List.append_nil s).symm
  | m + 1,q :: qs,[],s,_,_,_=>by rw [List.drop_nil,List.zip_nil_right,List.zip_nil_right,List.append_nil]; rfl
  | m + 1,q :: qs,d :: ds,s,a,h,n=>by
    rw [List.zip_cons_cons,List.foldl_cons,slot1,if_neg (by have:=a q (List.mem_cons_self ..); intro z; rw [Option.isNone_iff_eq_none] at z; rw [z] at this; cases this)]
    exact fold_F m qs ds s (fun x hx=>a x (List.mem_cons_of_mem _ hx)) h n
theorem zip_app : ∀ (ps : List Str) (us r : List Value),ps.zip (us ++ r) = ps.zip us ++ (ps.drop us.length).zip r
  | ps,[],r=>by cases ps <;> rfl
  | [],u :: us,r=>rfl
  | p :: ps,u :: us,r=>congrArg ((p,u) :: ·) (zip_app ps us r)
theorem filter_zip : ∀ {ks : List Str} {us : List Value} {l : SL},ks.Nodup → ks.length = us.length → (∀ n ∈ ks,l.lookup n = (ks.zip us).lookup n) → ks.filterMap (fun n=>Option.map (fun x=>(n,x)) (List.lookup n l)) = ks.zip us
  | [],us,l,_,_,_=>rfl
  | k :: ks,u :: us,l,hn,hl,h=>by
    obtain ⟨n1,n2⟩:=List.nodup_cons.mp hn
    rw [List.zip_cons_cons,List.filterMap_cons,h k (List.mem_cons_self ..),List.zip_cons_cons,lookup_self]
    exact congrArg ((k,u) :: ·) (filter_zip n2 (Nat.succ.inj hl) fun n m=>(h n (List.mem_cons_of_mem _ m)).trans (by rw [List.zip_cons_cons,lookup_ne (fun e=>n1 (by rw [← e]; exact m) : n ≠ k)]))
theorem slots_eq {ps : List Str} {vals ds : List Value} (hn : ps.Nodup) (hl : vals.length ≤ ps.length) (hl2 : ps.length ≤ vals.length + ds.length) (hl3 : ds.length ≤ ps.length) :
    ((ps.drop (ps.length - ds.length)).zip ds).foldl (fun s x=>slot1 x s) (ps.zip vals) = ps.zip (vals ++ ds.drop (ds.length + vals.length - ps.length)):=by
  have hm : ps.length - ds.length + (ds.length + vals.length - ps.length) = vals.length:=by omega
  rw [zip_app,fold_F (ds.length + vals.length - ps.length),List.drop_drop,hm]
  · exact fun x hx=>zip_some (m:=vals.length) (by rw [← hm]; rw [List.take_drop] at hx; exact List.mem_of_mem_drop hx) (Nat.le_refl _)
  · rw [List.drop_drop,hm]; exact fun x hx=>zip_none hn hx
  · exact (hn.sublist (List.drop_sublist ..)).sublist (List.drop_sublist ..)
theorem bind_args {M : Model} {A : Around} {E : Value → Shared → Prop} {s : Shared} {fd : FuncData} {vals ds : List Value} {ps : List Str} {Q : SL → Shared → Prop} (h1 : fd.params.posonlyargs = []) (h2 : fd.params.kwonlyargs = []) (h3 : fd.params.vararg = none) (h4 : fd.params.kwarg = none) (h5 : fd.params.args.map (·.arg) = ps)
    (hn : ps.Nodup) (hd : wpAny M A (seqItems? fd.defaults) (fun o s'=>(o.getD #[]).toList = ds ∧ s' = s) E s) (hl : vals.length ≤ ps.length) (hl2 : ps.length ≤ vals.length + ds.length) (hl3 : ds.length ≤ ps.length) (hQ : Q (ps.zip (vals ++ ds.drop (ds.length + vals.length - ps.length))) s) :
    wpAny M A (bindArgs fd ⟨vals,[]⟩) Q E s:=by
  unfold bindArgs
  have hl' : ¬ (vals.length > ps.length):=Nat.not_lt.mpr hl
  simp only [h1,h2,h3,h4,h5,List.map_nil,List.nil_append,List.append_nil,List.forIn_nil,pure_bind,Option.isNone_none,Bool.and_true,decide_eq_true_eq,hl',if_false]
  refine wpAny_bind (wpAny_mono hd (fun o s' p=>?_) fun _ _ x=>x)
  obtain ⟨e,rfl⟩:=p
  rw [e,Nat.sub_eq_zero_of_le hl3,List.drop_zero]
  have hmiss : List.filter (fun n=>(List.lookup n (ps.zip vals)).isNone) (List.take (ps.length - ds.length) ps) = []:=List.filter_eq_nil_iff.mpr fun n hm z=>by
    have:=zip_some (us:=vals) hm (by omega)
    rw [Option.isNone_iff_eq_none] at z
    rw [z] at this; cases this
  rw [hmiss]
  refine wpAny_ite_false (by simp) ?_
  rw [slots_loop (fun x s=>by unfold slot1; split <;> rfl),pure_bind]
  refine wpAny_ite_false (by simp) (wpAny_pure ?_)
  rw [slots_eq hn hl hl2 hl3,filter_zip hn (by rw [List.length_append,List.length_drop]; omega) fun _ _=>rfl]
  exact hQ
section
variable {c : Cx} {G : Pg} {K : Frag} {D n : Nat} {kd : Kd} {V V' : List (Str × AV)} {ρ ix : List Addr} {H H' H1 H2 : Hs} {A : Around} {env : Env} {s : Shared} {x y v f : AV} {u w : Value} {h : Heap} {a : Addr} {fl : Fl} {as fs : List AV} {vals us : List Value}
theorem PS.from {fw : Flow} {s₀ s' : Shared} {ρ₀ : List Addr} (S : Step ρ₀ (Mine.ownOf env) ρ s₀.heap s.heap) (M : Same s₀ s) (q : PS c env kd ρ s fl V H fw s') : PS c env kd ρ₀ s₀ fl V H fw s':=match q with
  | .mk ρ' R RV F S' M'=>.mk ρ' R RV F (S.trans S') (M.trans M')
theorem none_ge {b : Addr} (hb : h.objs.size ≤ b) : h.get? b = none:=match e : h.get? b with
  | .none=>rfl
  | some o=>absurd (Heap.lt_size e) (Nat.not_lt.mpr hb)
theorem bindL_not {ko : Str → Option NameKind} : ∀ {ps : List Str} {us : List Value} {m : Str → Option Value} {x : Str},x ∉ ps → bindL ko (ps.zip us) m x = m x
  | [],us,m,x,h=>rfl
  | p :: ps,[],m,x,h=>rfl
  | p :: ps,u :: us,m,x,h=>(bindL_not (ps:=ps) fun q=>h (List.mem_cons_of_mem _ q)).trans (by
    split
    · exact if_neg fun e : x = p=>h (e ▸ List.mem_cons_self ..)
    · rfl)
theorem bindC_not {ko : Str → Option NameKind} : ∀ {ps : List Str} {us : List Value} {m : Str → Option Value} {x : Str},x ∉ ps → bindC ko (ps.zip us) m x = m x
  | [],us,m,x,h=>rfl
  | p :: ps,[],m,x,h=>rfl
  | p :: ps,u :: us,m,x,h=>(bindC_not (ps:=ps) fun q=>h (List.mem_cons_of_mem _ q)).trans (by
    split
    · rfl
    · exact if_neg fun e : x = p=>h (e ▸ List.mem_cons_self ..))
theorem look_zip {M : List Value → Prop} {p : Str} {ps : List Str} {a : AV} {as : List AV} {z : Str} (hl : look ((p :: ps).zip (a :: as)) z = some v) (hv : c.Vs h ρ (a :: as) us)
    (k1 : ∀ u r,p = z → c.V h ρ v u → M (u :: r)) (k2 : ∀ u r,look (ps.zip as) z = some v → c.Vs h ρ as r → M (u :: r)) : M us:=hv.un fun u r e1 e2=>by
  have hl : iff (seqb p z) (some a) (look (ps.zip as) z) = some v:=hl
  cases q : seqb p z with
  | true=>rw [q] at hl; exact k1 u r (seqb_eq q) (Option.some.inj hl ▸ e1)
  | false=>rw [q] at hl; exact k2 u r hl e2
theorem bindL_look {ko : Str → Option NameKind} {z : Str} : ∀ {ps : List Str} {as : List AV} {us : List Value} {m : Str → Option Value},ps.Nodup → c.Vs h ρ as us → look (ps.zip as) z = some v → ko z = some .local → ∃ u,bindL ko (ps.zip us) m z = some u ∧ c.V h ρ v u
  | [],as,us,m,hn,hv,hl,hk=>by cases as <;> cases hl
  | p :: ps,[],us,m,hn,hv,hl,hk=>nomatch hl
  | p :: ps,a :: as,us,m,hn,hv,hl,hk=>look_zip (M:=fun us=>∃ u,bindL ko ((p :: ps).zip us) m z = some u ∧ c.V h ρ v u) hl hv (fun u r e q=>by
      subst e
      exact ⟨u,(bindL_not (List.nodup_cons.mp hn).1).trans (by rw [if_pos hk]; exact if_pos rfl),q⟩) fun u r hl q=>bindL_look (ps:=ps) (List.nodup_cons.mp hn).2 q hl hk
theorem bindC_look {ko : Str → Option NameKind} {z : Str} : ∀ {ps : List Str} {as : List AV} {us : List Value} {m : Str → Option Value},ps.Nodup → c.Vs h ρ as us → look (ps.zip as) z = some v → ko z ≠ some .local → ∃ u,bindC ko (ps.zip us) m z = some u ∧ c.V h ρ v u
  | [],as,us,m,hn,hv,hl,hk=>by cases as <;> cases hl
  | p :: ps,[],us,m,hn,hv,hl,hk=>nomatch hl
  | p :: ps,a :: as,us,m,hn,hv,hl,hk=>look_zip (M:=fun us=>∃ u,bindC ko ((p :: ps).zip us) m z = some u ∧ c.V h ρ v u) hl hv (fun u r e q=>by
      subst e
      exact ⟨u,(bindC_not (List.nodup_cons.mp hn).1).trans (by rw [if_neg hk]; exact if_pos rfl),q⟩) fun u r hl q=>bindC_look (ps:=ps) (List.nodup_cons.mp hn).2 q hl hk
theorem relV_frame {fd : FuncData} {fn : Fn} {s1 : Shared} (R : RelH c ρ H s.heap) (hk : fd.scope.kind = .function) (hnm : fd.scope.names = fn.kd) (hg : fd.globals = mainGlobals) (hb : fd.builtins = builtinsNs) (hn : fn.ps.Nodup)
    (hc : ∀ n x,fn.kd.lookup x = some .cell → ((cellsFrom n fn.kd []).lookup x).isSome = true) (hf : ∀ x,fn.kd.lookup x ≠ some .free) (hv : c.Vs s.heap ρ as us)
    (x : InCallC s (callEnvC fd s.heap.objs.size a).locals (bindL (callEnvC fd s.heap.objs.size a).kindOf (fn.ps.zip us) fun _=>none) (callEnvC fd s.heap.objs.size a).cells (bindC (callEnvC fd s.heap.objs.size a).kindOf (fn.ps.zip us) fun _=>none) s1) :
    RelV c (callEnvC fd s.heap.objs.size a) fn.kd (fn.ps.zip as) ρ s1.heap:=by
  have hko : ∀ y,(callEnvC fd s.heap.objs.size a).kindOf y = fn.kd.lookup y:=fun y=>congrArg (List.lookup y) hnm
  have hv1 : c.Vs s1.heap ρ as us:=(Step.keeps (X:=noX) x.toInCall.keep).rels R noX_no hv
  refine ⟨hk,hnm,hg,hb,.mk _ x.toInCall.ns fun y v hl hk'=>bindL_look hn hv1 hl ((hko y).trans hk'),R.baseNone (none_size _),R.fresh (none_size _),fun y ca hl=>?_,fun y z ca h1 h2=>name_of_addr x.apart (mem_of_lookup h1) (mem_of_lookup h2),fun y hy=>hy.elim (fun hy=>?_) fun hy=>absurd hy (hf y),fun y v ca hl hy hca=>?_⟩
  · have hlt : s.heap.objs.size < ca:=x.above y ca (mem_of_lookup hl)
    exact .mk _ (R.baseNone (none_ge (Nat.le_of_lt hlt))) (R.fresh (none_ge (Nat.le_of_lt hlt))) (Nat.ne_of_gt hlt) (x.cell y ca hl)
  · show ((cellsFrom (s.heap.objs.size + 1) fd.scope.names []).lookup y).isSome = true
    rw [hnm]; exact hc _ y hy
  · obtain ⟨u,u1,u2⟩:=bindC_look (m:=fun _=>none) hn hv1 hl (ko:=(callEnvC fd s.heap.objs.size a).kindOf) fun e=>by rw [hko] at e; exact hy.elim (fun q=>nomatch e.symm.trans q) fun q=>nomatch e.symm.trans q
    exact .mk u (u1 ▸ x.cell y ca hca) u2
theorem tp_bindP {ps : List Str} {ds as : List AV} {γ : Type} {k : Vs → Option γ} {T : γ → Prop} (K : as.length ≤ ps.length → ps.length ≤ as.length + ds.length → TP (k (ps.zip (as ++ ds.drop (ds.length + as.length - ps.length)))) T) : TP (bn1 (bindP ps ds as) k) T:=by
  unfold bindP
  cases e : Nat.ble as.length ps.length with
  | false=>exact tp_none
  | true=>cases f : Nat.ble ps.length (as.length + ds.length) with
    | false=>exact tp_none
    | true=>exact K (Nat.le_of_ble_eq_true e) (Nat.le_of_ble_eq_true f)
inductive DefsR (c : Cx) (h : Heap) (ρ : List Addr) (ds : List AV) (v : Value) : Prop
  | mk (us : List Value) (hv : c.Vs h ρ ds us) (go : ∀ (M : Model) (A : Around) (E : Value → Shared → Prop) (s : Shared),s.heap = h → wpAny M A (seqItems? v) (fun o s'=>(o.getD #[]).toList = us ∧ s' = s) E s)
theorem defs_of {ds : List AV} {v : Value} (R : RelH c ρ H h) (d : DefR c ds v) : DefsR c h ρ ds v:=match d with
  | .none e q=>by subst e q; exact .mk [] .nil fun M A E s _=>wpAny_pure ⟨rfl,rfl⟩
  | .some T us e ht hv=>by
    subst e
    obtain ⟨ot,e1,e2,z,e3⟩:=ht
    exact .mk us (base_rels R hv) fun M A E s q=>wpAny_seqItems (q ▸ R.keep _ _ e1) e3 ⟨rfl,rfl⟩
noncomputable def flV (fl : Fl) : AV:=match fl with | .ret v=>v | .next=>.none
theorem tc_fn (Bs : Base c K G D) {fn : Fn} (hf : G.fn a = some fn) (b1 : as.length ≤ fn.ps.length) (b2 : fn.ps.length ≤ as.length + fn.ds.length) (T : ∀ body,okSs G fn.bd fn.kd body = true → TSs c n fn.kd body (fn.ps.zip (as ++ fn.ds.drop (fn.ds.length + as.length - fn.ps.length))) H fl V' H') : TC c (n + 1) (.fn a) as H (flV fl) H':=by
  intro A ρ s fv vals ak R hu hv
  obtain rfl : fv = .ref a:=hu
  have F:=Bs.fn a fn hf
  obtain ⟨o,fd,body,ho,hdata,hbody,hok,hnames,hkind,hgen,hco,hclo,hglob,hblt,hcode,p1,p2,p3,p4,p5,hdef⟩:=F.ex
  obtain ⟨c',oc,vs,tq,hc,hoc,r⟩:=hcode
  obtain ⟨dus,hdus,hds⟩:=defs_of R hdef
  have hl:=hv.len
  have hdl:=hdus.len
  rw [hl] at b1
  rw [hl,hdl] at b2
  have hall:=hv.app (hdus.drop (fn.ds.length + as.length - fn.ps.length))
  rw [hdl,hl] at hall
  rw [hdl,hl] at T
  refine codeAny_call_function ak.room (R.keep _ _ ho) hdata hco hgen hbody ⟨c',oc,vs,tq,hc,R.keep _ _ hoc,r⟩ (bind_args p1 p2 p3 p4 p5 F.nodup (hds _ _ _ _ rfl) b1 b2 (hdl ▸ F.len) ?_)
  rw [hclo]
  refine wpAny_newFunctionEnv_cells hkind (fun z hz=>by
    rw [hnames]
    exact (F.kinds _ (List.of_mem_zip hz).1).imp id fun q=>⟨q,F.cells _ _ q⟩) fun env he s1 x=>?_
  subst he
  have x : InCallC s (callEnvC fd s.heap.objs.size a).locals (bindL (callEnvC fd s.heap.objs.size a).kindOf (fn.ps.zip (vals ++ dus.drop (dus.length + vals.length - fn.ps.length))) fun _=>none) (callEnvC fd s.heap.objs.size a).cells (bindC (callEnvC fd s.heap.objs.size a).kindOf (fn.ps.zip (vals ++ dus.drop (dus.length + vals.length - fn.ps.length))) fun _=>none) s1:=x
  refine ⟨(Bs.lim.keeps R.keep).keeps x.toInCall.keep,codeAny_func (wpAny_mono (T body hok (A.deeper (callEnvC fd s.heap.objs.size a)) (callEnvC fd s.heap.objs.size a) ρ s1 ⟨ak.deeper _,R.keeps x.toInCall.keep,relV_frame R hkind hnames hglob hblt F.nodup F.cells F.free hall x⟩) (fun fw s2 p=>?_) fun _ _ x=>x.elim)⟩
  obtain ⟨ρ2,R2,RV2,F2,S2,M2⟩:=p
  have old : ∀ b o,s.heap.get? b = some o → ¬ Mine.ownOf (callEnvC fd s.heap.objs.size a) b:=fun b o eb hb=>hb.elim (fun hb=>absurd (Heap.lt_size eb) (by rw [hb]; exact Nat.lt_irrefl _)) fun hb=>hb.elim fun y hy=>absurd (Heap.lt_size eb) (Nat.not_lt.mpr (Nat.le_of_lt (x.above y b (mem_of_lookup hy))))
  have W : Aft ρ s ρ2 s2:=⟨⟨fun b o eb nb _=>S2.keep b o (x.toInCall.keep b o eb) nb (old b o eb),match S2.pre with | .mk t e ht=>.mk t e fun b m=>(Step.keeps (ρ:=ρ) (X:=noX) x.toInCall.keep).none (ht b m),fun b o eb=>S2.live b o (x.toInCall.keep b o eb)⟩,by obtain ⟨h',tk,e⟩:=x.toInCall.same; subst e; exact ⟨M2.1,M2.2,M2.3⟩⟩
  cases fl with
  | next=>obtain rfl : fw = .next:=F2; exact .mk _ rfl (.mk ρ2 R2 v_none W)
  | ret v=>obtain ⟨u,hu⟩:=F2; exact .mk u rfl (.mk ρ2 R2 hu W)
end
section
variable {c : Cx} {G : Pg} {K : Frag} {D n m : Nat} {kd : Kd} {V V' : List (Str × AV)} {ρ ix t : List Addr} {H H' H1 H2 : Hs} {A : Around} {env : Env} {s : Shared} {x y v f : AV} {u w : Value} {h : Heap} {a C : Addr} {fl : Fl} {as fs vs : List AV} {vals us : List Value} {o : AO}
theorem frames_le (C : Addr) (vals : List Value) : (Code.builtin "type.__call__" ⟨.ref C :: vals,[]⟩).frames ≤ 5:=Nat.le_of_ble_eq_true (by kernel_rfl)
theorem AOk.under (a : AOk A (n + 1)) (C : Addr) (vals : List Value) : AOk (A.under (.builtin "type.__call__" ⟨.ref C :: vals,[]⟩)) n:=
  ⟨a.hd,by have:=a.depth; rw [depth_under_kw]; omega,by
    have:=a.units
    have z:=frames_le C vals
    show A.units + (1 + 3 * (Code.builtin "type.__call__" ⟨.ref C :: vals,[]⟩).frames) + _ + _ < _
    omega⟩
theorem emptyNs (h : Heap) : NsR c (h.push emptyDict) ρ [] [] h.objs.size:=.mk (fun _=>none) [] (Heap.Ns1.of_empty ⟨_,#[],0,Heap.get?_push_size _ rfl,rfl,fun _ he=>(Array.not_mem_empty _ he).elim,fun _=>rfl⟩) rfl (fun _=>rfl) .nil
inductive NewI (c : Cx) (C : Addr) (ρ : List Addr) (H : Hs) (h : Heap) (h2 : Heap) : Prop
  | mk (ρ' : List Addr) (R : RelH c ρ' (snoc (snoc H (.ns [] [])) (.inst C (hlen H))) h2) (S : Step ρ noX ρ' h h2) (e : hget ρ' (hlen H + 1) = some (h.objs.size + 1)) : NewI c C ρ H h h2
theorem newI (R : RelH c ρ H h) : NewI c C ρ H h ((h.push emptyDict).push (instObj C h.objs.size)):=by
  have R1 : RelH c (ρ ++ [h.objs.size]) (snoc H (.ns [] [])) (h.push emptyDict):=R.add (push_keep _) (none_size _) (Heap.get?_push_size _ rfl) (notTup_cls (Heap.get?_push_size _ rfl) (by simp)) (emptyNs h)
  have sz : (h.push emptyDict).objs.size = h.objs.size + 1:=Heap.size_push ..
  have gx : ((h.push emptyDict).push (instObj C h.objs.size)).get? (h.objs.size + 1) = some (instObj C h.objs.size):=by rw [← sz]; exact Heap.get?_push_size _ rfl
  have nn : (h.push emptyDict).get? (h.objs.size + 1) = none:=by rw [← sz]; exact none_size _
  have hl : hlen H = ρ.length:=by rw [hlen_eq,R.len]
  exact .mk _ (R1.add (push_keep _) nn gx (notTup_cls gx (by simp)) (.mk h.objs.size gx (by rw [hl]; exact hget_app (hget_last ..)))) ((Step.add (push_keep _) (none_size _)).trans (Step.add (push_keep _) nn)) (by
    rw [hl]
    have:=hget_last (ρ ++ [h.objs.size]) (h.objs.size + 1)
    rw [List.length_append] at this
    exact this)
theorem tc_cl (Bs : Base c K G D) {l : Cl} (hl : G.cl C = some l) (T : TC c n (.fn l.init) (.loc (hlen H + 1) :: as) (snoc (snoc H (.ns [] [])) (.inst C (hlen H))) .none H1) : TC c (n + 1) (.fn C) as H (.loc (hlen H + 1)) H1:=by
  intro A ρ s fv vals ak R hu hv
  obtain rfl : fv = .ref C:=hu
  have P:=cl_parts (Bs.cl C l hl)
  obtain ⟨ρ2,R2,S,e2⟩:=newI (C:=C) R
  have hv2:=S.rels R noX_no hv
  have X:=Bs.kin' R
  obtain ⟨hh,g,d,t,os⟩:=s
  refine make_core (makes_of X P.mks) (looks_findIn X P.init) (fun self=>bind_fn X self P.ifn) (.inl rfl) (codeAny_mono (T (A.under (.builtin "type.__call__" ⟨.ref C :: vals,[]⟩)) _ ⟨(hh.push emptyDict).push (instObj C hh.objs.size),g,d,t,os⟩ (.ref l.init) (.ref (hh.objs.size + 1) :: vals) (ak.under C vals) R2 v_fn (.cons (v_loc e2) hv2)) fun r s' p=>?_)
  obtain ⟨u,rfl,ρ3,R3,V3,W3⟩:=p
  exact ⟨V3,.mk _ rfl (.mk ρ3 R3 (v_loc (W3.S.get e2)) ⟨S.trans W3.S,W3.M.1,W3.M.2,W3.M.3⟩)⟩
theorem low_ok : ∀ v : AV,low ρ.length v = true → ∀ u,c.V h (ρ ++ t) v u → c.V h ρ v u:=
  AV.rec (motive_1:=fun v=>low ρ.length v = true → ∀ u,c.V h (ρ ++ t) v u → c.V h ρ v u) (motive_2:=fun vs=>low ρ.length (.tup vs) = true → ∀ us,c.Vs h (ρ ++ t) vs us → c.Vs h ρ vs us)
    (fun _ _ e=>e) (fun _ _ e=>e) (fun _ _ _ e=>e) (fun _ _ _ e=>e) (fun _ _ _ e=>e) (fun _ _ _ e=>e)
    (fun vs ih l u e=>match u,(show TupR h (c.Vs h (ρ ++ t) vs) u from e) with | _,.mk a us ht q=>TupR.mk a us ht (ih l us q))
    (fun i l u e=>match u,(show LocR (ρ ++ t) i u from e) with | _,.mk a q=>LocR.mk a (hget_old q (Nat.blt_eq.mp l)))
    (fun _ _ _ e=>e) (fun _ _ _ e=>e) (fun _ _ _ e=>e) (fun _ _ e=>e)
    (fun v vs i1 i2 l us e=>Cx.Vs.un e (M:=fun us=>c.Vs h ρ (v :: vs) us) fun u r e1 e2=>by
      have l : (match low ρ.length v with | true=>low ρ.length (.tup vs) | false=>false) = true:=l
      cases q : low ρ.length v with
      | true=>rw [q] at l; exact .cons (i1 q u e1) (i2 l r e2)
      | false=>rw [q] at l; cases l)
theorem lowL_ok : ∀ {vs : List AV} {us : List Value},lowL ρ.length vs = true → c.Vs h (ρ ++ t) vs us → c.Vs h ρ vs us
  | [],us,_,e=>e
  | v :: vs,us,l,e=>Cx.Vs.un e (M:=fun us=>c.Vs h ρ (v :: vs) us) fun u r e1 e2=>by
    have l : (match low ρ.length v with | true=>lowL ρ.length vs | false=>false) = true:=l
    cases q : low ρ.length v with
    | true=>rw [q] at l; exact .cons (low_ok v q u e1) (lowL_ok l e2)
    | false=>rw [q] at l; cases l
theorem rev_iff {vs : List AV} {us : List Value} (e : c.Vs h ρ vs.reverse us) : c.Vs h ρ vs us.reverse:=by have:=e.rev; rwa [List.reverse_reverse] at this
theorem lowO_ok (l : lowO ρ.length o = true) (r : ORel c h (ρ ++ t) (ρ ++ t) o a) : ORel c h ρ ρ o a:=match o,r with
  | .list k q,.mk us h1 h2 h3=>.mk us h1 h2 (by have:=(lowL_ok l (rev_iff h3)).rev; rwa [List.reverse_reverse] at this)
  | .dict ks vs,.mk us h0 h1 h2 h3=>.mk us h0 h1 h2 (lowL_ok l h3)
  | .ns ks vs,.mk mm us h1 h2 h3 h4=>.mk mm us h1 h2 h3 (lowL_ok l h4)
  | .inst C d,.mk dx h1 h2=>.mk dx h1 (hget_old h2 (Nat.blt_eq.mp l))
  | .gone,_=>trivial
structure CutR (m k : Nat) (H H' : Hs) : Prop where
  len : H'.length = k
  get : ∀ i o,hget H' i = some o → hget H i = some o ∧ lowO m o = true
theorem cut_ok : ∀ (k : Nat) (H : Hs),TP (cutH m k H) (CutR m k H)
  | 0,H=>tp_some ⟨rfl,fun i o e=>(hget_no e).elim⟩
  | k + 1,[]=>tp_none
  | k + 1,o :: r=>tp_grd fun q=>tp_bn1 (cut_ok k r) fun r' C=>tp_some ⟨congrArg (· + 1) C.len,fun i x e=>match i,e with
    | 0,e=>⟨e,Option.some.inj e ▸ q⟩
    | i + 1,e=>C.get i x e⟩
theorem tc_cut (T : TC c n f as H v H1) (l : low (hlen H) v = true) (q : CutR (hlen H) (hlen H) H1 H2) : TC c n f as H v H2:=fun A ρ s u vals ak R hu hv=>codeAny_mono (T A ρ s u vals ak R hu hv) fun r s' p=>by
  have hl : hlen H = ρ.length:=by rw [hlen_eq,R.len]
  rw [hl] at l q
  obtain ⟨w,e,ρ',R',V',⟨S',M'⟩⟩:=p
  obtain ⟨t,rfl,ht⟩:=S'.pre
  exact .mk w e (.mk ρ ⟨R'.keep,q.len.symm,(List.nodup_append.mp R'.nodup).1,fun a m=>R'.new a (List.mem_append.mpr (.inl m)),fun i a o ea eo=>lowO_ok (q.get i o eo).2 (R'.obj i a o (hget_app ea) (q.get i o eo).1)⟩ (low_ok v l w V') ⟨⟨S'.keep,.refl,S'.live⟩,M'⟩)
theorem tc_gc (T : TC c n f as H v H1) : TP (gcR (hlen H) v H1) (fun p=>TC c n f as H p.1 p.2):=by
  unfold gcR
  cases l : low (hlen H) v with
  | false=>exact tp_some T
  | true=>
    dsimp only
    cases e : cutH (hlen H) (hlen H) H1 with
    | none=>exact tp_some T
    | some H2=>exact tp_some (tc_cut T l (cut_ok _ _ H2 e))
theorem tp_bn3 {γ : Type} {o : Option (Fl × Vs × Hs)} {k : Vs → Hs → Option γ} {r : AV → Vs → Hs → Option γ} {U : Fl → Vs → Hs → Prop} {T : γ → Prop} (h : TP o fun p=>U p.1 p.2.1 p.2.2) (K : ∀ V H,U .next V H → TP (k V H) T) (L : ∀ v V H,U (.ret v) V H → TP (r v V H) T) : TP (bn3 o k r) T:=match o,h with
  | some (.next,V,H),h=>K V H (h _ rfl)
  | some (.ret v,V,H),h=>L v V H (h _ rfl)
  | none,_=>tp_none
def XOk (c : Cx) (G : Pg) (n : Nat) (R : Rec) : Prop:=∀ cs kd ts V H,okSs G cs kd ts = true → TP (exDs G R cs V H) fun p=>TSs c n kd ts V H p.1 p.2.1 p.2.2
def BiOk (c : Cx) (G : Pg) : Prop:=∀ n b as H (A : Around) (ρ : List Addr) (s : Shared) (vals : List Value),AOk A n → RelH c ρ H s.heap → c.Vs s.heap ρ as vals → TP (biCall b G.F as H) (BR c A ρ s (biVal b) vals)
theorem cf_ok (Bs : Base c K G D) {R : Rec} (X : XOk c G n R) {fn : Fn} (hf : G.fn a = some fn) : TP (callF G R fn as H) fun p=>TC c (n + 1) (.fn a) as H p.1 p.2:=
  tp_bindP fun b1 b2=>tp_bn3 (U:=fun fl V' H'=>∀ body,okSs G fn.bd fn.kd body = true → TSs c n fn.kd body (fn.ps.zip (as ++ fn.ds.drop (fn.ds.length + as.length - fn.ps.length))) H fl V' H') (fun p e body ok=>X fn.bd fn.kd body _ H ok p e)
    (fun V1 H1 T=>tc_gc (tc_fn Bs hf b1 b2 T)) fun v V1 H1 T=>tc_gc (tc_fn Bs hf b1 b2 T)
theorem inst_ok (Bs : Base c K G D) {call : AV → List AV → Hs → Option (AV × Hs)} (CO : CaOk c K n call) {l : Cl} (hl : G.cl C = some l) : TP (mkInst C l.init call as H) fun p=>TC c (n + 1) (.fn C) as H p.1 p.2:=
  tp_bnd (CO _ _ _) fun v H1 q=>match v,q with
    | .none,.fn a e _ T=>tp_some (tc_cl Bs hl (by
      obtain rfl:=(congrArg unF e : l.init = a)
      exact T))
    | .none,.bi _ e _=>nomatch e
    | .bool _,_ | .any,_ | .tup _,_ | .int _,_ | .sym _,_ | .str _,_ | .loc _,_ | .bs _,_ | .fn _,_ | .bi _,_=>tp_none
theorem cn_ok (Bs : Base c K G D) {R : Rec} (X : XOk c G n R) (CO : CaOk c K n R.call) : TP (callN G R a as H) (CaR c K (n + 1) (.fn a) as H):=by
  unfold callN
  cases hf : G.fn a with
  | some fn=>exact tp_mono (cf_ok Bs X hf) fun p T=>.fn a rfl (Bs.kp a (.inr (.inl (by rw [hf]; rfl)))) T
  | none=>exact tp_bn1 tp_eq fun l hl=>tp_mono (inst_ok Bs CO hl) fun p T=>.fn a rfl (Bs.kp a (.inr (.inr (by rw [hl]; rfl)))) T
theorem ca_step (Bs : Base c K G D) {R : Rec} (BO : BiOk c G) (X : XOk c G n R) (CO : CaOk c K n R.call) (hD : D ≤ n + 1) : CaOk c K (n + 1) (callS G R):=by
  intro f as H
  cases f with
  | fn a=>
    show TP (match G.ov a with | some g=>(match g as H with | some r=>some r | none=>callN G R a as H) | none=>callN G R a as H) _
    cases hg : G.ov a with
    | none=>exact cn_ok Bs X CO
    | some g=>
      dsimp only
      cases e : g as H with
      | none=>exact cn_ok Bs X CO
      | some r=>exact tp_some (.fn a rfl (Bs.kp a (.inl (by rw [hg]; rfl))) (TC.le (Bs.ov a g hg as H r.1 r.2 e) hD))
  | bi b=>exact fun p e=>.bi b rfl fun A ρ s vals ak R hv=>BO _ b as H A ρ s vals ak R hv p e
  | none=>exact tp_none
  | any=>exact tp_none
  | bool _=>exact tp_none
  | int _=>exact tp_none
  | str _=>exact tp_none
  | sym _=>exact tp_none
  | loc _=>exact tp_none
  | bs _=>exact tp_none
  | tup _=>exact tp_none
end
section
variable {c : Cx} {G : Pg} {K : Frag} {D n m : Nat} {kd : Kd} {V V' : List (Str × AV)} {ρ ρ' ix t : List Addr} {H H' H1 H2 : Hs} {A : Around} {env : Env} {s s' s₀ : Shared} {x y v f : AV} {u w : Value} {h h' : Heap} {a C : Addr} {as fs vs : List AV} {vals us : List Value} {X Y : Addr → Prop} {E : Value → Shared → Prop} {z : Str} {tg : TG} {e : Expr} {ck : Bool}
structure But (a : Addr) (h h' : Heap) : Prop where
  no : ∀ us,¬ h.IsTuple a us
  keep : ∀ b x,b ≠ a → h.get? b = some x → h'.get? b = some x
theorem But.tup (B : But a h h') : ∀ b us,h.IsTuple b us → h'.IsTuple b us:=fun b us t=>tup_keep (fun o=>B.keep b o fun e=>B.no us (e ▸ t)) t
theorem But.rel (B : But a h h') {v : AV} {u : Value} (e : c.V h ρ v u) : c.V h' ρ v u:=Cx.V.mono B.tup (fun _ _ e=>e) e
theorem RelH.but (R : RelH c ρ H h) (B : But a h h') (hB : c.B.get? a = none) (hρ : a ∉ ρ) : RelH c ρ H h':=R.others (P:=(· = a)) (fun b e=>e ▸ ⟨B.no,hB,hρ⟩) B.keep
theorem Step.but (B : But a h h') (hX : X a) (ha : ∃ o,h'.get? a = some o) : Step ρ X ρ h h':=
  ⟨fun b o e _ x=>B.keep b o (fun z=>x (z ▸ hX)) e,.refl,fun b o e=>if hb : b = a then hb ▸ ha else ⟨o,B.keep b o hb e⟩⟩
def locX (env : Env) : Addr → Prop:=fun a=>a = env.locals
theorem Step.own (S : Step ρ (locX env) ρ' h h') : Step ρ (Mine.ownOf env) ρ' h h':=S.weak fun _ _ _ x=>.inl x
structure AsP (c : Cx) (X : Addr → Prop) (env : Env) (kd : Kd) (ρ : List Addr) (H : Hs) (V' : Vs) (s s' : Shared) : Prop where
  R : RelH c ρ H s'.heap
  RV : RelV c env kd V' ρ s'.heap
  S : Step ρ X ρ s.heap s'.heap
  M : Same s s'
theorem AsP.cell (p : AsP c (locX env) env kd ρ H V' s s') : AsP c (Mine.ownOf env) env kd ρ H V' s s':=⟨p.R,p.RV,p.S.own,p.M⟩
theorem AsP.from (S : Step ρ X ρ s₀.heap s.heap) (M : Same s₀ s) (p : AsP c X env kd ρ H V' s s') : AsP c X env kd ρ H V' s₀ s':=⟨p.R,p.RV,S.trans p.S,M.trans p.M⟩
theorem fnScope (h : env.scope.kind = .function) : (env.scope.kind == .class || (env.scope.kind == .module && env.locals != env.globals)) = false:=by rw [h]; rfl
theorem look_put_el {x y : Str} {w : AV} {P : Prop} (e : look (put V x v) y = some w) (k1 : x = y → v = w → P) (k2 : x ≠ y → look V y = some w → P) : P:=by
  rw [look_put] at e
  by_cases q : x = y
  · rw [if_pos q] at e; exact k1 q (Option.some.inj e)
  · rw [if_neg q] at e; exact k2 q e
theorem store_local (R : RelH c ρ H s.heap) (RV : RelV c env kd V ρ s.heap) {x : Str} (hk : kd.lookup x = some .local) (hu : c.V s.heap ρ v u) :
    wpAny (model c.prog c.w) A (storeName env x u) (fun _ s'=>AsP c (locX env) env kd ρ H (put V x v) s s') E s:=match RV.loc with
  | .mk m hn hv=>by
    refine wpAny_storeName_local ((RV.kindOf x).trans hk) hn (fun h' hn' hs=>?_) (fnScope RV.kind)
    have B : But env.locals s.heap h':=⟨ns_notTup hn,fun b y nb e=>(hs.2 b nb).trans e⟩
    refine ⟨R.but B RV.locNew RV.locρ,⟨RV.kind,RV.names,RV.glob,RV.blt,.mk _ hn' fun y w hl hk'=>look_put_el hl (fun q e=>⟨u,if_pos q.symm,B.rel (e ▸ hu)⟩) fun q hl=>(hv y w hl hk').elim fun z z'=>⟨z,(if_neg fun e=>q e.symm).trans z'.1,B.rel z'.2⟩,RV.locNew,RV.locρ,
      fun y a hc=>match RV.cells y a hc with | .mk v0 hB hρ hL hcell=>.mk v0 hB hρ hL (hcell.sameBut hs hL),RV.apart,RV.has,
      fun y w a hl hk' hc=>look_put_el hl (fun q _=>by subst q; rw [hk] at hk'; exact hk'.elim (fun e=>nomatch e) fun e=>nomatch e) fun q hl=>match RV.cvar y w a hl hk' hc,RV.cells y a hc with | .mk z z1 z2,.mk _ _ _ hL _=>.mk z (z1.sameBut hs hL) (B.rel z2)⟩,?_,⟨rfl,rfl,rfl⟩⟩
    obtain ⟨o,_,_,eo,_⟩:=hn'
    exact .but B rfl ⟨o,eo⟩
theorem store_cell (R : RelH c ρ H s.heap) (RV : RelV c env kd V ρ s.heap) {x : Str} (hk : kd.lookup x = some .cell) (hu : c.V s.heap ρ v u) :
    wpAny (model c.prog c.w) A (storeName env x u) (fun _ s'=>AsP c (Mine.ownOf env) env kd ρ H (put V x v) s s') E s:=match RV.loc with
  | .mk m hn hv=>(Option.isSome_iff_exists.mp (RV.has x (.inl hk))).elim fun ca hca=>match RV.cells x ca hca with
    | .mk v0 c1 c2 c3 c4=>by
      refine wpAny_storeName_cell RV.kind ((RV.kindOf x).trans hk) hca c4 fun h' hn' hs=>?_
      have B : But ca s.heap h':=⟨cell_notTup c4,fun b y nb e=>(hs.2 b nb).trans e⟩
      refine ⟨R.but B c1 c2,⟨RV.kind,RV.names,RV.glob,RV.blt,.mk m (hn.sameBut hs (Ne.symm c3)) fun y w hl hk'=>look_put_el hl (fun q _=>by subst q; rw [hk] at hk'; cases hk') fun q hl=>(hv y w hl hk').elim fun z z'=>⟨z,z'.1,B.rel z'.2⟩,RV.locNew,RV.locρ,
        fun y a hc=>match RV.cells y a hc with | .mk v1 hB hρ hL hcell=>if q : a = ca then .mk _ hB hρ hL (q ▸ hn') else .mk v1 hB hρ hL (hcell.sameBut hs q),RV.apart,RV.has,
        fun y w a hl hk' hc=>look_put_el hl (fun q e=>.mk u (by subst q; rw [Option.some.inj (hc.symm.trans hca)]; exact hn') (B.rel (e ▸ hu))) fun q hl=>match RV.cvar y w a hl hk' hc with | .mk z z1 z2=>.mk z (z1.sameBut hs fun e=>q (RV.apart x y a (e ▸ hca) hc)) (B.rel z2)⟩,?_,⟨rfl,rfl,rfl⟩⟩
      obtain ⟨o,eo,_⟩:=hn'
      exact .but B (.inr ⟨x,hca⟩) ⟨o,eo⟩
def XC (ck : Bool) (env : Env) : Addr → Prop:=match ck with | true=>Mine.ownOf env | false=>locX env
theorem xc_own {ck : Bool} {a : Addr} (h : XC ck env a) : Mine.ownOf env a:=match ck,h with | true,h=>h | false,h=>.inl h
theorem Step.xown {ck : Bool} (S : Step ρ (XC ck env) ρ' h h') : Step ρ (Mine.ownOf env) ρ' h h':=S.weak fun _ _ _ x=>xc_own x
theorem notX_tup {ck : Bool} (R : RelV c env kd V ρ h) : ∀ a us,h.IsTuple a us → ¬ XC ck env a:=fun _ _ t x=>R.notOwn t (xc_own x)
theorem store_any {ck : Bool} (R : RelH c ρ H s.heap) (RV : RelV c env kd V ρ s.heap) {x : Str} (hk : kC ck kd x = true) (hu : c.V s.heap ρ v u) :
    wpAny (model c.prog c.w) A (storeName env x u) (fun _ s'=>AsP c (XC ck env) env kd ρ H (put V x v) s s') E s:=match ck,hk with
  | false,hk=>store_local R RV (kI_eq hk) hu
  | true,hk=>((Bool.or_eq_true ..).mp hk).elim (fun k=>wpAny_mono (store_local R RV (kI_eq k) hu) (fun _ _ q=>q.cell) fun _ _ x=>x) fun k=>store_cell R RV (kI_eq k) hu
theorem assign_name (R : RelH c ρ H s.heap) (RV : RelV c env kd V ρ s.heap) {x : Str} (ho : xName e (fun y _=>b2 (seqb x y) (kC ck kd y)) = true) (hu : c.V s.heap ρ v u) :
    wpAny (model c.prog c.w) A (assign e env u) (fun _ s'=>AsP c (XC ck env) env kd ρ H (put V x v) s s') E s:=
  xName_el (M:=fun e=>wpAny (model c.prog c.w) A (assign e env u) (fun _ s'=>AsP c (XC ck env) env kd ρ H (put V x v) s s') E s) ho fun y p h=>b2_el h fun h1 h2=>by
    obtain rfl:=seqb_eq h1
    exact wpAny_assign_Name (store_any R RV h2 hu)
theorem okTp_cons {xs : List Str} {x : Str} {es : List Expr} {M : List Expr → Prop} (h : okTp ck kd (x :: xs) es = true) (k : ∀ e es,xName e (fun y _=>b2 (seqb x y) (kC ck kd y)) = true → okTp ck kd xs es = true → M (e :: es)) : M es:=match es,h with
  | e :: es,h=>b2_el h fun a b=>k e es a b
def AsA (ck : Bool) (c : Cx) (A : Around) (env : Env) (kd : Kd) (ρ : List Addr) (H : Hs) (E : Value → Shared → Prop) (us : List Value) (s : Shared) (es : List Expr) (V' : Vs) : Prop:=wpAny (model c.prog c.w) A (assignInOrder ((assignEach es env).map (·.2)) us) (fun _ s'=>AsP c (XC ck env) env kd ρ H V' s s') E s
theorem assign_all : ∀ {xs : List Str} {es : List Expr} {V : Vs} {vs : List AV} {us : List Value} {s : Shared},okTp ck kd xs es = true → RelH c ρ H s.heap → RelV c env kd V ρ s.heap → c.Vs s.heap ρ vs us → TP (putAll xs V vs) (AsA ck c A env kd ρ H E us s es)
  | [],es,V,vs,us,s,ho,R,RV,hu=>l0_el (M:=fun es=>TP (as0 vs (some V)) (AsA ck c A env kd ρ H E us s es)) ho (tp_as0 (T:=fun us=>AsA ck c A env kd ρ H E us s []) hu (tp_some (wpAny_pure ⟨R,RV,.refl,.refl s⟩)))
  | x :: xs,es,V,[],us,s,ho,R,RV,hu=>tp_none
  | x :: xs,es,V,v :: vs,us,s,ho,R,RV,hu=>okTp_cons (M:=fun es=>TP (putAll xs (put V x v) vs) (AsA ck c A env kd ρ H E us s es)) ho fun e es h1 h2=>hu.un (M:=fun us=>TP (putAll xs (put V x v) vs) (AsA ck c A env kd ρ H E us s (e :: es))) fun u r e1 e2=>fun V' hV=>
      xName_el (M:=fun e=>AsA ck c A env kd ρ H E (u :: r) s (e :: es) V') h1 fun y p h1=>wpAny_bind (wpAny_holding (wpAny_mono (assign_name (e:=.Name y p) R RV h1 e1) (fun _ s1 p=>wpAny_mono (assign_all h2 p.R p.RV (p.S.rels R (notX_tup RV) e2) V' hV) (fun _ _ q=>q.from p.S p.M) fun _ _ x=>x) fun _ _ x=>x))
theorem each_len : ∀ {xs : List Str} {es : List Expr},okTp ck kd xs es = true → (assignEach es env).length = xs.length ∧ List.findIdx? (fun x=>x.1) (assignEach es env) = none
  | [],es,h=>l0_el (M:=fun es=>(assignEach es env).length = 0 ∧ List.findIdx? (fun x=>x.1) (assignEach es env) = none) h ⟨rfl,rfl⟩
  | x :: xs,es,h=>okTp_cons (M:=fun es=>(assignEach es env).length = xs.length + 1 ∧ List.findIdx? (fun x=>x.1) (assignEach es env) = none) h fun e es h1 h2=>xName_el (M:=fun e=>(assignEach (e :: es) env).length = xs.length + 1 ∧ List.findIdx? (fun x=>x.1) (assignEach (e :: es) env) = none) h1 fun y p _=>by
    obtain ⟨i1,i2⟩:=each_len h2
    refine ⟨congrArg (· + 1) i1,?_⟩
    show List.findIdx? (fun x=>x.1) ((false,assign (.Name y p) env) :: assignEach es env) = none
    rw [List.findIdx?_cons,i2]; rfl
theorem putAll_len : ∀ {xs : List Str} {vs : List AV} {V V' : Vs},putAll xs V vs = some V' → xs.length = vs.length
  | [],[],_,_,_=>rfl
  | x :: xs,v :: vs,V,V',h=>congrArg (· + 1) (putAll_len (xs:=xs) (vs:=vs) h)
theorem RelV.keeps (RH : RelH c ρ H h) (R : RelV c env kd V ρ h) (hk : ∀ a o,h.get? a = some o → h'.get? a = some o) : RelV c env kd V ρ h':=R.step RH (.keeps hk)
def BindP (ck : Bool) (c : Cx) (A : Around) (env : Env) (kd : Kd) (ρ : List Addr) (H : Hs) (E : Value → Shared → Prop) (s : Shared) (e : Expr) (u : Value) (V' : Vs) : Prop:=wpAny (model c.prog c.w) A (assign e env u) (fun _ s'=>AsP c (XC ck env) env kd ρ H V' s s') E s
theorem assign_tup (hh : A.handled = none) (R : RelH c ρ H s.heap) (RV : RelV c env kd V ρ s.heap) {xs : List Str} {es : List Expr} {k : Nat} {pos : Pos} (ho : okTp ck kd xs es = true) (ht : s.heap.IsTuple a us.toArray) (hv : c.Vs s.heap ρ vs us) : TP (putAll xs V vs) (BindP ck c A env kd ρ H E s (.Tuple es k pos) (.ref a)):=fun V' hV=>by
  obtain ⟨l1,l2⟩:=each_len (env:=env) ho
  refine wpAny_assign_Tuple hh ht (by rw [l1,putAll_len hV,hv.len,List.size_toArray]) l2 fun h' he=>?_
  have hk : ∀ b o,s.heap.get? b = some o → h'.get? b = some o:=fun b o e=>he b o (fun q=>by rw [q,none_size] at e; cases e) e
  have S1 : Step ρ (XC ck env) ρ s.heap h':=.keeps hk
  exact wpAny_mono (assign_all (s:={ s with heap:=h' }) ho (R.keeps hk) (RV.keeps R hk) (S1.rels R (notX_tup RV) hv) V' hV) (fun _ s2 q=>q.from (s:={ s with heap:=h' }) S1 ⟨rfl,rfl,rfl⟩) fun _ _ x=>x
theorem bindT_ok (hh : A.handled = none) (R : RelH c ρ H s.heap) (RV : RelV c env kd V ρ s.heap) (ho : okTG ck kd tg e = true) (hu : c.V s.heap ρ v u) : TP (bindT tg v V) (BindP ck c A env kd ρ H E s e u):=match tg,ho with
  | .nm x,ho=>tp_some (assign_name R RV ho hu)
  | .tp xs,ho=>xTuple_el (M:=fun e=>TP (asTup v fun vs=>putAll xs V vs) (BindP ck c A env kd ρ H E s e u)) ho fun es k p ho=>tp_tup (T:=fun u=>BindP ck c A env kd ρ H E s (.Tuple es k p) u) hu fun vs a us _ ht hv=>assign_tup hh R RV ho ht hv
end
section
variable {prog : Program} {w : World} {A : Around} {E : Value → Shared → Prop} {s : Shared}
theorem nextOf_tuple_end {it l : Addr} {i : Nat} {items} {Q : Value → Shared → Prop} (hh : A.handled = none)
    (hit : s.heap.IsTupleIter it l i) (hl : s.heap.IsTuple l items) (hx : items[i]? = none)
    (hE : ∀ h' e,Heap.ExtBut it s.heap h' → (∃ o,h'.get? e = some o ∧ o.cls = .type "StopIteration") → E (.ref e) { s with heap:=h' }) :
    wpAny (model prog w) A (Builtin.SmallTypes.nextOf (.ref it)) Q E s:=by
  obtain ⟨o,ho,hc,hd⟩:=id hit
  obtain ⟨ol,hol,_,nl,hdl⟩:=hl
  unfold Builtin.SmallTypes.nextOf
  refine wpAny_bind (wpAny_callSpecial?_slot (name:=Str.ofString "__next__") hit.typeIs F.slot_tuple_iterator_next
    (wpAny_call_entry F.slot_tuple_iterator_next hit.typeIs F.entry_tuple_iterator_next ?_ (F.args_tuple_iterator_next_1 _)))
  show wpAny _ _ (field (.ref it) 0 >>= _) _ _ s
  refine wpAny_bind (wpAny_field ho hd (x:=.ref l) rfl ?_)
  show wpAny _ _ (if (Value.ref l == Value.none) = true then _ else _) _ _ s
  rw [if_neg (show ¬ ((Value.ref l == Value.none) = true) from Bool.false_ne_true)]
  show wpAny _ _ (field (.ref it) 1 >>= _) _ _ s
  refine wpAny_bind (wpAny_field ho hd (x:=.int i 0) rfl ?_)
  show wpAny _ _ (seqItems? (.ref l) >>= _) _ _ s
  refine wpAny_bind (wpAny_seqItems hol hdl ?_)
  simp only [Int.toNat_natCast,hx]
  refine wpAny_bind (wpAny_rule (wpAny_bind (wpAny_setField ho hd (by simp) ?_)))
  show wpAny _ _ (newExc (.type "StopIteration") [] >>= _) _ _ _
  refine wpAny_bind ?_
  simp only [newExc,newTuple]
  refine wpAny_bind (wpAny_newObj_type ?_ (by size_fits))
  refine wpAny_bind (m:=firstArgMember _ _) (wpAny_of_eq (a:=Value.none) (by first | rfl | (simp only [firstArgMember]; rfl)) ?_)
  refine wpAny_newObj_type ?_ (by size_fits)
  simp only [raiseNew]
  refine wpAny_bind (wpAny_handled ?_)
  first | rw [show A.in1.handled = none from hh] | rw [hh]
  refine wpAny_bind (wpAny_pure (wpAny_throw ?_))
  exact hE _ _ (((Heap.SameBut.update ..).extBut.push _).push _) ⟨_,Heap.get?_push_size _ rfl,rfl⟩
def SeqB (h : Heap) (b : Bool) (a : Addr) (us : Array Value) : Prop:=if b then h.IsList a us else h.IsTuple a us
def itObj (b : Bool) (a : Addr) : Obj:={ cls:=.type (if b then "list_iterator" else "tuple_iterator"),data:=.fields #[.ref a,.int 0 0] }
theorem SeqB.push {h : Heap} {b : Bool} {a : Addr} {us : Array Value} (x : SeqB h b a us) (o : Obj) : SeqB (h.push o) b a us:=by
  cases b
  · exact Heap.IsTuple.push x o
  · exact Heap.IsList.push x o
abbrev zH1 (h : Heap) (b1 : Bool) (l1 : Addr) : Heap:=h.push (itObj b1 l1)
abbrev zH2 (h : Heap) (b1 b2 : Bool) (l1 l2 : Addr) : Heap:=(zH1 h b1 l1).push (itObj b2 l2)
abbrev zH3 (h : Heap) (b1 b2 : Bool) (l1 l2 : Addr) : Heap:=(zH2 h b1 b2 l1 l2).push { cls:=.type "tuple",data:=.seq #[.ref h.objs.size,.ref (zH1 h b1 l1).objs.size] }
abbrev zH4 (h : Heap) (b1 b2 : Bool) (l1 l2 : Addr) : Heap:=(zH3 h b1 b2 l1 l2).push { cls:=.type "tuple",data:=.seq #[.none,.none] }
abbrev zH5 (h : Heap) (b1 b2 : Bool) (l1 l2 : Addr) : Heap:=(zH4 h b1 b2 l1 l2).push { cls:=.type "zip",data:=.fields #[.none,.bool false,.bool false,.ref (zH2 h b1 b2 l1 l2).objs.size,.ref (zH3 h b1 b2 l1 l2).objs.size] }
theorem iter_b {b : Bool} {a : Addr} {us : Array Value} {Q : Value → Shared → Prop} (hl : SeqB s.heap b a us) (hQ : Q (.ref s.heap.objs.size) { s with heap:=s.heap.push (itObj b a) }) : wpAny (model prog w) A (pyIter (.ref a)) Q E s:=by
  cases b
  · exact wpAny_pyIter_tuple hl hQ
  · exact wpAny_pyIter_list hl hQ
theorem zip_new_b (b1 b2 : Bool) (l1 l2 : Addr) (xs ys : Array Value) :
    Meets (Builtin.«zip.__new__» ⟨[.type "zip",.ref l1,.ref l2],[]⟩) (fun _ R s=>SeqB s.heap b1 l1 xs ∧ SeqB s.heap b2 l2 ys ∧
      R (.ok (.ret (.ref (zH4 s.heap b1 b2 l1 l2).objs.size))) { s with heap:=zH5 s.heap b1 b2 l1 l2 }):=
  .of_wp fun prog w A R s h=>by
    obtain ⟨hp,g,d,tk,os⟩:=s; obtain ⟨hl1,hl2,h⟩:=h
    have hsub:=sub_zip
    have hL1 : SeqB (Shared.heap ⟨hp,g,d,tk,os⟩) b1 l1 xs:=hl1
    have hL2 : SeqB (Shared.heap ⟨hp.push (itObj b1 l1),g,d,tk,os⟩) b2 l2 ys:=hl2.push _
    wp_walk using iter_b hL1,iter_b hL2
    exact ⟨_,rfl,h⟩
theorem call_zip_b {b1 b2 : Bool} {l1 l2 : Addr} {xs ys : Array Value} {Q : Value → Shared → Prop} (hl1 : SeqB s.heap b1 l1 xs) (hl2 : SeqB s.heap b2 l2 ys)
    (h : ∀ h',IsZip h' (s.heap.objs.size + 4) (s.heap.objs.size + 2) (s.heap.objs.size + 3) .none → IsPair h' (s.heap.objs.size + 2) (.ref s.heap.objs.size) (.ref (s.heap.objs.size + 1)) →
      h'.get? s.heap.objs.size = some (itObj b1 l1) → (∀ c o,s.heap.get? c = some o → h'.get? c = some o) → Q (.ref (s.heap.objs.size + 4)) { s with heap:=h' }) :
    wpAny (model prog w) A (call (.type "zip") [.ref l1,.ref l2]) Q E s:=by
  refine callType_new F.called_zip (by decide) (F.typeCall_zip_2 _ _) (F.newCall_zip_2 _ _) (fun obj=>F.args_object_init_3 obj _ _) F.entry_zip_new
    (zip_new_b b1 b2 l1 l2 xs ys) ⟨hl1,hl2,?_⟩
  have z1 : (zH1 s.heap b1 l1).objs.size = s.heap.objs.size + 1:=Heap.size_push ..
  have z2 : (zH2 s.heap b1 b2 l1 l2).objs.size = s.heap.objs.size + 2:=by rw [Heap.size_push,z1]
  have z3 : (zH3 s.heap b1 b2 l1 l2).objs.size = s.heap.objs.size + 3:=by rw [Heap.size_push,z2]
  have z4 : (zH4 s.heap b1 b2 l1 l2).objs.size = s.heap.objs.size + 4:=by rw [Heap.size_push,z3]
  have g5 : (zH5 s.heap b1 b2 l1 l2).get? (zH4 s.heap b1 b2 l1 l2).objs.size = some _:=Heap.get?_push_size _ rfl
  have g3 : (zH5 s.heap b1 b2 l1 l2).get? (zH2 s.heap b1 b2 l1 l2).objs.size = some _:=Heap.get?_push_of_some _ (Heap.get?_push_of_some _ (Heap.get?_push_size _ rfl))
  have g1 : (zH5 s.heap b1 b2 l1 l2).get? s.heap.objs.size = some _:=Heap.get?_push_of_some _ (Heap.get?_push_of_some _ (Heap.get?_push_of_some _ (Heap.get?_push_of_some _ (Heap.get?_push_size _ rfl))))
  show _ ∧ _
  rw [z2,z3,z4] at g5
  rw [z1,z2] at g3
  rw [z4]
  exact ⟨⟨_,g5,rfl⟩,h _ g5 g3 g1 fun c o x=>Heap.get?_push_of_some _ (Heap.get?_push_of_some _ (Heap.get?_push_of_some _ (Heap.get?_push_of_some _ (Heap.get?_push_of_some _ x))))⟩
theorem zip_end_b {b1 : Bool} {z TI TO i1 i2 l1 : Addr} {xs : Array Value} {Q : Fin → Shared → Prop} (hh : A.handled = none) (d1 : i1 ≠ z) (d2 : l1 ≠ z) 
    (hz : IsZip s.heap z TI TO .none) (hTI : IsPair s.heap TI (.ref i1) (.ref i2)) (h1 : s.heap.get? i1 = some (itObj b1 l1)) (hl1 : SeqB s.heap b1 l1 xs) (hend : xs[0]? = none)
    (hE : ∀ h' e,(∀ c o,c ≠ z → c ≠ i1 → s.heap.get? c = some o → h'.get? c = some o) → (∃ o,h'.get? e = some o ∧ o.cls = .type "StopIteration") → E (.ref e) { s with heap:=h' }) :
    wpAny (model prog w) A (Builtin.«zip.__next__» ⟨[.ref z],[]⟩) Q E s:=by
  show wpAny _ _ (field (.ref z) 2 >>= _) _ _ _
  refine wpAny_bind (wpAny_field hz rfl (x:=.bool false) rfl ?_)
  show wpAny _ _ (field (.ref z) 3 >>= _) _ _ _
  refine wpAny_bind (wpAny_field hz rfl (x:=.ref TI) rfl ?_)
  refine wpAny_bind (wpAny_seqItems hTI rfl ?_)
  show wpAny _ _ (Builtin.SmallTypes.ownedTupleIsFree (.ref z) >>= _) _ _ _
  refine wpAny_bind ?_
  unfold Builtin.SmallTypes.ownedTupleIsFree
  refine wpAny_bind (wpAny_field hz rfl (x:=.none) rfl (wpAny_pure ?_))
  simp only [if_true]
  refine wpAny_bind (wpAny_rule ?_)
  refine wpAny_bind (wpAny_field hz rfl (x:=.ref TO) rfl ?_)
  refine wpAny_bind (wpAny_setField_rec hz (by simp) fun h₁ hz₁ hs₁=>?_)
  replace hz₁ : IsZip h₁ z TI TO .ellipsis:=hz₁
  refine wpAny_bind ?_
  simp only [List.zipIdx_cons,List.zipIdx_nil,List.forIn_cons,List.forIn_nil]
  refine wpAny_bind (wpAny_bind (wpAny_onRaise ?_))
  show wpAny _ _ (Builtin.SmallTypes.nextOf (.ref i1) >>= _) _ _ _
  have fin : ∀ h₂ e,Heap.ExtBut i1 h₁ h₂ → (∃ o,h₂.get? e = some o ∧ o.cls = .type "StopIteration") →
      wpAny (model prog w) A (setField (.ref z) 0 .none) (fun _ s'=>E (.ref e) s') E { s with heap:=h₂ }:=by
    intro h₂ e hs₂ he
    obtain ⟨oe,hoe,hce⟩:=he
    have hz₂ : IsZip h₂ z TI TO .ellipsis:=hs₂ _ _ d1.symm hz₁
    have hez : e ≠ z:=fun x=>by subst x; rw [hz₂] at hoe; cases hoe; simp at hce
    exact wpAny_setField_rec hz₂ (by simp) fun h₃ _ hs₃=>hE h₃ e (fun c o c1 c3 x=>hs₃.extBut _ _ c1 (hs₂ _ _ c3 (hs₁.extBut _ _ c1 x))) ⟨oe,hs₃.extBut _ _ hez hoe,hce⟩
  have h1' : h₁.get? i1 = some (itObj b1 l1):=hs₁.extBut _ _ d1 h1
  cases b1 with
  | true=>exact wpAny_bind (wpAny_nextOf_list_end (s:={ s with heap:=h₁ }) hh ⟨_,h1',rfl,rfl⟩ (Heap.IsList.extBut hl1 hs₁.extBut d2) hend fun h₂ e hs₂ he=>fin h₂ e hs₂ he)
  | false=>exact wpAny_bind (nextOf_tuple_end (s:={ s with heap:=h₁ }) hh ⟨_,h1',rfl,rfl⟩ (Heap.IsTuple.extBut hl1 hs₁.extBut d2) hend fun h₂ e hs₂ he=>fin h₂ e hs₂ he)
theorem next_zip_end {b1 : Bool} {z TI TO i1 i2 l1 : Addr} {xs : Array Value} {Q : Option Value → Shared → Prop} (hh : A.handled = none) (d1 : i1 ≠ z) (d2 : l1 ≠ z) 
    (hz : IsZip s.heap z TI TO .none) (hTI : IsPair s.heap TI (.ref i1) (.ref i2)) (h1 : s.heap.get? i1 = some (itObj b1 l1)) (hl1 : SeqB s.heap b1 l1 xs) (hend : xs[0]? = none)
    (hQ : ∀ h',(∀ c o,c ≠ z → c ≠ i1 → s.heap.get? c = some o → h'.get? c = some o) → Q none { s with heap:=h' }) : wpAny (model prog w) A (pyNext (.ref z)) Q E s:=by
  have hT : s.TypeIs (.ref z) "zip":=⟨_,hz,rfl⟩
  unfold pyNext
  refine wpAny_bind (wpAny_attempt (wpAny_callSpecial?_slot (name:=Str.ofString "__next__") hT F.slot_zip_next
    (wpAny_call_entry F.slot_zip_next hT F.entry_zip_next (zip_end_b (b1:=b1) hh d1 d2 hz hTI h1 hl1 hend fun h' e hk he=>?_) (F.args_zip_next_1 _))))
  obtain ⟨o,ho,hc⟩:=he
  refine wpAny_bind (wpAny_isInstance (T:="StopIteration") (b:=true) ⟨o,ho,hc⟩ isSubtype_stop ?_)
  exact wpAny_pure (hQ _ hk)
end
section
variable {c : Cx} {G : Pg} {K : Frag} {D n m : Nat} {kd : Kd} {V V' : List (Str × AV)} {ρ ρ' ix t : List Addr} {H H' H1 H2 : Hs} {A : Around} {env : Env} {s s' s₀ : Shared} {x y v f : AV} {u w : Value} {h h' : Heap} {a C it : Addr} {as fs vs : List AV} {vals us : List Value} {X Y P : Addr → Prop} {E : Value → Shared → Prop} {z : Str} {tg : TG} {e : Expr} {sr : Sr} {fr : Value}
def NilS (c : Cx) (h : Heap) (b : Bool) (l : Addr) : Prop:=match b with | true=>c.B.IsList l #[] | false=>h.IsTuple l #[]
theorem NilS.seq {b : Bool} {l : Addr} (R : RelH c ρ H h) (q : NilS c h b l) : SeqB h b l #[]:=match b,q with
  | true,q=>q.elim fun o z=>⟨o,R.keep _ _ z.1,z.2⟩
  | false,q=>q
inductive SrR (c : Cx) (ρ : List Addr) (h : Heap) (P : Addr → Prop) (fr : Value) : Sr → Addr → Prop
  | tup (it T : Addr) (j : Nat) (us : List Value) (vs : List AV) (p : P it) (hi : h.IsTupleIter it T j) (ht : h.IsTuple T us.toArray) (hv : c.Vs h ρ vs (us.drop j)) : SrR c ρ h P fr (.fix vs) it
  | lsb (it l : Addr) (j : Nat) (us : List Value) (vs : List AV) (p : P it) (hi : h.IsListIter it l j) (ht : c.B.PlainList l us.toArray) (hv : c.Vs h ρ vs (us.drop j)) : SrR c ρ h P fr (.fix vs) it
  | lst (it l : Addr) (i k : Nat) (p : P it) (hi : h.IsListIter it l k) (hl : hget ρ i = some l) : SrR c ρ h P fr (.lst i k) it
  | rng (it : Addr) (k m : Nat) (p : P it) (hi : IsRangeIter h it (k : Int) ((m : Int) - (k : Int)) 1) (hk : k ≤ m) : SrR c ρ h P fr (.rng k m) it
  | nil (b : Bool) (z TI TO i1 i2 l : Addr) (p : P z ∧ P TI ∧ P i1) (d1 : i1 ≠ z) (d2 : l ≠ z) (hz : IsZip h z TI TO .none) (hT : IsPair h TI (.ref i1) (.ref i2)) (h1 : h.get? i1 = some (itObj b l)) (hl : NilS c h b l) : SrR c ρ h P fr .nil z
  | zip (z TI TO i1 i2 l1 l2 : Addr) (i j k : Nat) (a b : Value) (p : P z ∧ P TI ∧ P TO ∧ P i1 ∧ P i2) (D : ZipApart z TI TO i1 i2 l1 l2) (hz : IsZip h z TI TO fr) (hT : IsPair h TI (.ref i1) (.ref i2)) (hO : IsPair h TO a b) (h1 : h.IsListIter i1 l1 k) (h2 : h.IsListIter i2 l2 k)
      (e1 : hget ρ i = some l1) (e2 : hget ρ j = some l2) : SrR c ρ h P fr (.zip i j k) z
structure ItR (c : Cx) (ρ : List Addr) (h : Heap) (P : Addr → Prop) (fr : Value) (sr : Sr) (it : Addr) : Prop where
  own : ∀ a,P a → c.B.get? a = none ∧ a ∉ ρ
  live : ∀ a,P a → ∃ o,h.get? a = some o
  rel : SrR c ρ h P fr sr it
theorem SrR.step (R : RelH c ρ H h) (q : SrR c ρ h P fr sr it) (S : Step ρ X ρ' h h') (hX : ∀ a us,h.IsTuple a us → ¬ X a) (hk : ∀ a o,P a → h.get? a = some o → h'.get? a = some o) : SrR c ρ' h' P fr sr it:=match q with
  | .tup it T j us vs p hi ht hv=>.tup it T j us vs p (hi.at fun o e=>hk it o p e) (S.tup R hX ht) (S.rels R hX hv)
  | .lsb it l j us vs p hi ht hv=>.lsb it l j us vs p (hi.at fun o e=>hk it o p e) ht (S.rels R hX hv)
  | .lst it l i k p hi hl=>.lst it l i k p (hi.at fun o e=>hk it o p e) (S.get hl)
  | .rng it k m p hi hk'=>.rng it k m p (hk _ _ p hi) hk'
  | .nil b z TI TO i1 i2 l p d1 d2 hz hT h1 hl=>.nil b z TI TO i1 i2 l p d1 d2 (hk _ _ p.1 hz) (hk _ _ p.2.1 hT) (hk _ _ p.2.2 h1) (match b,hl with | true,hl=>hl | false,hl=>S.tup R hX hl)
  | .zip z TI TO i1 i2 l1 l2 i j k a b p D hz hT hO h1 h2 e1 e2=>.zip z TI TO i1 i2 l1 l2 i j k a b p D (hk _ _ p.1 hz) (hk _ _ p.2.1 hT) (hk _ _ p.2.2.1 hO) (h1.at fun o e=>hk _ o p.2.2.2.1 e) (h2.at fun o e=>hk _ o p.2.2.2.2 e) (S.get e1) (S.get e2)
theorem ItR.step (R : RelH c ρ H h) (I : ItR c ρ h P fr sr it) (S : Step ρ X ρ' h h') (hX : ∀ a us,h.IsTuple a us → ¬ X a) (hP : ∀ a,P a → ¬ X a) : ItR c ρ' h' P fr sr it:=
  have hk : ∀ a o,P a → h.get? a = some o → h'.get? a = some o:=fun a o p e=>S.keep a o e (I.own a p).2 (hP a p)
  ⟨fun a p=>⟨(I.own a p).1,(I.live a p).elim fun o e=>S.not e (I.own a p).2⟩,fun a p=>(I.live a p).elim fun o e=>⟨o,hk a o p e⟩,I.rel.step R S hX hk⟩
inductive SrcP (c : Cx) (ρ : List Addr) (s : Shared) (H : Hs) (sr : Sr) (w : Value) (s' : Shared) : Prop
  | mk (ρ1 : List Addr) (it : Addr) (P : Addr → Prop) (e : w = .ref it) (fresh : ∀ a,P a → s.heap.get? a = none) (R : RelH c ρ1 H s'.heap) (I : ItR c ρ1 s'.heap P .none sr it) (W : Aft ρ s ρ1 s')
theorem SrcP.from (W : Aft ρ s ρ' s') {s2 : Shared} (q : SrcP c ρ' s' H sr w s2) : SrcP c ρ s H sr w s2:=match q with
  | .mk ρ1 it P e fr R I W'=>.mk ρ1 it P e (fun a p=>W.S.none (fr a p)) R I (W.trans W')
theorem srcP_push {o : Obj} (R : RelH c ρ H s.heap) (ho : o.isFreed = false) (k : ∀ p : s.heap.objs.size = s.heap.objs.size,(s.heap.push o).get? s.heap.objs.size = some o → Step ρ noX ρ s.heap (s.heap.push o) → SrR c ρ (s.heap.push o) (· = s.heap.objs.size) .none sr s.heap.objs.size) :
    SrcP c ρ s H sr (.ref s.heap.objs.size) { s with heap:=s.heap.push o }:=
  have g:=Heap.get?_push_size s.heap (o:=o) ho
  .mk ρ _ (· = s.heap.objs.size) rfl (fun a p=>p ▸ none_size _) (R.push o) ⟨fun a p=>p ▸ ⟨R.baseNone (none_size _),R.fresh (none_size _)⟩,fun a p=>p ▸ ⟨o,g⟩,k rfl g (.push o)⟩ ⟨.push o,rfl,rfl,rfl⟩
def ItP (c : Cx) (A : Around) (ρ : List Addr) (s : Shared) (H : Hs) (E : Value → Shared → Prop) (u : Value) (sr : Sr) : Prop:=wpAny (model c.prog c.w) A (pyIter u) (SrcP c ρ s H sr) E s
theorem iter_ok (Bs : Base c K G D) (R : RelH c ρ H s.heap) (hu : c.V s.heap ρ v u) : TP (srcOf G.F H v) (ItP c A ρ s H E u):=match v,hu with
  | .tup vs,hu=>un_tup (M:=fun u=>TP (some (Sr.fix vs)) (ItP c A ρ s H E u)) hu fun a us ht hv=>tp_some (wpAny_pyIter_tuple ht (srcP_push R rfl fun p g S=>.tup _ a 0 us vs p ⟨_,g,rfl,rfl⟩ (ht.push _) (S.rels R noX_no hv)))
  | .loc i,hu=>un_loc (M:=fun u=>TP (bn1 (hget H i) fun o=>asList o fun _ _=>some (Sr.lst i 0)) (ItP c A ρ s H E u)) hu fun a q=>tp_bn1 tp_eq fun o e=>tp_list (R.obj i a o q e) fun _ _ L=>match L with
    | .mk us _ hp _=>tp_some (wpAny_pyIter_list hp.isList (srcP_push R rfl fun p g S=>.lst _ a i 0 p ⟨_,g,rfl,rfl⟩ q))
  | .bs i,hu=>un_bs (M:=fun u=>TP (bn1 (hget G.F i) fun o=>asList o fun _ r=>some (Sr.fix r.reverse)) (ItP c A ρ s H E u)) hu fun a q=>tp_bn1 tp_eq fun o e=>tp_list (Bs.bF i a o q e) fun _ r L=>match L with
    | .mk us _ hp hv=>tp_some (wpAny_pyIter_list (hp.isList.elim fun o q=>⟨o,R.keep _ _ q.1,q.2⟩) (srcP_push R rfl fun p g S=>.lsb _ a 0 us _ p ⟨_,g,rfl,rfl⟩ hp (S.rels R noX_no (base_rels R hv))))
  | .bool _,_ | .any,_ | .int _,_ | .str _,_ | .sym _,_ | .none,_ | .fn _,_ | .bi _,_=>tp_none
theorem iter_again (q : SrR c ρ s.heap P .none sr it) {Q : Value → Shared → Prop} (h : Q (.ref it) s) : wpAny (model c.prog c.w) A (pyIter (.ref it)) Q E s:=by
  cases q
  · exact wpAny_pyIter_tupleiter (by assumption) h
  · exact wpAny_pyIter_listiter (by assumption) h
  · exact wpAny_pyIter_listiter (by assumption) h
  · exact wpAny_pyIter_rangeiter (by assumption) h
  · exact wpAny_pyIter_zip (by assumption) h
  · exact wpAny_pyIter_zip (by assumption) h
theorem rng_ok (R : RelH c ρ H s.heap) {m : Nat} {t : Tok} (hz : small m = true) :
    wpAny (model c.prog c.w) A (call (.type "range") [.int (m : Int) t]) (fun x s1=>wpAny (model c.prog c.w) A (pyIter x) (SrcP c ρ s H (.rng 0 m)) E s1) E s:=by
  have hz:=Nat.le_of_ble_eq_true hz
  refine call_range_1 (wpAny_pyIter_range (IsRange.new ..) (small_one (by decide) (by decide) (by omega) (by omega)) ?_)
  have e1 : Builtin.Range.rangeSize 0 (m : Int) 1 = (m : Int) - ((0 : Nat) : Int):=by rw [rangeSize_one]; split <;> omega
  rw [e1]
  exact .from (s':={ s with heap:=s.heap.push _,toks:=_ }) ⟨.push _,rfl,rfl,rfl⟩ (srcP_push (s:={ s with heap:=s.heap.push _,toks:=_ }) (R.push _) rfl fun p g S=>.rng _ 0 m p g (Nat.zero_le _))
theorem zipApart_new' {n l1 l2 : Nat} (h1 : l1 < n) (h2 : l2 < n) : ZipApart (n + 4) (n + 2) (n + 3) n (n + 1) l1 l2:=PyProof.Rows.zipApart_new h1 h2
theorem in5 (n k : Nat) (h : k < 5) : n ≤ n + k ∧ n + k < n + 5:=⟨Nat.le_add_right ..,Nat.add_lt_add_left h n⟩
theorem cases5 {n a : Nat} (h : n ≤ a ∧ a < n + 5) : a = n ∨ a = n + 1 ∨ a = n + 2 ∨ a = n + 3 ∨ a = n + 4:=by
  obtain ⟨k,rfl⟩:=Nat.exists_eq_add_of_le h.1
  have hk : k < 5:=Nat.lt_of_add_lt_add_left h.2
  obtain rfl | rfl | rfl | rfl | rfl : k = 0 ∨ k = 1 ∨ k = 2 ∨ k = 3 ∨ k = 4:=(by decide : ∀ k,k < 5 → k = 0 ∨ k = 1 ∨ k = 2 ∨ k = 3 ∨ k = 4) k hk
  · exact .inl rfl
  · exact .inr (.inl rfl)
  · exact .inr (.inr (.inl rfl))
  · exact .inr (.inr (.inr (.inl rfl)))
  · exact .inr (.inr (.inr (.inr rfl)))
theorem cases3 {n a : Nat} (h : a = n ∨ a = n + 2 ∨ a = n + 4) : n ≤ a:=by omega
theorem apart4 {n l : Nat} (h : l < n) : n ≠ n + 4 ∧ l ≠ n + 4:=by omega
theorem ge_none (R : RelH c ρ H h) {b : Addr} (hb : h.objs.size ≤ b) : c.B.get? b = none ∧ b ∉ ρ:=⟨R.baseNone (none_ge hb),R.fresh (none_ge hb)⟩
theorem zip_ok (R : RelH c ρ H s.heap) {i j : Nat} {l1 l2 : Addr} {xs ys : Array Value} (e1 : hget ρ i = some l1) (e2 : hget ρ j = some l2) (hl1 : s.heap.PlainList l1 xs) (hl2 : s.heap.PlainList l2 ys) :
    wpAny (model c.prog c.w) A (call (.type "zip") [.ref l1,.ref l2]) (fun x s1=>wpAny (model c.prog c.w) A (pyIter x) (SrcP c ρ s H (.zip i j 0)) E s1) E s:=
  call_zip_2 hl1.isList hl2.isList fun h' hz hT hO h1 h2 hs hk=>wpAny_pyIter_zip hz (by
    refine .mk ρ _ (fun a=>s.heap.objs.size ≤ a ∧ a < s.heap.objs.size + 5) rfl (fun a p=>none_ge p.1) (R.keeps hk) ⟨fun a p=>ge_none R p.1,fun a p=>?_,.zip _ _ _ _ _ l1 l2 i j 0 _ _ ⟨in5 _ 4 (by decide),in5 _ 2 (by decide),in5 _ 3 (by decide),in5 _ 0 (by decide),in5 _ 1 (by decide)⟩ (zipApart_new' (R.lt (hget_mem e1)) (R.lt (hget_mem e2))) hz hT hO h1 h2 e1 e2⟩ ⟨.keeps hk,rfl,rfl,rfl⟩
    rcases cases5 p with rfl | rfl | rfl | rfl | rfl
    · exact h1.elim fun o q=>⟨o,q.1⟩
    · exact h2.elim fun o q=>⟨o,q.1⟩
    · exact ⟨_,hT⟩
    · exact ⟨_,hO⟩
    · exact ⟨_,hz⟩)
theorem zip_nil (b : Bool) (R : RelH c ρ H s.heap) {l1 l2 : Addr} {ys : Array Value} (hn : NilS c s.heap b l1) (hl2 : s.heap.IsTuple l2 ys) :
    wpAny (model c.prog c.w) A (call (.type "zip") [.ref l1,.ref l2]) (fun x s1=>wpAny (model c.prog c.w) A (pyIter x) (SrcP c ρ s H .nil) E s1) E s:=
  have hl1:=hn.seq R
  call_zip_b (b1:=b) (b2:=false) hl1 hl2 fun h' hz hT h1 hk=>wpAny_pyIter_zip hz (by
    have lt : l1 < s.heap.objs.size:=match b,hl1 with | true,hl1=>hl1.elim fun o q=>Heap.lt_size q.1 | false,hl1=>hl1.elim fun o q=>Heap.lt_size q.1
    refine .mk ρ _ (fun a=>a = s.heap.objs.size ∨ a = s.heap.objs.size + 2 ∨ a = s.heap.objs.size + 4) rfl (fun a p=>none_ge (cases3 p)) (R.keeps hk) ⟨fun a p=>ge_none R (cases3 p),fun a p=>?_,.nil b _ _ _ _ _ l1 ⟨.inr (.inr rfl),.inr (.inl rfl),.inl rfl⟩ (apart4 lt).1 (apart4 lt).2 hz hT h1 (match b,hn with | true,hn=>hn | false,hn=>tup_keep (fun o=>hk _ o) hn)⟩ ⟨.keeps hk,rfl,rfl,rfl⟩
    rcases p with rfl | rfl | rfl
    · exact ⟨_,h1⟩
    · exact ⟨_,hT⟩
    · exact ⟨_,hz⟩)
end
section
variable {c : Cx} {G : Pg} {K : Frag} {D n m : Nat} {kd : Kd} {V V' V1 : List (Str × AV)} {ρ ρ' ρ0 ix t : List Addr} {H H' H1 H2 : Hs} {A : Around} {env : Env} {s s' s₀ : Shared} {x y v f : AV} {u w : Value} {h h' h0 : Heap} {a C it : Addr} {as fs vs r : List AV} {vals us : List Value} {X Y P : Addr → Prop} {E : Value → Shared → Prop} {z : Str} {tg : TG} {e : Expr} {sr sr' : Sr} {fr : Value} {o : AO}
theorem v_free (nt : noTup v = true) (e : c.V h ρ v u) : c.V h' ρ v u:=match v,nt,e with
  | .none,_,e=>e | .any,_,e=>e | .bool _,_,e=>e | .int _,_,e=>e | .str _,_,e=>e | .sym _,_,e=>e | .bs _,_,e=>e | .fn _,_,e=>e | .bi _,_,e=>e | .loc _,_,e=>e
theorem noTupL_mem : ∀ {l : List AV},noTupL l = true → ∀ x ∈ l,noTup x = true
  | y :: l,h,x,m=>by
    have h : (match noTup y with | true=>noTupL l | false=>false) = true:=h
    cases e : noTup y with
    | true=>rw [e] at h; exact (List.mem_cons.mp m).elim (fun q=>q ▸ e) (noTupL_mem h x)
    | false=>rw [e] at h; cases h
theorem noTupH_get : ∀ {H : Hs} {i : Nat} {o : AO},noTupH H = true → hget H i = some o → noTupO o = true
  | [],i,o,_,e=>(hget_no e).elim
  | p :: H,i,o,h,e=>by
    have h : (match noTupO p with | true=>noTupH H | false=>false) = true:=h
    cases q : noTupO p with
    | true=>rw [q] at h; exact match i,e with
      | 0,e=>Option.some.inj e ▸ q
      | i + 1,e=>noTupH_get (H:=H) (i:=i) h e
    | false=>rw [q] at h; cases h
theorem noTupV_look : ∀ {V : Vs} {x : Str} {v : AV},noTupV V = true → look V x = some v → noTup v = true
  | p :: V,x,v,h,e=>by
    have h : (match noTup p.2 with | true=>noTupV V | false=>false) = true:=h
    have e : iff (seqb p.1 x) (some p.2) (look V x) = some v:=e
    cases q : noTup p.2 with
    | true=>
      rw [q] at h
      cases q' : seqb p.1 x with
      | true=>rw [q'] at e; exact Option.some.inj e ▸ q
      | false=>rw [q'] at e; exact noTupV_look h e
    | false=>rw [q] at h; cases h
theorem Vs.free (nt : noTupL vs = true) (e : c.Vs h ρ vs us) : c.Vs h' ρ vs us:=Cx.Vs.map (p:=fun _=>True) (fun x m u e=>v_free (noTupL_mem nt x m) e) e
theorem Vs.freeR (nt : noTupL r = true) (e : c.Vs h ρ r.reverse us) : c.Vs h' ρ r.reverse us:=Cx.Vs.map (p:=fun _=>True) (fun x m u e=>v_free (noTupL_mem nt x (List.mem_reverse.mp m)) e) e
theorem ORel.free (nt : noTupO o = true) (hk : ∀ ob,h.get? a = some ob → h'.get? a = some ob) (r : ORel c h ρ ix o a) : ORel c h' ρ ix o a:=match o,r with
  | .list k q,.mk us h1 hp hv=>.mk us h1 (hp.elim fun k e=>⟨k,hk _ e⟩) (Vs.freeR nt hv)
  | .dict ks vs,.mk us h0 hd hl hv=>.mk us h0 (hd.elim fun o q=>q.elim fun es q=>q.elim fun ep q=>⟨o,es,ep,hk o q.1,q.2⟩) hl (Vs.free nt hv)
  | .ns ks vs,.mk m us hn hl hm hv=>.mk m us (hn.elim fun o q=>q.elim fun es q=>q.elim fun ep q=>⟨o,es,ep,hk o q.1,q.2⟩) hl hm (Vs.free nt hv)
  | .inst C d,.mk dx e q=>.mk dx (hk _ e) q
  | .gone,_=>trivial
theorem RelH.free (R : RelH c ρ H h) (nt : noTupH H = true) (hP : ∀ a,P a → c.B.get? a = none ∧ a ∉ ρ) (hs : ∀ b x,¬ P b → h.get? b = some x → h'.get? b = some x) : RelH c ρ H h':=
  have hρ : ∀ b,b ∈ ρ → ¬ P b:=fun b m p=>(hP b p).2 m
  ⟨fun b x q=>hs b x (fun p=>nomatch (hP b p).1.symm.trans q) (R.keep b x q),R.len,R.nodup,fun b m=>(R.new b m).keep fun o=>hs b o (hρ b m),fun j b x eb ex=>(R.obj j b x eb ex).free (noTupH_get nt ex) (fun o=>hs b o (hρ b (hget_mem eb)))⟩
theorem RelV.free (R : RelV c env kd V ρ h) (nt : noTupV V = true) (hk : ∀ b o,ownOf env b → h.get? b = some o → h'.get? b = some o) : RelV c env kd V ρ h':=
  ⟨R.kind,R.names,R.glob,R.blt,match R.loc with | .mk m hn hv=>.mk m (hn.elim fun o q=>q.elim fun es q=>q.elim fun ep q=>⟨o,es,ep,hk _ o (.inl rfl) q.1,q.2⟩) fun x v e k=>(hv x v e k).elim fun u z=>⟨u,z.1,v_free (noTupV_look nt e) z.2⟩,R.locNew,R.locρ,
    fun x a e=>match R.cells x a e with | .mk v0 hB hρ hL hc=>hc.elim fun o z=>.mk v0 hB hρ hL ⟨o,hk _ o (.inr ⟨x,e⟩) z.1,z.2⟩,R.apart,R.has,
    fun x v a e k f=>match R.cvar x v a e k f with | .mk u hc hv=>.mk u (hc.elim fun o z=>⟨o,hk _ o (.inr ⟨x,f⟩) z.1,z.2⟩) (v_free (noTupV_look nt e) hv)⟩
theorem RelV.but (R : RelV c env kd V ρ h) (B : But a h h') (ha : ¬ ownOf env a) : RelV c env kd V ρ h':=R.stepX B.rel (fun b o w e=>B.keep b o (fun q=>ha (q ▸ w)) e) fun _ _ _ _ n=>n
inductive NxV (c : Cx) (ρ : List Addr) (h : Heap) (P : Addr → Prop) (it : Addr) : Option (AV × Sr) → Option Value → Prop
  | stop : NxV c ρ h P it none none
  | item (v : AV) (sr : Sr) (u fr : Value) (hu : c.V h ρ v u) (I : ItR c ρ h P fr sr it) (hf : ∀ i j k,sr = .zip i j k → ∃ T : Nat,fr = rawInt (T : Int) ∧ u = .ref T) : NxV c ρ h P it (some (v,sr)) (some u)
structure NxR (c : Cx) (env : Env) (kd : Kd) (ρ : List Addr) (H : Hs) (V : Vs) (P : Addr → Prop) (s : Shared) (it : Addr) (r : Option (AV × Sr)) (w : Option Value) (s' : Shared) : Prop where
  R : RelH c ρ H s'.heap
  RV : RelV c env kd V ρ s'.heap
  hs : ∀ b o,¬ P b → s.heap.get? b = some o → s'.heap.get? b = some o
  M : Same s s'
  q : NxV c ρ s'.heap P it r w
theorem it_but (own : ∀ a,P a → c.B.get? a = none ∧ a ∉ ρ) (live : ∀ a,P a → ∃ o,h.get? a = some o) (B : But it h h') (e : ∃ o,h'.get? it = some o) (q : SrR c ρ h' P fr sr it) : ItR c ρ h' P fr sr it:=⟨own,fun a p=>if q : a = it then q ▸ e else (live a p).elim fun o z=>⟨o,B.keep a o q z⟩,q⟩
theorem nx_but {w : Option Value} {r : Option (AV × Sr)} {tk : Nat} (R : RelH c ρ H s.heap) (RV : RelV c env kd V ρ s.heap) (own : ∀ a,P a → c.B.get? a = none ∧ a ∉ ρ) (hP : ∀ a,P a → ¬ ownOf env a) (p : P it) (nt : ∀ us,¬ s.heap.IsTuple it us) (hs : ∀ b o,b ≠ it → s.heap.get? b = some o → h'.get? b = some o)
    (k : But it s.heap h' → NxV c ρ h' P it r w) : NxR c env kd ρ H V P s it r w { s with heap:=h',toks:=tk }:=
  have B : But it s.heap h':=⟨nt,hs⟩
  ⟨R.but B (own it p).1 (own it p).2,RV.but B (hP it p),fun b o n e=>hs b o (fun q=>n (q ▸ p)) e,⟨rfl,rfl,rfl⟩,k B⟩
theorem drop_el {j : Nat} (e : c.Vs h ρ (v :: vs) (us.drop j)) : ∃ u,us[j]? = some u ∧ c.V h ρ v u ∧ c.Vs h ρ vs (us.drop (j + 1)):=by
  have hl : j < us.length:=by have:=e.len; rw [List.length_cons,List.length_drop] at this; omega
  rw [List.drop_eq_getElem_cons hl] at e
  exact ⟨us[j],List.getElem?_eq_getElem hl,e.un (M:=fun l=>l = us[j] :: us.drop (j + 1) → c.V h ρ v us[j]) (fun u r e1 _ q=>(List.cons.inj q).1 ▸ e1) rfl,e.un (M:=fun l=>l = us[j] :: us.drop (j + 1) → c.Vs h ρ vs (us.drop (j + 1))) (fun u r _ e2 q=>(List.cons.inj q).2 ▸ e2) rfl⟩
theorem drop_no {j : Nat} (e : c.Vs h ρ [] (us.drop j)) : us.toArray[j]? = none:=by
  have:=e.len
  rw [List.length_drop] at this
  rw [List.getElem?_toArray]
  exact List.getElem?_eq_none (by rw [List.length_nil] at this; omega)
theorem get_no {j : Nat} {l : List AV} (e : c.Vs h ρ l us) (q : hget l j = none) : us.toArray[j]? = none:=by
  rw [hget_eq,List.getElem?_eq_none_iff,e.len] at q
  rw [List.getElem?_toArray]
  exact List.getElem?_eq_none q
theorem toA {j : Nat} (e : us[j]? = some u) : us.toArray[j]? = some u:=by rw [List.getElem?_toArray]; exact e
def NxT (c : Cx) (A : Around) (env : Env) (kd : Kd) (ρ : List Addr) (H : Hs) (V : Vs) (P : Addr → Prop) (E : Value → Shared → Prop) (s : Shared) (it : Addr) (r : Option (AV × Sr)) : Prop:=wpAny (model c.prog c.w) A (pyNext (.ref it)) (NxR c env kd ρ H V P s it r) E s
theorem nx_list (hh : A.handled = none) (R : RelH c ρ H s.heap) (RV : RelV c env kd V ρ s.heap) (own : ∀ a,P a → c.B.get? a = none ∧ a ∉ ρ) (live : ∀ a,P a → ∃ o,s.heap.get? a = some o) (hP : ∀ a,P a → ¬ ownOf env a) (p : P it) {l : Addr} {i k : Nat} (hi : s.heap.IsListIter it l k) (hl : hget ρ i = some l) (L : ListR c s.heap ρ m r l) :
    NxT c A env kd ρ H V P E s it (match hget r.reverse k with | some v=>some (v,.lst i (k + 1)) | none=>none):=match L with
  | .mk us _ hp hv=>by
    have nt : ∀ us,¬ s.heap.IsTuple it us:=hi.elim fun o q=>notTup_cls q.1 (by rw [q.2.1]; simp)
    cases e : hget r.reverse k with
    | none=>exact wpAny_pyNext_list_end hh hi hp.isList (get_no hv e) fun h' he=>nx_but (tk:=s.toks) R RV own hP p nt he fun B=>.stop
    | some v=>
      obtain ⟨u,e1,e2⟩:=hv.get e
      exact wpAny_pyNext_list_item hi hp.isList (toA e1) fun h' hi' hs=>nx_but (tk:=s.toks) R RV own hP p nt (fun b o nb e=>(hs.2 b nb).trans e) fun B=>.item v _ u .none (B.rel e2) (it_but own live B (hi'.elim fun o q=>⟨o,q.1⟩) (.lst it l i (k + 1) p hi' hl)) fun _ _ _ q=>nomatch q
theorem nx_zip (hh : A.handled = none) (R : RelH c ρ H s.heap) (RV : RelV c env kd V ρ s.heap) (own : ∀ a,P a → c.B.get? a = none ∧ a ∉ ρ) (live : ∀ a,P a → ∃ o,s.heap.get? a = some o) (hP : ∀ a,P a → ¬ ownOf env a) {i j k : Nat} (I : SrR c ρ s.heap P .none (.zip i j k) it) (nV : noTupV V = true) (nH : noTupH H = true) {k1 k2 : Nat} {q r : List AV}
    (e1 : hget H i = some (.list k1 r)) (e2 : hget H j = some (.list k2 q)) : NxT c A env kd ρ H V P E s it (zipN i j k r q):=match I with
  | .zip z TI TO i1 i2 l1 l2 _ _ _ a b p D hz hT hO h1 h2 g1 g2=>by
    obtain ⟨us,_,hp,hv⟩:=(R.obj i l1 _ g1 e1 : ListR c s.heap ρ k1 r l1)
    obtain ⟨ws,_,hp',hw⟩:=(R.obj j l2 _ g2 e2 : ListR c s.heap ρ k2 q l2)
    have fin : ∀ {h' : Heap} {w : Option Value} {x : Option (AV × Sr)} {tk : Nat},(∀ c o,c ≠ z → c ≠ TO → c ≠ i1 → c ≠ i2 → s.heap.get? c = some o → h'.get? c = some o) → NxV c ρ h' P z x w → NxR c env kd ρ H V P s z x w { s with heap:=h',toks:=tk }:=fun hk q=>
      have hs : ∀ b o,¬ P b → s.heap.get? b = some o → _:=fun b o n e=>hk b o (fun q=>n (q ▸ p.1)) (fun q=>n (q ▸ p.2.2.1)) (fun q=>n (q ▸ p.2.2.2.1)) (fun q=>n (q ▸ p.2.2.2.2)) e
      ⟨R.free nH own hs,RV.free nV fun b o w e=>hs b o (fun p=>hP b p w) e,hs,⟨rfl,rfl,rfl⟩,q⟩
    have stop : us.toArray[k]? = none ∨ ws.toArray[k]? = none → NxT c A env kd ρ H V P E s z none:=fun hend=>wpAny_pyNext_zip_end hh D hz hT hO h1 h2 hp.isList hp'.isList hend fun h' hk=>fin (tk:=s.toks) hk .stop
    unfold zipN
    cases f1 : hget r.reverse k with
    | none=>exact stop (.inl (get_no hv f1))
    | some x=>
      cases f2 : hget q.reverse k with
      | none=>exact stop (.inr (get_no hw f2))
      | some y=>
        obtain ⟨u,a1,a2⟩:=hv.get f1
        obtain ⟨w,b1,b2⟩:=hw.get f2
        exact wpAny_pyNext_zip_item D hz hT hO h1 h2 hp.isList hp'.isList (toA a1) (toA b1) fun h' hz' hO' h1' h2' hp2 _ hk=>fin (tk:=s.toks) hk (.item _ _ _ (rawInt s.heap.objs.size)
          (v_tup (us:=[u,w]) ⟨_,hp2,rfl,_,rfl⟩ (.cons (v_free (noTupL_mem (noTupH_get nH e1) x (List.mem_reverse.mp (hget_mem f1))) a2) (.one (v_free (noTupL_mem (noTupH_get nH e2) y (List.mem_reverse.mp (hget_mem f2))) b2))))
          ⟨own,fun b pb=>if q1 : b = z then q1 ▸ ⟨_,hz'⟩ else if q2 : b = TO then q2 ▸ ⟨_,hO'⟩ else if q3 : b = i1 then q3 ▸ (h1'.elim fun o q=>⟨o,q.1⟩) else if q4 : b = i2 then q4 ▸ (h2'.elim fun o q=>⟨o,q.1⟩) else (live b pb).elim fun o e=>⟨o,hk b o q1 q2 q3 q4 e⟩,
            .zip z TI TO i1 i2 l1 l2 i j (k + 1) u w p D hz' (hk _ _ D.TIz D.TITO D.TIi1 D.TIi2 hT) hO' h1' h2' g1 g2⟩ fun _ _ _ _=>⟨_,rfl,rfl⟩)
theorem next_ok (hh : A.handled = none) (R : RelH c ρ H s.heap) (RV : RelV c env kd V ρ s.heap) (I : ItR c ρ s.heap P .none sr it) (hP : ∀ a,P a → ¬ ownOf env a) : TP (nextS V H sr) (NxT c A env kd ρ H V P E s it):=by
  obtain ⟨own,live,rel⟩:=I
  cases rel with
  | tup it T j us vs p hi ht hv=>
    have nt : ∀ us,¬ s.heap.IsTuple it us:=hi.elim fun o q=>notTup_cls q.1 (by rw [q.2.1]; simp)
    cases vs with
    | nil=>exact tp_some (wpAny_pyNext_tuple_end hh hi ht (drop_no hv) fun h' he=>nx_but (tk:=s.toks) R RV own hP p nt he fun B=>.stop)
    | cons v vs=>
      obtain ⟨u,e1,e2,e3⟩:=drop_el hv
      exact tp_some (wpAny_pyNext_tuple_item hi ht (toA e1) fun h' hi' hs=>nx_but (tk:=s.toks) R RV own hP p nt (fun b o nb e=>(hs.2 b nb).trans e) fun B=>.item v _ u .none (B.rel e2) (it_but own live B (hi'.elim fun o q=>⟨o,q.1⟩) (.tup it T (j + 1) us vs p hi' (B.tup _ _ ht) (Cx.Vs.mono B.tup (fun _ _ e=>e) e3))) fun _ _ _ q=>nomatch q)
  | lsb it l j us vs p hi ht hv=>
    have nt : ∀ us,¬ s.heap.IsTuple it us:=hi.elim fun o q=>notTup_cls q.1 (by rw [q.2.1]; simp)
    have hl : s.heap.IsList l us.toArray:=ht.isList.elim fun o q=>⟨o,R.keep _ _ q.1,q.2⟩
    cases vs with
    | nil=>exact tp_some (wpAny_pyNext_list_end hh hi hl (drop_no hv) fun h' he=>nx_but (tk:=s.toks) R RV own hP p nt he fun B=>.stop)
    | cons v vs=>
      obtain ⟨u,e1,e2,e3⟩:=drop_el hv
      exact tp_some (wpAny_pyNext_list_item hi hl (toA e1) fun h' hi' hs=>nx_but (tk:=s.toks) R RV own hP p nt (fun b o nb e=>(hs.2 b nb).trans e) fun B=>.item v _ u .none (B.rel e2) (it_but own live B (hi'.elim fun o q=>⟨o,q.1⟩) (.lsb it l (j + 1) us vs p hi' ht (Cx.Vs.mono B.tup (fun _ _ e=>e) e3))) fun _ _ _ q=>nomatch q)
  | lst it l i k p hi hl=>exact tp_bn1 tp_eq fun o e=>tp_list (R.obj i l o hl e) fun _ r L=>tp_some (nx_list hh R RV own live hP p hi hl L)
  | rng it k m p hi hk=>
    have nt : ∀ us,¬ s.heap.IsTuple it us:=notTup_cls hi (by simp)
    refine tp_some ?_
    cases e : Nat.blt k m with
    | true=>
      have hlt:=Nat.blt_eq.mp e
      exact wpAny_pyNext_range_item hi (by omega) fun h' hi' hs=>nx_but R RV own hP p nt (fun b o nb e=>(hs.2 b nb).trans e) fun B=>.item _ _ _ .none v_int (it_but own live B ⟨_,hi'⟩ (.rng it (k + 1) m p (by
        rw [show ((k : Int) + 1) = ((k + 1 : Nat) : Int) from rfl,show ((m : Int) - (k : Int) - 1) = ((m : Int) - ((k + 1 : Nat) : Int)) by omega] at hi'
        exact hi') hlt)) fun _ _ _ q=>nomatch q
    | false=>
      have hge : ¬ k < m:=fun q=>by rw [Nat.blt_eq.mpr q] at e; cases e
      exact wpAny_pyNext_range_end hh hi (by omega) fun h' he=>nx_but (tk:=s.toks) R RV own hP p nt he fun B=>.stop
  | nil b z TI TO i1 i2 l p d1 d2 hz hT h1 hl=>
    exact tp_some (next_zip_end (b1:=b) hh d1 d2 hz hT h1 (hl.seq R) rfl fun h' hk=>by
      have n1 : ∀ us,¬ s.heap.IsTuple it us:=notTup_cls hz (by simp)
      have n2 : ∀ us,¬ s.heap.IsTuple i1 us:=notTup_cls h1 (by unfold itObj; cases b <;> simp)
      have hs : ∀ b o,¬ (b = it ∨ b = i1) → s.heap.get? b = some o → h'.get? b = some o:=fun b o n e=>hk b o (fun q=>n (.inl q)) (fun q=>n (.inr q)) e
      have hO : ∀ a,a = it ∨ a = i1 → (∀ us,¬ s.heap.IsTuple a us) ∧ c.B.get? a = none ∧ a ∉ ρ:=fun a q=>q.elim (fun q=>q ▸ ⟨n1,own _ p.1⟩) fun q=>q ▸ ⟨n2,own _ p.2.2⟩
      have ht : ∀ b us,s.heap.IsTuple b us → h'.IsTuple b us:=fun b us t=>tup_keep (fun o=>hs b o fun p=>(hO b p).1 us t) t
      have hs' : ∀ b o,¬ P b → s.heap.get? b = some o → h'.get? b = some o:=fun b o n e=>hs b o (fun q=>n (q.elim (fun q=>q ▸ p.1) fun q=>q ▸ p.2.2)) e
      exact ⟨R.others hO hs,RV.stepX (fun e=>Cx.V.mono ht (fun _ _ e=>e) e) (fun b o w e=>hs' b o (fun p=>hP b p w) e) fun _ _ _ _ n=>n,hs',⟨rfl,rfl,rfl⟩,.stop⟩)
  | zip z TI TO i1 i2 l1 l2 i j k a b p D hz hT hO h1 h2 e1 e2=>
    have I : SrR c ρ s.heap P .none (.zip i j k) it:=.zip it TI TO i1 i2 l1 l2 i j k a b p D hz hT hO h1 h2 e1 e2
    exact tp_grd fun nV=>tp_grd fun nH=>tp_bn1 tp_eq fun o g1=>match o,g1 with
      | .list k1 r,g1=>tp_bn1 tp_eq fun o' g2=>match o',g2 with
        | .list k2 q,g2=>tp_some (nx_zip hh R RV own live hP I nV nH g1 g2)
        | .dict _ _,_ | .ns _ _,_ | .inst _ _,_ | .gone,_=>tp_none
      | .dict _ _,_ | .ns _ _,_ | .inst _ _,_ | .gone,_=>tp_none
end
section
variable {c : Cx} {G : Pg} {K : Frag} {D n m : Nat} {kd : Kd} {V V' V1 : List (Str × AV)} {ρ ρ' ρ0 ix t : List Addr} {H H' H1 H2 : Hs} {A : Around} {env : Env} {s s' s₀ : Shared} {x y v f : AV} {u w : Value} {h h' h0 : Heap} {a C it : Addr} {as fs vs r : List AV} {vals us : List Value} {X Y P : Addr → Prop} {E : Value → Shared → Prop} {z : Str} {tg : TG} {e : Expr} {sr sr' : Sr} {fr : Value} {o : AO} {fl : Fl} {ck : Bool}
inductive Plain (h : Heap) (it : Addr) : Prop
  | mk (o : Obj) (T : String) (vs : Array Value) (e : h.get? it = some o) (hc : o.cls = .type T) (hd : o.data = .fields vs) (k : (["enumerate","zip","dict_itemiterator","dict_reverseitemiterator","odict_iterator","itertools.zip_longest","itertools.pairwise"].contains T) = false ∨ ∀ a : Addr,(vs[0]? == some (rawInt a)) = false) : Plain h it
theorem letgo_plain {es : List Expr} {k : Nat} {pos : Pos} {Q : Unit → Shared → Prop} (p : Plain s.heap it) (h : Q () s) : wpAny (model c.prog c.w) A (letOwnedTupleGo (.Tuple es k pos) (.ref it) u) Q E s:=match p with
  | .mk o T vs e hc hd q=>by
    unfold letOwnedTupleGo
    cases u with
    | ref a=>
      refine wpAny_bind (wpAny_load e ?_)
      rw [hc,hd]
      dsimp only
      rw [if_neg (q.elim (fun q=>by rw [q,Bool.false_and]; exact Bool.false_ne_true) fun q=>by rw [q a,Bool.and_false]; exact Bool.false_ne_true)]
      exact wpAny_pure h
    | _=>exact wpAny_pure h
theorem letgo_ok {es : List Expr} {k : Nat} {pos : Pos} {Q : Unit → Shared → Prop} (R : RelH c ρ H s.heap) (RV : RelV c env kd V ρ s.heap) (I : ItR c ρ s.heap P fr sr it) (hP : ∀ a,P a → ¬ ownOf env a) (hf : ∀ i j k,sr = .zip i j k → ∃ T : Nat,fr = rawInt (T : Int) ∧ u = .ref T)
    (K : ∀ s',RelH c ρ H s'.heap → RelV c env kd V ρ s'.heap → (∀ b o,¬ P b → s.heap.get? b = some o → s'.heap.get? b = some o) → Same s s' → ItR c ρ s'.heap P .none sr it → (∀ v u,c.V s.heap ρ v u → c.V s'.heap ρ v u) → Q () s') : wpAny (model c.prog c.w) A (letOwnedTupleGo (.Tuple es k pos) (.ref it) u) Q E s:=by
  obtain ⟨own,live,rel⟩:=I
  have now : SrR c ρ s.heap P .none sr it → Q () s:=fun q=>K s R RV (fun _ _ _ e=>e) (.refl s) ⟨own,live,q⟩ fun _ _ e=>e
  cases rel with
  | tup it T j us vs p hi ht hv=>exact letgo_plain (hi.elim fun o q=>.mk o _ _ q.1 q.2.1 q.2.2 (.inl (by decide +kernel))) (now (.tup it T j us vs p hi ht hv))
  | lsb it l j us vs p hi ht hv=>exact letgo_plain (hi.elim fun o q=>.mk o _ _ q.1 q.2.1 q.2.2 (.inl (by decide +kernel))) (now (.lsb it l j us vs p hi ht hv))
  | lst it l i k p hi hl=>exact letgo_plain (hi.elim fun o q=>.mk o _ _ q.1 q.2.1 q.2.2 (.inl (by decide +kernel))) (now (.lst it l i k p hi hl))
  | rng it k m p hi hk=>exact letgo_plain (.mk _ _ _ hi rfl rfl (.inl (by decide +kernel))) (now (.rng it k m p hi hk))
  | nil b z TI TO i1 i2 l p d1 d2 hz hT h1 hl=>exact letgo_plain (.mk _ _ _ hz rfl rfl (.inr fun _=>by simp [rawInt])) (now (.nil b it TI TO i1 i2 l p d1 d2 hz hT h1 hl))
  | zip z TI TO i1 i2 l1 l2 i j k a b p D hz hT hO h1 h2 e1 e2=>
    obtain ⟨T,rfl,rfl⟩:=hf _ _ _ rfl
    refine wpAny_letOwnedTupleGo_zip hz fun h' hz' hs'=>?_
    have B : But it s.heap h':=⟨notTup_cls hz (by simp),fun b o nb e=>(hs'.2 b nb).trans e⟩
    exact K { s with heap:=h' } (R.but B (own _ p.1).1 (own _ p.1).2) (RV.but B (hP _ p.1)) (fun b o nb e=>B.keep b o (fun q=>nb (q ▸ p.1)) e) ⟨rfl,rfl,rfl⟩
      (it_but own live B ⟨_,hz'⟩ (.zip it TI TO i1 i2 l1 l2 i j k a b p D hz' (B.keep _ _ D.TIz hT) (B.keep _ _ D.TOz hO) (h1.at fun o e=>B.keep _ o D.i1z e) (h2.at fun o e=>B.keep _ o D.i2z e) e1 e2)) fun _ _ e=>B.rel e
structure Skip (P X : Addr → Prop) (ρ : List Addr) (h h' : Heap) : Prop where
  hs : ∀ b o,¬ P b → ¬ X b → b ∉ ρ → h.get? b = some o → h'.get? b = some o
  lv : ∀ b o,¬ P b → h.get? b = some o → ∃ o',h'.get? b = some o'
theorem Step.skip (S : Step ρ0 X ρ h0 h) (k : Skip P X ρ h h') (hf : ∀ a,P a → h0.get? a = .none) : Step ρ0 X ρ h0 h':=
  have np : ∀ {b o},h0.get? b = some o → ¬ P b:=fun e p=>nomatch (hf _ p).symm.trans e
  ⟨fun b o e n q=>k.hs b o (np e) q (S.not e n) (S.keep b o e n q),S.pre,fun b o e=>(S.live b o e).elim fun o' e'=>k.lv b o' (np e) e'⟩
structure Drawn (ck : Bool) (c : Cx) (env : Env) (kd : Kd) (ρ : List Addr) (H : Hs) (V' : Vs) (P : Addr → Prop) (s : Shared) (sr : Sr) (it : Addr) (s' : Shared) : Prop where
  R : RelH c ρ H s'.heap
  RV : RelV c env kd V' ρ s'.heap
  I : ItR c ρ s'.heap P .none sr it
  k : Skip P (XC ck env) ρ s.heap s'.heap
  M : Same s s'
structure Ended (ck : Bool) (c : Cx) (env : Env) (kd : Kd) (ρ : List Addr) (H : Hs) (V : Vs) (P : Addr → Prop) (s s' : Shared) : Prop where
  R : RelH c ρ H s'.heap
  RV : RelV c env kd V ρ s'.heap
  k : Skip P (XC ck env) ρ s.heap s'.heap
  M : Same s s'
def DrawT (ck : Bool) (c : Cx) (n : Nat) (kd : Kd) (e : Expr) (tg : TG) (V : Vs) (H : Hs) (sr : Sr) (r : Option (AV × Sr)) : Prop:=∀ (A : Around) (env : Env) (ρ : List Addr) (s : Shared) (it : Addr) (P : Addr → Prop),St c n kd V H A env ρ s → ItR c ρ s.heap P .none sr it → (∀ a,P a → ¬ ownOf env a) → match r with
  | none=>wpAny (model c.prog c.w) A (pyNext (.ref it)) (fun w s'=>w = none ∧ Ended ck c env kd ρ H V P s s') NoE s
  | some (v,sr')=>∀ V1,bindS sr' tg v V = some V1 → wpAny (model c.prog c.w) A (pyNext (.ref it)) (fun w s1=>∃ u,w = some u ∧ wpAny (model c.prog c.w) A (letOwnedTupleGo e (.ref it) u) (fun _ s2=>wpAny (model c.prog c.w) A (assign e env u) (fun _ s3=>Drawn ck c env kd ρ H V1 P s sr' it s3) NoE s2) NoE s1) NoE s
theorem bindS_el {T : Prop} (h : bindS sr tg v V = some V1) (k1 : (∀ i j k,sr ≠ .zip i j k) → bindT tg v V = some V1 → T) (k2 : ∀ xs,tg = .tp xs → bindT tg v V = some V1 → T) : T:=match sr,h with
  | .zip i j k,h=>match tg,h,k2 with | .tp xs,h,k2=>k2 xs rfl h
  | .fix _,h=>k1 (fun _ _ _ q=>nomatch q) h
  | .lst _ _,h=>k1 (fun _ _ _ q=>nomatch q) h
  | .rng _ _,h=>k1 (fun _ _ _ q=>nomatch q) h
  | .nil,h=>k1 (fun _ _ _ q=>nomatch q) h
theorem drawn_bind {s1 : Shared} (hh : A.handled = none) (R : RelH c ρ H s1.heap) (RV : RelV c env kd V ρ s1.heap) (ho : okTG ck kd tg e = true) (hu : c.V s1.heap ρ v u) (hb : bindT tg v V = some V1) (I : ItR c ρ s1.heap P .none sr it) (hP : ∀ a,P a → ¬ ownOf env a)
    (hs : ∀ b o,¬ P b → s.heap.get? b = some o → s1.heap.get? b = some o) (M : Same s s1) : wpAny (model c.prog c.w) A (assign e env u) (fun _ s3=>Drawn ck c env kd ρ H V1 P s sr it s3) NoE s1:=
  go (bindT_ok hh R RV ho hu V1 hb) fun _ s3 p=>⟨p.R,p.RV,I.step R p.S (notX_tup RV) fun a pa q=>hP a pa (xc_own q),⟨fun b o nb nx nr e=>p.S.keep b o (hs b o nb e) nr nx,fun b o nb e=>p.S.live b o (hs b o nb e)⟩,M.trans p.M⟩
theorem letgo_name {y : Str} {p : Pos} {Q : Unit → Shared → Prop} (h : Q () s) : wpAny (model c.prog c.w) A (letOwnedTupleGo (.Name y p) (.ref it) u) Q E s:=wpAny_pure h
theorem itr_none (I : ItR c ρ h P fr sr it) (n : ∀ i j k,sr ≠ .zip i j k) : ItR c ρ h P .none sr it:=⟨I.own,I.live,by
  have r:=I.rel
  cases r
  · exact .tup _ _ _ _ _ (by assumption) (by assumption) (by assumption) (by assumption)
  · exact .lsb _ _ _ _ _ (by assumption) (by assumption) (by assumption) (by assumption)
  · exact .lst _ _ _ _ (by assumption) (by assumption) (by assumption)
  · exact .rng _ _ _ (by assumption) (by assumption) (by assumption)
  · exact .nil _ _ _ _ _ _ _ (by assumption) (by assumption) (by assumption) (by assumption) (by assumption) (by assumption) (by assumption)
  · exact absurd rfl (n _ _ _)⟩
theorem draw (ho : okTG ck kd tg e = true) : TP (nextS V H sr) (DrawT ck c n kd e tg V H sr):=fun r hr A env ρ s it P X I hP=>by
  have N:=next_ok (E:=NoE) X.a.hd X.R X.RV I hP r hr
  cases r with
  | none=>exact go N fun w s1 q=>⟨by cases q.q; rfl,q.R,q.RV,⟨fun b o nb _ _ e=>q.hs b o nb e,fun b o nb e=>⟨o,q.hs b o nb e⟩⟩,q.M⟩
  | some p=>
    obtain ⟨v,sr'⟩:=p
    intro V1 hb
    refine go N fun w s1 q=>?_
    obtain ⟨R,RV,hs,M,q⟩:=q
    cases q with
    | item _ _ u fr hu I hf=>
      refine ⟨u,rfl,?_⟩
      have named : (∀ i j k,sr' ≠ .zip i j k) → bindT tg v V = some V1 → ∀ s1',s1' = s1 → wpAny (model c.prog c.w) A (assign e env u) (fun _ s3=>Drawn ck c env kd ρ H V1 P s sr' it s3) NoE s1':=fun n hb s1' q=>by
        subst q
        exact drawn_bind X.a.hd R RV ho hu hb (itr_none I n) hP hs M
      have tup : ∀ xs,tg = .tp xs → bindT tg v V = some V1 → wpAny (model c.prog c.w) A (letOwnedTupleGo e (.ref it) u) (fun _ s2=>wpAny (model c.prog c.w) A (assign e env u) (fun _ s3=>Drawn ck c env kd ρ H V1 P s sr' it s3) NoE s2) NoE s1:=fun xs q hb=>by
        have ho':=ho
        rw [q] at ho'
        refine xTuple_el (M:=fun e=>okTG ck kd tg e = true → wpAny (model c.prog c.w) A (letOwnedTupleGo e (.ref it) u) (fun _ s2=>wpAny (model c.prog c.w) A (assign e env u) (fun _ s3=>Drawn ck c env kd ρ H V1 P s sr' it s3) NoE s2) NoE s1) ho' (fun es k p _ ho=>?_) ho
        exact letgo_ok R RV I hP hf fun s2 R2 RV2 hs2 M2 I2 hv=>drawn_bind X.a.hd R2 RV2 ho (hv _ _ hu) hb I2 hP (fun b o nb e=>hs2 b o nb (hs b o nb e)) (M.trans M2)
      exact bindS_el hb (fun n hb=>match tg,ho,named n hb,tup with
        | .nm x,ho,named,_=>xName_el (M:=fun e=>(∀ s1',s1' = s1 → wpAny (model c.prog c.w) A (assign e env u) (fun _ s3=>Drawn ck c env kd ρ H V1 P s sr' it s3) NoE s1') → wpAny (model c.prog c.w) A (letOwnedTupleGo e (.ref it) u) (fun _ s2=>wpAny (model c.prog c.w) A (assign e env u) (fun _ s3=>Drawn ck c env kd ρ H V1 P s sr' it s3) NoE s2) NoE s1) ho (fun y p _ named=>letgo_name (named s1 rfl)) named
        | .tp xs,_,_,tup=>tup xs rfl hb) tup
end
section
variable {c : Cx} {G : Pg} {K : Frag} {D n m k : Nat} {kd : Kd} {V V' V1 V2 : List (Str × AV)} {ρ ρ' ρ0 ix t : List Addr} {H H' H1 H2 : Hs} {A : Around} {env : Env} {s s' s₀ : Shared} {x y v w f : AV} {u : Value} {h h' h0 : Heap} {a C it : Addr} {as fs vs r : List AV} {vals us : List Value} {X Y P : Addr → Prop} {E : Value → Shared → Prop} {z : Str} {tg : TG} {e : Expr} {sr sr' : Sr} {fr : Value} {o : AO} {fl : Fl} {es : List Expr} {pos : Pos} {body : List Stmt}
def SrcT (c : Cx) (n : Nat) (kd : Kd) (e : Expr) (V : Vs) (H : Hs) (sr : Sr) (H1 : Hs) : Prop:=∀ (A : Around) (env : Env) (ρ : List Addr) (s : Shared),St c n kd V H A env ρ s → wpAny (model c.prog c.w) A (eval e env) (fun x s1=>wpAny (model c.prog c.w) A (pyIter x) (SrcP c ρ s H1 sr) NoE s1) NoE s
def CallS (c : Cx) (n : Nat) (b : Bi) (vs : List AV) (H1 : Hs) (sr : Sr) : Prop:=∀ (A : Around) (ρ : List Addr) (s : Shared) (us : List Value),AOk A n → RelH c ρ H1 s.heap → c.Vs s.heap ρ vs us → wpAny (model c.prog c.w) A (call (biVal b) us) (fun x s1=>wpAny (model c.prog c.w) A (pyIter x) (SrcP c ρ s H1 sr) NoE s1) NoE s
theorem src_call {b : Bi} {y : Str} {p : Pos} (T : TE c n kd (.Name y p) V H (.bi b) H) (Q : TEs c n kd es V H (vs,H1)) (C : CallS c n b vs H1 sr) : SrcT c n kd (.Call (.Name y p) es [] pos) V H sr H1:=fun A env ρ s X=>Call_Name rfl (T.go X fun ρ1 s1 u X1 V1 W1=>by
  obtain rfl : u = biVal b:=V1
  have key : wpAny (model c.prog c.w) A (evalArgs (biVal b) true (backTo pos (starEach es env)) []) (fun a s2=>wpAny (model c.prog c.w) A (call (biVal b) ([] ++ a.pos) a.kw) (fun x s1=>wpAny (model c.prog c.w) A (pyIter x) (SrcP c ρ s H1 sr) NoE s1) NoE s2) NoE s1:=
    Q.args X1 fun us s2 q=>match q with | .mk ρ2 R2 V2 W2=>go (C A ρ2 s2 us X.a R2 V2) fun _ _ q=>go q fun _ _ q=>q.from (W1.trans W2)
  exact (bi_cases b).elim (fun q=>q.elim fun i q=>by rw [q] at key ⊢; exact callWith_builtin (Q.any pos env) key) fun q=>q.elim fun i q=>by rw [q] at key ⊢; exact PyProof.Rows.callWith_type (Q.any pos env) key)
theorem rngS : TP (as1 vs fun v=>asNat v fun n=>grd (small n) (some (Sr.rng 0 n))) (CallS c n .range vs H):=fun sr e A ρ s us a R hv=>
  tp_as1 (T:=fun us sr=>wpAny (model c.prog c.w) A (call (.type "range") us) (fun x s1=>wpAny (model c.prog c.w) A (pyIter x) (SrcP c ρ s H sr) NoE s1) NoE s) hv (fun v z q=>tp_nat (T:=fun z sr=>wpAny (model c.prog c.w) A (call (.type "range") [z]) (fun x s1=>wpAny (model c.prog c.w) A (pyIter x) (SrcP c ρ s H sr) NoE s1) NoE s) q fun i t _=>tp_grd fun hz=>tp_some (rng_ok R hz)) sr e
theorem zipS (Bs : Base c K G D) : TP (as2 vs fun v w=>match v with
    | .tup l=>as0 l (asTup w fun _=>some Sr.nil)
    | .bs i=>bn1 (hget G.F i) fun o=>asList o fun _ r=>as0 r (asTup w fun _=>some Sr.nil)
    | v=>lstAt H v fun i _ _=>lstAt H w fun j _ _=>some (Sr.zip i j 0)) (CallS c n .zip vs H):=fun sr e A ρ s us a R hv=>
  tp_as2 (T:=fun us sr=>wpAny (model c.prog c.w) A (call (.type "zip") us) (fun x s1=>wpAny (model c.prog c.w) A (pyIter x) (SrcP c ρ s H sr) NoE s1) NoE s) hv (fun v w z z' q q'=>by
    have rest : TP (lstAt H v fun i _ _=>lstAt H w fun j _ _=>some (Sr.zip i j 0)) fun sr=>wpAny (model c.prog c.w) A (call (.type "zip") [z,z']) (fun x s1=>wpAny (model c.prog c.w) A (pyIter x) (SrcP c ρ s H sr) NoE s1) NoE s:=
      tp_lst (T:=fun z sr=>wpAny (model c.prog c.w) A (call (.type "zip") [z,z']) (fun x s1=>wpAny (model c.prog c.w) A (pyIter x) (SrcP c ρ s H sr) NoE s1) NoE s) R q fun i l1 _ _ e1 _ L1=>tp_lst (T:=fun z' sr=>wpAny (model c.prog c.w) A (call (.type "zip") [.ref l1,z']) (fun x s1=>wpAny (model c.prog c.w) A (pyIter x) (SrcP c ρ s H sr) NoE s1) NoE s) R q' fun j l2 _ _ e2 _ L2=>match L1,L2 with
        | .mk _ _ hp _,.mk _ _ hp' _=>tp_some (zip_ok R e1 e2 hp hp')
    cases v with
    | tup l=>exact un_tup (M:=fun z=>TP (as0 l (asTup w fun _=>some Sr.nil)) fun sr=>wpAny (model c.prog c.w) A (call (.type "zip") [z,z']) (fun x s1=>wpAny (model c.prog c.w) A (pyIter x) (SrcP c ρ s H sr) NoE s1) NoE s) q fun a us ht hv=>match l,hv with
        | [],hv=>tp_tup (T:=fun z' sr=>wpAny (model c.prog c.w) A (call (.type "zip") [.ref a,z']) (fun x s1=>wpAny (model c.prog c.w) A (pyIter x) (SrcP c ρ s H sr) NoE s1) NoE s) q' fun _ b _ _ ht' _=>tp_some (zip_nil false R (hv.un0 (M:=fun us=>s.heap.IsTuple a us.toArray → s.heap.IsTuple a #[]) (fun t=>t) ht) ht')
        | _ :: _,_=>tp_none
    | none=>exact rest
    | any=>exact rest
    | bool _=>exact rest
    | int _=>exact rest
    | str _=>exact rest
    | sym _=>exact rest
    | loc _=>exact rest
    | bs i=>exact un_bs (M:=fun z=>TP (bn1 (hget G.F i) fun o=>asList o fun _ r=>as0 r (asTup w fun _=>some Sr.nil)) fun sr=>wpAny (model c.prog c.w) A (call (.type "zip") [z,z']) (fun x s1=>wpAny (model c.prog c.w) A (pyIter x) (SrcP c ρ s H sr) NoE s1) NoE s) q fun a q=>tp_bn1 tp_eq fun o e=>tp_list (Bs.bF i a o q e) fun _ r L=>match r,L with
        | [],.mk us _ hp hv=>tp_tup (T:=fun z' sr=>wpAny (model c.prog c.w) A (call (.type "zip") [.ref a,z']) (fun x s1=>wpAny (model c.prog c.w) A (pyIter x) (SrcP c ρ s H sr) NoE s1) NoE s) q' fun _ b _ _ ht' _=>tp_some (zip_nil true R (Cx.Vs.un0 (M:=fun us=>c.B.PlainList a us.toArray → c.B.IsList a #[]) hv (fun t=>t.isList) hp) ht')
        | _ :: _,_=>tp_none
    | fn _=>exact rest
    | bi _=>exact rest) sr e
theorem gn_ok (Bs : Base c K G D) {okr : KE2} {d : D2} {b : Bi} {nm : Str} {γ : Type} {T : γ → Prop} {kk : Sr → Hs → Option γ} {mk : List AV → Hs → Option Sr} (R : SE2 c n okr d) (ho : okGN kd nm e (okr kd) = true) (hg : ∀ mg mb,c.B.Ns mainGlobals mg → c.B.Ns builtinsNs mb → GlobsR c G → TP (some ()) fun _=>(∃ mg mb,c.B.Ns mainGlobals mg ∧ c.B.Ns builtinsNs mb ∧ GlR c mg mb nm (.bi b)))
    (hm : ∀ vs H1,TP (mk vs H1) (CallS c n b vs H1)) (K : ∀ sr H1,SrcT c n kd e V H sr H1 → TP (kk sr H1) T) : TP (bnd (d.es V H) fun vs H1=>bn1 (mk vs H1) fun s=>kk s H1) T:=by
  obtain ⟨mg,mb,h1,h2,hx⟩:=match Bs.g with | .mk mg mb h1 h2 _ _ _=>hg mg mb h1 h2 Bs.g () rfl
  refine xCall_el (M:=fun e=>(∀ sr H1,SrcT c n kd e V H sr H1 → TP (kk sr H1) T) → TP (bnd (d.es V H) fun vs H1=>bn1 (mk vs H1) fun s=>kk s H1) T) ho (fun g as ks pos h=>b2_el h fun h0 h=>b2_el h fun h3 h4=>l0_el (M:=fun ks=>(∀ sr H1,SrcT c n kd (.Call g as ks pos) V H sr H1 → TP (kk sr H1) T) → TP (bnd (d.es V H) fun vs H1=>bn1 (mk vs H1) fun s=>kk s H1) T) h0
    (xName_el (M:=fun g=>(∀ sr H1,SrcT c n kd (.Call g as [] pos) V H sr H1 → TP (kk sr H1) T) → TP (bnd (d.es V H) fun vs H1=>bn1 (mk vs H1) fun s=>kk s H1) T) h3 fun y p h=>b2_el h fun e1 h=>b2_el h fun e2 e3=>?_)) K
  obtain rfl:=seqb_eq e1
  exact fun K=>tp_bnd (R.es kd as V H h4) fun vs H1 Q=>tp_bn1 (hm vs H1) fun sr C=>K sr H1 (src_call (te_gl h1 h2 e2 e3 hx) Q C)
theorem src_ok (Bs : Base c K G D) {okr : KE2} {d : D2} (R : SE2 c n okr d) {γ : Type} {T : γ → Prop} {kk : Sr → Hs → Option γ} (ho : okSr k (okr kd) kd e = true) (K : ∀ sr H1,SrcT c n kd e V H sr H1 → TP (kk sr H1) T) : TP (bnd (d.es V H) fun vs H1=>bn1 (mkSr k G.F H1 vs) fun s=>kk s H1) T:=match k,ho with
  | 0,ho=>tp_bnd (R.es kd [e] V H ho) fun vs H1 q=>(q.one e rfl).elim fun v z=>by
    obtain ⟨z1,T1⟩:=z
    obtain rfl : vs = [v]:=z1
    exact tp_bn1 tp_eq fun sr hs=>K sr H1 fun A env ρ s X=>T1.go X fun ρ1 s1 u X1 V1 W1=>go (iter_ok Bs X1.R V1 sr hs) fun _ _ q=>q.from W1
  | 1,ho=>gn_ok Bs R ho (fun mg mb _ _ g=>tp_some (match g with | .mk mg mb h1 h2 _ r _=>⟨mg,mb,h1,h2,r⟩)) (mk:=fun vs H1=>mkSr 1 G.F H1 vs) (fun vs H1=>rngS) K
  | k + 2,ho=>gn_ok Bs R ho (fun mg mb _ _ g=>tp_some (match g with | .mk mg mb h1 h2 _ _ r=>⟨mg,mb,h1,h2,r⟩)) (mk:=fun vs H1=>mkSr (k + 2) G.F H1 vs) (fun vs H1=>zipS Bs) K
theorem while_turn {M : Model} {test : Expr} {body : List Stmt} {R : Result → Shared → Prop} {prog : Program} {w : World}
    (h : wpAny (model prog w) A (isTrue test env (eval test env)) (fun b s₂=>
        if b then wpAny (model prog w) A (execs body env) (fun f s₃=>match f with
            | .next=>codeAny (model prog w) A (.whileLoop test body [] env) R s₃
            | .cont=>False
            | .brk=>False
            | .ret v=>R (.ok (.ret v)) s₃) (fun _ _=>False) s₂
        else R (.ok .next) s₂) (fun _ _=>False) s) : codeAny (model prog w) A (.whileLoop test body [] env) R s:=by
  refine codeAny_of_tree ?_
  show wpAny _ A ((whileTurn test body [] env).onRaise (fun x=>do noteFrame x env; theTreesLotGoes x)) _ _ s
  refine wpAny_noted ?_
  simp only [whileTurn]
  refine wpAny_bind (wpAny_mono h (fun b s₂ h₂=>?_) fun _ _ h'=>h'.elim)
  cases b with
  | false=>
    simp only [Bool.false_eq_true,if_false] at h₂ ⊢
    exact wpAny_bind (wpAny_execs_nil (wpAny_pure h₂))
  | true=>
    simp only [if_true] at h₂ ⊢
    refine wpAny_bind (wpAny_mono h₂ (fun f s₃ h₃=>?_) fun _ _ h'=>h'.elim)
    cases f with
    | next=>exact wpAny_pure ⟨rfl,h₃⟩
    | cont=>exact h₃.elim
    | brk=>exact h₃.elim
    | ret v=>exact wpAny_pure h₃
theorem for_turn {target : Expr} {it : Addr} {body : List Stmt} {R : Result → Shared → Prop} {prog : Program} {w : World}
    (h : wpAny (model prog w) A (pyNext (.ref it)) (fun r s₁=>match r with
      | none=>R (.ok .next) s₁
      | some v=>wpAny (model prog w) A (letOwnedTupleGo target (.ref it) v) (fun _ s1'=>wpAny (model prog w) A (assign target env v) (fun _ s₂=>wpAny (model prog w) A (execs body env) (fun f s₃=>match f with
          | .next=>codeAny (model prog w) A (.forLoop target (.ref it) body [] env) R s₃
          | .cont=>False
          | .brk=>False
          | .ret v=>R (.ok (.ret v)) s₃) (fun _ _=>False) s₂) (fun _ _=>False) s1') (fun _ _=>False) s₁) (fun _ _=>False) s) : codeAny (model prog w) A (.forLoop target (.ref it) body [] env) R s:=by
  refine codeAny_of_tree ?_
  show wpAny _ A ((forTurn target (.ref it) body [] env).onRaise (fun x=>do noteFrame x env; theTreesLotGoes x)) _ _ s
  refine wpAny_noted ?_
  simp only [forTurn]
  refine wpAny_bind (wpAny_standAt (wpAny_bind (wpAny_onRaise (wpAny_mono h (fun r s₁ h₁=>?_) fun _ _ h'=>h'.elim))))
  cases r with
  | none=>exact wpAny_pure ⟨rfl,codeAny_block (wpAny_execs_nil h₁)⟩
  | some v=>
    refine wpAny_bind (wpAny_mono h₁ (fun _ s₁' h₁'=>?_) fun _ _ h'=>h'.elim)
    refine wpAny_bind (wpAny_mono h₁' (fun _ s₂ h₂=>wpAny_bind (wpAny_mono h₂ (fun f s₃ h₃=>?_) fun _ _ h'=>h'.elim)) fun _ _ h'=>h'.elim)
    cases f with
    | next=>exact wpAny_pure ⟨rfl,h₃⟩
    | cont=>exact h₃.elim
    | brk=>exact h₃.elim
    | ret v=>exact wpAny_pure h₃
theorem tw_false (h1 : TT c n kd e V H false H1) : TW c n kd e body V H .next V H1:=fun A env ρ s X=>while_turn (M:=model c.prog c.w) (h1.go X fun ρ1 s1 X1 W1=>.mk _ rfl (.mk ρ1 X1.R X1.RV rfl W1.S.noX W1.M))
theorem tw_next {fl : Fl} (h1 : TT c n kd e V H true H1) (h2 : TSs c n kd body V H1 .next V1 H2) (h3 : TW c n kd e body V1 H2 fl V' H') : TW c n kd e body V H fl V' H':=fun A env ρ s X=>while_turn (M:=model c.prog c.w) (h1.go X fun ρ1 s1 X1 W1=>go (h2 A env ρ1 s1 X1) fun fw s2 p=>match p with
  | .mk ρ2 R2 RV2 F2 S2 M2=>by
    obtain rfl : fw = .next:=F2
    exact codeAny_mono (h3 A env ρ2 s2 ⟨X.a,R2,RV2⟩) fun r s3 p=>match p with | .mk f e q=>.mk f e (q.from (W1.S.noX.trans S2) (W1.M.trans M2)))
theorem tw_ret (h1 : TT c n kd e V H true H1) (h2 : TSs c n kd body V H1 (.ret v) V1 H2) : TW c n kd e body V H (.ret v) V1 H2:=fun A env ρ s X=>while_turn (M:=model c.prog c.w) (h1.go X fun ρ1 s1 X1 W1=>go (h2 A env ρ1 s1 X1) fun fw s2 p=>by
  obtain ⟨ρ2,R2,RV2,F2,S2,M2⟩:=p
  obtain ⟨u,hu⟩:=F2
  exact .mk _ rfl (.mk ρ2 R2 RV2 (.mk u hu) (W1.S.noX.trans S2) (W1.M.trans M2)))
def SS3 (c : Cx) (n : Nat) (ok : KS2) (d : D3) : Prop:=∀ kd ts V H,ok kd ts = true → TP (d V H) fun p=>TSs c n kd ts V H p.1 p.2.1 p.2.2
def SS1 (c : Cx) (n : Nat) (ok : KS1) (d : D3) : Prop:=∀ kd t V H,ok kd t = true → TP (d V H) fun p=>TS c n kd t V H p.1 p.2.1 p.2.2
theorem tt_of {b : Bool} (q : Both c n kd e V H (.bool b,H1)) : TT c n kd e V H b H1:=match q with | .mk _ B=>B b rfl
theorem whl_ok {ok : KE1} {okb : KS2} {cd : D1} {b : D3} (F : SE1 c n ok cd) (B : SS3 c n okb b) (h1 : ok kd e = true) (h2 : okb kd body = true) : ∀ (lf : Nat) (V : Vs) (H : Hs),TP (whlL cd b lf V H) fun p=>TW c n kd e body V H p.1 p.2.1 p.2.2
  | 0,V,H=>tp_none
  | lf + 1,V,H=>tp_bnd (F kd e V H h1) fun x H1 q=>both_bool q fun t q=>tp_iff (fun z=>by
      subst z
      exact tp_bn3 (B kd body V H1 h2) (fun V1 H2 T=>tp_mono (whl_ok F B h1 h2 lf V1 H2) fun p W=>tw_next (tt_of q) T W) fun v V1 H2 T=>tp_some (tw_ret (tt_of q) T)) fun z=>by
      subst z
      exact tp_some (tw_false (tt_of q))
inductive PF (c : Cx) (env : Env) (kd : Kd) (ρ0 : List Addr) (h0 : Heap) (s : Shared) (fl : Fl) (V' : Vs) (H' : Hs) (r : Result) (s' : Shared) : Prop
  | mk (f : Flow) (e : r = .ok f) (ρ' : List Addr) (R : RelH c ρ' H' s'.heap) (RV : RelV c env kd V' ρ' s'.heap) (F : FRel c s'.heap ρ' fl f) (S : Step ρ0 (Mine.ownOf env) ρ' h0 s'.heap) (M : Same s s')
def TF (c : Cx) (n : Nat) (kd : Kd) (e : Expr) (sr : Sr) (b : List Stmt) (V : Vs) (H : Hs) (fl : Fl) (V' : Vs) (H' : Hs) : Prop:=
  ∀ (A : Around) (env : Env) (ρ : List Addr) (s : Shared) (it : Addr) (P : Addr → Prop) (ρ0 : List Addr) (h0 : Heap),St c n kd V H A env ρ s → ItR c ρ s.heap P .none sr it → (∀ a,P a → ¬ ownOf env a) → (∀ a,P a → h0.get? a = none) → Step ρ0 (Mine.ownOf env) ρ h0 s.heap →
    codeAny (model c.prog c.w) A (.forLoop e (.ref it) b [] env) (PF c env kd ρ0 h0 s fl V' H') s
theorem Skip.own {ck : Bool} (k : Skip P (XC ck env) ρ h h') : Skip P (Mine.ownOf env) ρ h h':=⟨fun b o p q=>k.hs b o p fun z=>q (xc_own z),k.lv⟩
theorem tf_end (d : DrawT true c n kd e tg V H sr none) : TF c n kd e sr body V H .next V H:=fun A env ρ s it P ρ0 h0 X I hP hf S0=>for_turn (go (d A env ρ s it P X I hP) fun w s1 q=>by
  obtain ⟨rfl,R,RV,k,M⟩:=q
  exact .mk _ rfl ρ R RV rfl (S0.skip k.own hf) M)
theorem tf_item {fl1 : Fl} (d : DrawT true c n kd e tg V H sr (some (v,sr'))) (hb : bindS sr' tg v V = some V1) (T : TSs c n kd body V1 H fl1 V2 H2) (k : (fl1 = .next ∧ TF c n kd e sr' body V2 H2 fl V' H') ∨ (fl1 ≠ .next ∧ fl = fl1 ∧ V' = V2 ∧ H' = H2)) : TF c n kd e sr body V H fl V' H':=fun A env ρ s it P ρ0 h0 X I hP hf S0=>
  for_turn (go (d A env ρ s it P X I hP V1 hb) fun w s1 q=>by
    obtain ⟨u,rfl,q⟩:=q
    refine go q fun _ s2 q=>go q fun _ s3 q=>?_
    have S3:=S0.skip q.k.own hf
    refine go (T A env ρ s3 ⟨X.a,q.R,q.RV⟩) fun fw s4 p=>?_
    obtain ⟨ρ4,R4,RV4,F4,S4,M4⟩:=p
    have I4:=q.I.step q.R S4 (notOwn_tup q.RV) hP
    rcases k with ⟨rfl,k⟩ | ⟨n1,rfl,rfl,rfl⟩
    · obtain rfl : fw = .next:=F4
      exact codeAny_mono (k A env ρ4 s4 it P ρ0 h0 ⟨X.a,R4,RV4⟩ I4 hP hf (S3.trans S4)) fun r s5 p=>match p with | .mk f e ρ5 R5 RV5 F5 S5 M5=>.mk f e ρ5 R5 RV5 F5 S5 ((q.M.trans M4).trans M5)
    · cases fl with
      | next=>exact absurd rfl n1
      | ret v=>obtain ⟨u,hu⟩:=F4; exact .mk _ rfl ρ4 R4 RV4 (.mk u hu) (S3.trans S4) (q.M.trans M4))
theorem for_ok {okb : KS2} {b : D3} (B : SS3 c n okb b) (h1 : okTG true kd tg e = true) (h2 : okb kd body = true) : ∀ (lf : Nat) (sr : Sr) (V : Vs) (H : Hs),TP (forL tg b lf sr V H) fun p=>TF c n kd e sr body V H p.1 p.2.1 p.2.2
  | 0,sr,V,H=>tp_none
  | lf + 1,sr,V,H=>tp_bn1 (draw h1) fun x d=>match x,d with
    | none,d=>tp_some (tf_end d)
    | some (v,sr'),d=>tp_bn1 tp_eq fun V1 hV=>tp_bn3 (B kd body V1 H h2) (fun V2 H2 T=>tp_mono (for_ok B h1 h2 lf sr' V2 H2) fun p F=>tf_item d hV T (.inl ⟨rfl,F⟩)) fun v V2 H2 T=>tp_some (tf_item d hV T (.inr ⟨(fun q=>nomatch q),rfl,rfl,rfl⟩))
end
section
variable {c : Cx} {G : Pg} {K : Frag} {D n m k : Nat} {kd : Kd} {V V' V1 V2 : List (Str × AV)} {ρ ρ' ρ0 ix t : List Addr} {H H' H1 H2 : Hs} {A : Around} {env : Env} {s s' s₀ : Shared} {x y v w i : AV} {u ou iu : Value} {h h' h0 : Heap} {a C : Addr} {as fs vs r : List AV} {vals us : List Value} {E : Value → Shared → Prop} {z : Str} {e : Expr} {o : AO} {ob : Obj} {ks : List Str}
theorem setItem_plain {l : Addr} {items : Array Value} {k : Int} {t : Tok} {v : Value} {Q : Unit → Shared → Prop} {E : Value → Shared → Prop} (hl : s.heap.PlainList l items) (h0 : 0 ≤ k) (hfit : k < 2 ^ 63) (hn : k < items.size)
    (hQ : ∀ h',h'.PlainList l (items.setIfInBounds k.toNat v) → Heap.SameBut l s.heap h' → Q () { s with heap:=h' }) :
    wpAny (model c.prog c.w) A (setItem (.ref l) (.int k t) v) Q E s:=by
  have hl':=hl.isList
  obtain ⟨ne,ho⟩:=hl
  unfold setItem
  try with_reducible refine wpAny_holding ?_
  first | refine wpAny_bind (wpAny_pure ?_) | skip
  refine wpAny_bind (wpAny_sequenceKey hl'.typeIs (by decide) ?_)
  refine wpAny_bind (wpAny_callSpecial?_slot (name:=Str.ofString "__setitem__") hl'.typeIs slot_list_setitem
    (wpAny_call_entry slot_list_setitem hl'.typeIs entry_list_setitem ?_ (args_list_setitem _ _ _)))
  show wpAny _ _ (Builtin.List.listSubscript? (.int k t) >>= _) _ _ s
  refine wpAny_bind (wpAny_listSubscript_int (fitsIndex_of h0 hfit) ?_)
  clear hfit
  obtain ⟨j,rfl⟩:=Int.eq_ofNat_of_zero_le h0
  have hj : j < items.size:=by omega
  have hx' : items[j]? = some items[j]:=Array.getElem?_eq_getElem hj
  show wpAny _ _ ((seqItemAt l j >>= fun r=>pure (r.map (j,·))) >>= _) _ _ s
  refine wpAny_bind (wpAny_bind (wpAny_seqItemAt ho rfl (wpAny_pure ?_)))
  rw [hx']
  show wpAny _ _ (setSeqItemAt l j v >>= _) _ _ s
  obtain ⟨n',hd'⟩:=isL_upd ho (·.setIfInBounds j v)
  have hfin : (s.heap.update l (Obj.mapSeq (·.setIfInBounds j v))).PlainList l (items.setIfInBounds j v):=⟨n',hd'⟩
  refine wpAny_bind (wpAny_setSeqItemAt ho rfl ?_)
  first
    | exact wpAny_bind (wpAny_pure (wpAny_pure ⟨.none,rfl,wpAny_pure (hQ _ hfin (Heap.SameBut.update ..))⟩))
    | exact wpAny_pure ⟨.none,rfl,wpAny_pure (hQ _ hfin (Heap.SameBut.update ..))⟩
theorem setAt_ok : ∀ {vs : List AV} {us : List Value} {j : Nat},c.Vs h ρ vs us → c.V h ρ v u → c.Vs h ρ (setAt vs j v) (us.set j u)
  | [],us,j,e,q=>e.un0 (M:=fun us=>c.Vs h ρ [] (us.set j u)) .nil
  | a :: r,us,j,e,q=>e.un (M:=fun us=>c.Vs h ρ (setAt (a :: r) j v) (us.set j u)) fun w r' e1 e2=>match j with
    | 0=>.cons q e2
    | j + 1=>.cons e1 (setAt_ok e2 q)
theorem setAt_len : ∀ {vs : List AV} {j : Nat} {v : AV},(setAt vs j v).length = vs.length
  | [],_,_=>rfl
  | _ :: _,0,_=>rfl
  | a :: r,j + 1,v=>congrArg (· + 1) (setAt_len (vs:=r))
inductive PutR (c : Cx) (h : Heap) (ρ : List Addr) (p : List Str × List AV) (L : List (Str × Value) → Prop) : Prop
  | mk (us : List Value) (e : L (kv p.1 us)) (hl : p.1.length = us.length) (hv : c.Vs h ρ p.2 us)
theorem kput_cons {k : Str} {vs : List AV} : kput (k :: ks) z v (w :: vs) = match seqb k z with | true=>(k :: ks,v :: vs) | false=>(k :: (kput ks z v vs).1,w :: (kput ks z v vs).2):=rfl
theorem kput_rec {L : List Str → List Value → List (Str × Value) → Prop} (hu : c.V h ρ v u) (h0 : L [] [] [(z,u)]) (h1 : ∀ k ks w us,k = z → L (k :: ks) (w :: us) ((k,u) :: kv ks us)) (h2 : ∀ k ks w us l,k ≠ z → L ks us l → L (k :: ks) (w :: us) ((k,w) :: l)) :
    ∀ {ks : List Str} {us : List Value} {vs : List AV},ks.length = us.length → c.Vs h ρ vs us → PutR c h ρ (kput ks z v vs) (L ks us)
  | [],[],vs,hl,hv=>by
    obtain rfl : vs = []:=List.length_eq_zero_iff.mp hv.len
    exact .mk [u] h0 rfl (.one hu)
  | k :: ks,w :: us,[],hl,hv=>nomatch hv.len
  | k :: ks,w :: us,y :: vs,hl,hv=>by
    have e1 : c.V h ρ y w:=hv.un (M:=fun l=>l = w :: us → c.V h ρ y w) (fun u r e _ q=>(List.cons.inj q).1 ▸ e) rfl
    have e2 : c.Vs h ρ vs us:=hv.un (M:=fun l=>l = w :: us → c.Vs h ρ vs us) (fun u r _ e q=>(List.cons.inj q).2 ▸ e) rfl
    rw [kput_cons]
    cases q : seqb k z with
    | true=>exact .mk (u :: us) (h1 k ks w us (seqb_eq q)) hl (.cons hu e2)
    | false=>
      obtain ⟨us',a1,a2,a3⟩:=kput_rec hu h0 h1 h2 (Nat.succ.inj hl) e2
      exact .mk (w :: us') (h2 k ks w us _ (seqb_ne q) a1) (congrArg (· + 1) a2) (.cons e1 a3)
theorem stored_hit {k : Str} {w : Value} {l : List (Str × Value)} (hn : ∀ p ∈ l,p.1 ≠ k) : stored ((k,w) :: l) k u = (k,u) :: l:=by
  unfold stored
  rw [if_pos (by simp),List.map_cons,if_pos rfl]
  refine congrArg _ ((List.map_congr_left fun p hp=>?_).trans (List.map_id l))
  rw [if_neg (hn p hp)]; rfl
theorem stored_miss {k : Str} {w : Value} {l : List (Str × Value)} (hn : k ≠ z) : stored ((k,w) :: l) z u = (k,w) :: stored l z u:=by
  unfold stored
  by_cases hany : l.any (fun kv=>decide (kv.1 = z)) = true
  · rw [if_pos hany,if_pos (by rw [List.any_cons,hany,Bool.or_true]),List.map_cons,if_neg hn]
  · rw [if_neg hany,if_neg (by rw [List.any_cons]; simpa [decide_eq_false hn] using hany)]; rfl
theorem kput_stored (hn : ks.Nodup) (hl : ks.length = us.length) (hv : c.Vs h ρ vs us) (hu : c.V h ρ v u) : PutR c h ρ (kput ks z v vs) fun l=>l = stored (kv ks us) z u:=match kput_rec (L:=fun ks us l=>ks.Nodup → l = stored (kv ks us) z u) hu (fun _=>rfl)
    (fun k ks w us q hn=>by subst q; exact (stored_hit (k:=k) fun p hp e=>(List.nodup_cons.mp hn).1 (by rw [← e]; exact (List.of_mem_zip hp).1)).symm) (fun k ks w us l q ih hn=>by rw [ih (List.nodup_cons.mp hn).2]; exact (stored_miss q).symm) hl hv with
  | .mk us' e a b=>.mk us' (e hn) a b
theorem value_cons {k y : Str} {l : List (Str × Value)} : valueAt ((k,u) :: l) y = if k = y then some u else valueAt l y:=by
  unfold valueAt
  rw [List.find?_cons]
  by_cases hk : k = y <;> simp [hk]
theorem kput_value (hl : ks.length = us.length) (hv : c.Vs h ρ vs us) (hu : c.V h ρ v u) : PutR c h ρ (kput ks z v vs) fun l=>∀ y,valueAt l y = if y = z then some u else valueAt (kv ks us) y:=
  kput_rec (L:=fun ks us l=>∀ y,valueAt l y = if y = z then some u else valueAt (kv ks us) y) hu
    (fun y=>by rw [value_cons]; exact ite_congr (propext eq_comm) (fun _=>rfl) fun _=>rfl)
    (fun k ks w us q y=>by
      subst q
      show _ = if y = k then some u else valueAt ((k,w) :: kv ks us) y
      rw [value_cons,value_cons]
      by_cases q : k = y
      · rw [if_pos q,if_pos q.symm]
      · rw [if_neg q,if_neg q,if_neg fun e=>q e.symm])
    (fun k ks w us l q ih y=>by
      show _ = if y = z then some u else valueAt ((k,w) :: kv ks us) y
      rw [value_cons,value_cons,ih]
      by_cases p : k = y
      · rw [if_pos p,if_pos p,if_neg fun e=>q (p.trans e)]
      · rw [if_neg p,if_neg p]) hl hv
theorem dict_notTup {l : List (Str × Value)} (x : h.DictOf (PySem.strKind c.prog c.w) a l) : ∀ us,¬ h.IsTuple a us:=by
  obtain ⟨o,es,ep,e,_,hd,_⟩:=x
  exact notTup_data e fun us n q=>by rw [hd] at q; cases q
theorem kv_keys (h : ks.length = us.length) : (kv ks us).map (·.1) = ks:=List.map_fst_zip (Nat.le_of_eq h)
structure SetP (c : Cx) (ρ : List Addr) (H' : Hs) (s s' : Shared) : Prop where
  R : RelH c ρ H' s'.heap
  W : Aft ρ s ρ s'
theorem set_fin {j : Nat} (R : RelH c ρ H s.heap) (ea : hget ρ j = some a) (hs : Heap.SameBut a s.heap h') (e : h'.get? a = some ob) (hn : ∀ us,¬ h'.IsTuple a us) (hq : s'.heap = h') (M : Same s s')
    (r : (∀ {v : AV} {u : Value},c.V s.heap ρ v u → c.V h' ρ v u) → (∀ {v : List AV} {u : List Value},c.Vs s.heap ρ v u → c.Vs h' ρ v u) → ORel c h' ρ ρ o a) : SetP c ρ (setN H j o) s s':=by
  subst hq
  have S : Step ρ noX ρ s.heap s'.heap:=Step.change (hget_mem ea) hs e
  exact ⟨R.change ea hs e hn (r (S.rel R noX_no) (S.rels R noX_no)),S,M⟩
theorem setI_ok (R : RelH c ρ H s.heap) (ho : c.V s.heap ρ x ou) (hi : c.V s.heap ρ i iu) (hu : c.V s.heap ρ v u) : TP (setI H x i v) fun H'=>wpAny (model c.prog c.w) A (setItem ou iu u) (fun _ s'=>SetP c ρ H' s s') E s:=
  tp_loc (T:=fun ou H'=>wpAny (model c.prog c.w) A (setItem ou iu u) (fun _ s'=>SetP c ρ H' s s') E s) ho fun n a ea=>tp_bn1 tp_eq fun ob eo=>match ob,R.obj n a ob ea eo with
    | .list m r,.mk us l1 ht h1=>tp_nat (T:=fun iu H'=>wpAny (model c.prog c.w) A (setItem (.ref a) iu u) (fun _ s'=>SetP c ρ H' s s') E s) hi fun j t _=>tp_grd fun b1=>tp_grd fun b2=>tp_some (by
      have b1:=Nat.blt_eq.mp b1
      have b2:=Nat.le_of_ble_eq_true b2
      have z1:=h1.len
      rw [List.length_reverse] at z1
      refine setItem_plain (k:=(j : Int)) ht (by omega) (by omega) (by rw [List.size_toArray]; omega) fun h' hp hs=>?_
      have hp' : h'.PlainList a (us.set j u).toArray:=by simpa using hp
      obtain ⟨z,hz⟩:=id hp'
      exact set_fin R ea hs hz (notTup_cls hz (by simp)) rfl ⟨rfl,rfl,rfl⟩ fun r1 r2=>.mk (us.set j u) (by rw [List.length_reverse,setAt_len,List.length_reverse]; exact l1) hp' (by rw [List.reverse_reverse]; exact setAt_ok (r2 h1) (r1 hu)))
    | .dict ks vs,.mk us h0 d1 d2 d3=>tp_str (T:=fun iu H'=>wpAny (model c.prog c.w) A (setItem (.ref a) iu u) (fun _ s'=>SetP c ρ H' s s') E s) hi fun z t=>tp_grd fun b1=>tp_some (by
      have b1:=Nat.le_of_ble_eq_true b1
      refine wpAny_setItem_pairs (strKind_is _ _ z t) d1 (fun h' hd hs=>?_) (by rw [kv_len d2,sizeLine_eq]; omega)
      obtain ⟨oo,es,ep,eo,rr⟩:=id hd
      have hnd : ks.Nodup:=by
        obtain ⟨_,_,_,_,_,_,_,_,q⟩:=id d1
        rw [kv_keys d2] at q; exact q
      refine set_fin (o:=.dict (kput ks z v vs).1 (kput ks z v vs).2) R ea hs eo (dict_notTup hd) rfl ⟨rfl,rfl,rfl⟩ fun r1 r2=>?_
      obtain ⟨us',a1,a2,a3⟩:=kput_stored (z:=z) hnd d2 (r2 d3) (r1 hu)
      exact .mk us' h0 (by rw [a1]; exact hd) a2 a3)
    | .ns _ _,_ | .inst _ _,_ | .gone,_=>tp_none
theorem setA_ok (Bs : Base c K G D) (R : RelH c ρ H s.heap) (ho : c.V s.heap ρ x ou) (hu : c.V s.heap ρ v u) : TP (setA G H x z v) fun H'=>wpAny (model c.prog c.w) A (setAttr ou z u) (fun _ s'=>SetP c ρ H' s s') NoE s:=
  tp_loc (T:=fun ou H'=>wpAny (model c.prog c.w) A (setAttr ou z u) (fun _ s'=>SetP c ρ H' s s') NoE s) ho fun j a ha=>tp_bn1 tp_eq fun ob eo=>match ob,R.obj j a ob ha eo with
    | .inst C d,.mk dx h1 h2=>tp_bn1 tp_eq fun l hl=>tp_grd fun hm=>tp_bn1 tp_eq fun od e2=>match od,R.obj d dx od h2 e2 with
      | .ns ks vs,.mk m us n1 n2 n3 n4=>tp_grd fun hsz=>tp_some (by
        have hsz:=Nat.le_of_ble_eq_true hsz
        have P:=cl_parts (Bs.cl C l hl)
        have X : K.In s.heap:=Bs.kin' R
        obtain ⟨od,es,ep,eo,_⟩:=id n1
        have I:=inst_at h1 eo
        have tk : takerIn K C z = some none:=by unfold takerIn; rw [P.fs _ (khas_mem hm)]; rfl
        obtain ⟨cd,hcd,hd'⟩:=any_some P.dict
        have hw : Within m ks:=fun y hy=>by
          rw [n3] at hy
          have:=khas_value (z:=y) n2
          cases q : khas ks y with
          | true=>exact khas_mem q
          | false=>rw [q] at this; exact absurd (Option.not_isSome_iff_eq_none.mp (by rw [this]; exact Bool.false_ne_true)) hy
        obtain ⟨hp,gg,dd,tt,oo⟩:=s
        refine set_plain X I P.set (osa_open (s:=⟨hp,gg,dd,tt + 1,oo⟩) X I P.over tk fun b=>?_)
        refine wpAny_bind (wpAny_pure (wpAny_bind (wpAny_bind (wpAny_loadPart h1 (wpAny_bind (Looks.at (looks_clsIn X hcd) ?_))))))
        rw [hd']
        refine wpAny_pure (a:=some dx) (wpAny_bind (wpAny_pure (wpAny_bind ?_)))
        refine wpAny_nsSet1 n1 fun h' hn' hs=>?_
        obtain ⟨oD,esD,epD,hoD,hdD,hcD⟩:=hn'.count (Within.cons z u hw)
        refine wpAny_bind (wpAny_lookBehind hoD (by rw [hdD]; exact pastItsLine_dict (Nat.le_trans hcD (by rw [List.length_cons,sizeLine_eq]; omega))) ?_)
        refine wpAny_pure (set_fin (o:=.ns (kput ks z v vs).1 (kput ks z v vs).2) R h2 hs hoD (ns_notTup (Ns1.ns hn')) rfl ⟨rfl,rfl,rfl⟩ fun r1 r2=>?_)
        obtain ⟨us',k1,k2,k3⟩:=kput_value (z:=z) n2 (r2 n4) (r1 hu)
        exact .mk _ us' hn' k2 (fun y=>by rw [k1,n3]) k3)
      | .list _ _,_ | .dict _ _,_ | .inst _ _,_ | .gone,_=>tp_none
    | .list _ _,_ | .dict _ _,_ | .ns _ _,_ | .gone,_=>tp_none
end
section
variable {c : Cx} {G : Pg} {K : Frag} {D n m k : Nat} {kd : Kd} {V V' V1 V2 : List (Str × AV)} {ρ ρ' ρ0 ix t : List Addr} {H H' H1 H2 H3 : Hs} {A : Around} {env : Env} {s s' s₀ : Shared} {x y v w i : AV} {u ou iu : Value} {h h' h0 : Heap} {a C : Addr} {as fs vs r : List AV} {vals us : List Value} {E : Value → Shared → Prop} {z : Str} {e : Expr} {o : AO} {ob : Obj} {ks : List Str} {pos p : Pos} {fl : Fl} {R : Rec}
theorem noSwap {v : Expr} {t : Option Expr} {l : Nat} (h : isLC v = false) : swapsWith v t l env = pure false:=by
  cases v <;> first | rfl | cases h
theorem not_t {b : Bool} (h : (!b) = true) : b = false:=Bool.not_eq_true' _ ▸ h
theorem ts_name {v : Expr} {g : Expr} (hl : isLC v = false) (hg : xName g (fun y _=>b2 (seqb z y) (kI kd y .local || kI kd y .cell)) = true) (h1 : TE c n kd v V H x H1) : TS c n kd (.Assign [g] v pos) V H .next (put V z x) H1:=
  xName_el (M:=fun g=>TS c n kd (.Assign [g] v pos) V H .next (put V z x) H1) hg fun y p hg=>b2_el hg fun e1 e2=>by
    obtain rfl:=seqb_eq e1
    intro A env ρ s X
    refine wpAny_Assign_Name (h1.go X fun ρ1 s1 u X1 V1 W1=>?_) (noSwap hl)
    have key : wpAny (model c.prog c.w) A (storeName env z u) (fun _ s'=>AsP c (Mine.ownOf env) env kd ρ1 H1 (put V z x) s1 s') NoE s1:=((Bool.or_eq_true ..).mp e2).elim (fun k=>go (store_local X1.R X1.RV (kI_eq k) V1) fun _ _ q=>q.cell) fun k=>store_cell X1.R X1.RV (kI_eq k) V1
    exact go key fun _ s2 q=>.mk ρ1 q.R q.RV rfl (W1.S.noX.trans q.S) (W1.M.trans q.M)
theorem ts_attr (Bs : Base c K G D) {b v : Expr} (hl : isLC v = false) (h1 : TE c n kd v V H x H1) (h2 : TE c n kd b V H1 y H2) (h3 : setA G H2 y z x = some H') : TS c n kd (.Assign [.Attribute b z p] v pos) V H .next V H':=fun A env ρ s X=>
  plainObj_wpAny_Assign_Attribute (h1.go X fun ρ1 s1 u X1 V1 W1=>h2.go X1 fun ρ2 s2 w X2 V2 W2=>go (setA_ok Bs X2.R V2 (W2.rel X1.R V1) H' h3) fun _ s3 q=>
    have W:=(W1.trans W2).trans q.W
    .mk ρ2 q.R (X.RV.step X.R W.S) rfl W.S.noX W.M) (noSwap hl)
theorem ts_sub {b i v : Expr} {d : AV} (hl : isLC v = false) (h1 : TE c n kd v V H x H1) (h2 : TE c n kd b V H1 y H2) (h3 : TE c n kd i V H2 d H3) (h4 : setI H3 y d x = some H') : TS c n kd (.Assign [.Subscript b i p] v pos) V H .next V H':=fun A env ρ s X=>
  wpAny_Assign_Subscript (h1.go X fun ρ1 s1 u X1 V1 W1=>h2.go X1 fun ρ2 s2 w X2 V2 W2=>h3.go X2 fun ρ3 s3 z X3 V3 W3=>go (setI_ok X3.R (W3.rel X2.R V2) V3 ((W2.trans W3).rel X1.R V1) H' h4) fun _ s4 q=>
    have W:=((W1.trans W2).trans W3).trans q.W
    .mk ρ3 q.R (X.RV.step X.R W.S) rfl W.S.noX W.M) (noSwap hl)
theorem ts_ex {v : Expr} (hl : isLC v = false) (h1 : TE c n kd v V H .none H1) : TS c n kd (.Expr v pos) V H .next V H1:=fun A env ρ s X=>
  wpAny_Expr (h1.go X fun ρ1 s1 u X1 V1 W1=>by
    obtain rfl : u = .none:=V1
    exact PS.mk (c:=c) ρ1 X1.R X1.RV rfl W1.S.noX W1.M) (by unfold interactive; rw [X.RV.kind]; rfl) (noSwap hl)
theorem ts_ret {v : Expr} (h1 : TE c n kd v V H x H1) : TS c n kd (.Return (some v) pos) V H (.ret x) V H1:=fun A env ρ s X=>wpAny_Return_some (h1.go X fun ρ1 s1 u X1 V1 W1=>.mk ρ1 X1.R X1.RV (RetR.mk u V1) W1.S.noX W1.M)
theorem ts_retN : TS c n kd (.Return none pos) V H (.ret .none) V H:=fun A env ρ s X=>wpAny_Return_none (.mk ρ X.R X.RV (RetR.mk .none v_none) .refl (.refl s))
theorem ts_ite {t : Expr} {x y : List Stmt} {b : Bool} (h1 : TT c n kd t V H b H1) (h : (b = true ∧ TSs c n kd x V H1 fl V' H') ∨ (b = false ∧ TSs c n kd y V H1 fl V' H')) : TS c n kd (.If t x y pos) V H fl V' H':=fun A env ρ s X=>
  wpAny_If (h1.go X fun ρ1 s1 X1 W1=>h.elim (fun q=>by rw [q.1]; exact go (q.2 A env ρ1 s1 X1) fun _ _ p=>p.from W1.S.noX W1.M) fun q=>by rw [q.1]; exact go (q.2 A env ρ1 s1 X1) fun _ _ p=>p.from W1.S.noX W1.M)
theorem ts_while {t : Expr} {b : List Stmt} (h : TW c n kd t b V H fl V' H') : TS c n kd (.While t b [] pos) V H fl V' H':=fun A env ρ s X=>wpAny_While (codeAny_mono (h A env ρ s X) fun r s' p=>match r,p with | _,.mk f rfl q=>q)
theorem ts_for {t e : Expr} {b : List Stmt} {sr : Sr} (hfold : ∀ env x,foldedSetIterable e env x = pure x) (hsrc : SrcT c n kd e V H sr H1) (h : TF c n kd t sr b V H1 fl V' H') : TS c n kd (.For t e b [] pos) V H fl V' H':=fun A env ρ s X=>
  wpAny_For (go (hsrc A env ρ s X) fun x s1 q=>go q fun w s2 q=>by
    obtain ⟨ρ1,it,P,rfl,hn,R1,I1,W⟩:=q
    have hown : ∀ a,P a → ¬ Mine.ownOf env a:=fun a pa q=>by
      rcases q with rfl | ⟨y,hy⟩
      · exact match X.RV.loc with | .mk m hL _=>hL.elim fun o q=>q.elim fun es q=>q.elim fun ep q=>nomatch q.1.symm.trans (hn _ pa)
      · exact match X.RV.cells y a hy with | .mk _ _ _ _ hc=>hc.elim fun o q=>nomatch q.1.symm.trans (hn _ pa)
    exact codeAny_mono (h A env ρ1 s2 it P ρ s.heap (X.after R1 W) I1 hown hn W.S.noX) fun r s' p=>match r,p with | _,.mk f rfl ρ' R RV F S M=>.mk ρ' R RV F S (W.M.trans M)) (hfold env)
theorem RelV.look (R : RelV c env kd V ρ h) (e : ∀ y,look V' y = look V y) : RelV c env kd V' ρ h:=⟨R.kind,R.names,R.glob,R.blt,match R.loc with | .mk m hn hv=>.mk m hn fun x v hl hk=>hv x v ((e x) ▸ hl) hk,R.locNew,R.locρ,R.cells,R.apart,R.has,fun x v a hl hk hc=>R.cvar x v a ((e x) ▸ hl) hk hc⟩
theorem names_of {g : Expr → Option Str} (hg : ∀ y p,g (.Name y p) = some y ∨ g (.Name y p) = none) : ∀ {xs : List Str} {es : List Expr},okTp true kd xs es = true → (es.filterMap g).length ≤ es.length ∧ ((es.filterMap g).length = es.length → es.filterMap g = xs)
  | [],es,h=>l0_el (M:=fun es=>(es.filterMap g).length ≤ es.length ∧ ((es.filterMap g).length = es.length → es.filterMap g = [])) h ⟨Nat.le_refl _,fun _=>rfl⟩
  | x :: xs,es,h=>okTp_cons (M:=fun es=>(es.filterMap g).length ≤ es.length ∧ ((es.filterMap g).length = es.length → es.filterMap g = x :: xs)) h fun e es h1 h2=>xName_el (M:=fun e=>((e :: es).filterMap g).length ≤ (e :: es).length ∧ (((e :: es).filterMap g).length = (e :: es).length → (e :: es).filterMap g = x :: xs)) h1 fun y p h1=>b2_el h1 fun h1 _=>by
    obtain rfl:=seqb_eq h1
    obtain ⟨i1,i2⟩:=names_of hg h2
    rw [List.filterMap_cons]
    rcases hg x p with q | q <;> rw [q]
    · exact ⟨Nat.succ_le_succ i1,fun e=>by rw [i2 (Nat.succ.inj e)]⟩
    · exact ⟨Nat.le_succ_of_le i1,fun e=>absurd i1 (by rw [show (es.filterMap g).length = es.length + 1 from e]; exact Nat.not_succ_le_self _)⟩
theorem swap_cases {xs : List Str} {es : List Expr} {v : Expr} {k : Nat} {p : Pos} (ho : okTp true kd xs es = true) (ht : tupDisp v = true) : swappedStores [.Tuple es k p] v env = pure none ∨ (swappedStores [.Tuple es k p] v env = pure (some xs) ∧ (xs.length = 2 ∨ xs.length = 3)):=by
  cases v with
  | Tuple vs kk pp=>
    unfold swappedStores
    dsimp only
    generalize hn : List.filterMap _ es = names
    obtain ⟨g,hg,hn⟩ : ∃ g : Expr → Option Str,(∀ y p,g (.Name y p) = some y ∨ g (.Name y p) = none) ∧ es.filterMap g = names:=⟨_,by intro y p; dsimp only; split <;> simp,hn⟩
    obtain ⟨n1,n2⟩:=names_of hg ho
    rw [hn] at n1 n2
    split
    · exact .inl rfl
    · rename_i c1
      split
      · exact .inl rfl
      · split
        · exact .inl rfl
        · rename_i c3
          split
          · exact .inl rfl
          · rename_i c4
            split
            · rename_i c5
              exfalso
              have ht : (!vs.all (constantsAlone 8) || vs.all (foldedForSure 8)) = true:=ht
              simp only [c5,Bool.not_true,Bool.false_or] at ht
              exact c4 ht
            · right
              have hl : names.length = es.length:=by
                simp only [Bool.or_eq_true,not_or,bne_iff_ne,ne_eq,Decidable.not_not] at c3
                exact c3.1
              have hx:=n2 hl
              rw [hx] at hl ⊢
              refine ⟨rfl,?_⟩
              rw [hl]
              by_cases q2 : es.length = 2
              · exact .inl q2
              · by_cases q3 : es.length = 3
                · exact .inr q3
                · exact absurd (by simp [q2,q3]) c1
  | _=>exact .inl rfl
def NsT (c : Cx) (A : Around) (env : Env) (kd : Kd) (ρ : List Addr) (H : Hs) (E : Value → Shared → Prop) (xs : List Str) (us : List Value) (s : Shared) (V' : Vs) : Prop:=wpAny (model c.prog c.w) A (assignInOrder (xs.map fun n=>bindName env n) us) (fun _ s'=>AsP c (XC true env) env kd ρ H V' s s') E s
theorem names_store : ∀ {xs : List Str} {V : Vs} {vs : List AV} {us : List Value} {s : Shared},(∀ x ∈ xs,kC true kd x = true) → RelH c ρ H s.heap → RelV c env kd V ρ s.heap → c.Vs s.heap ρ vs us → TP (putAll xs V vs) (NsT c A env kd ρ H E xs us s)
  | [],V,vs,us,s,hk,R,RV,hu=>tp_as0 (T:=fun us=>NsT c A env kd ρ H E [] us s) hu (tp_some (wpAny_pure ⟨R,RV,.refl,.refl s⟩))
  | x :: xs,V,[],us,s,hk,R,RV,hu=>tp_none
  | x :: xs,V,v :: vs,us,s,hk,R,RV,hu=>hu.un (M:=fun us=>TP (putAll xs (put V x v) vs) (NsT c A env kd ρ H E (x :: xs) us s)) fun u r e1 e2 V' hp=>
      wpAny_bind (wpAny_holding (PyProof.Rows.bindName_ (wpAny_mono (store_any R RV (hk x (List.mem_cons_self ..)) e1) (fun _ s1 p=>wpAny_mono (names_store (xs:=xs) (fun y m=>hk y (List.mem_cons_of_mem _ m)) p.R p.RV (p.S.rels R (notX_tup RV) e2) V' hp) (fun _ _ q=>q.from p.S p.M) fun _ _ x=>x) fun _ _ x=>x)))
theorem go_local : ∀ {xs : List Str} {es : List Expr},okTp true kd xs es = true → ∀ x ∈ xs,kC true kd x = true
  | [],_,_,_,m=>nomatch m
  | x :: xs,es,h,y,m=>okTp_cons (M:=fun _=>kC true kd y = true) h fun e es h1 h2=>xName_el (M:=fun _=>kC true kd y = true) h1 fun z p h1=>b2_el h1 fun h1 h3=>by
    obtain rfl:=seqb_eq h1
    exact (List.mem_cons.mp m).elim (fun e=>by rw [e]; exact h3) fun m=>go_local h2 y m
theorem khas_false : ∀ {ks : List Str} {x : Str},khas ks x = false → x ∉ ks
  | k :: ks,x,h,m=>by
    rw [khas_cons] at h
    cases q : seqb k x with
    | true=>rw [q] at h; cases h
    | false=>
      rw [q] at h
      exact (List.mem_cons.mp m).elim (fun e=>seqb_ne q e.symm) fun m=>khas_false h m
theorem distinct_cons {x : Str} {xs : List Str} (h : distinct (x :: xs) = true) : x ∉ xs ∧ distinct xs = true:=b2_el (show b2 (!khas xs x) (distinct xs) = true from h) fun a b=>⟨khas_false (not_t a),b⟩
theorem put_swap {a b y : Str} (hn : a ≠ b) : look (put (put V a v) b w) y = look (put (put V b w) a v) y:=by
  rw [look_put,look_put,look_put,look_put]
  by_cases q1 : a = y
  · rw [if_pos q1,if_neg fun e=>hn (q1.trans e.symm),if_pos q1]
  · rw [if_neg q1,if_neg q1]
theorem put_cong {a y : Str} (e : ∀ y,look V y = look V' y) : look (put V a v) y = look (put V' a v) y:=by rw [look_put,look_put,e]
theorem len2 {α : Type} : ∀ {l : List α},l.length = 2 → ∃ a b,l = [a,b]
  | [a,b],_=>⟨a,b,rfl⟩
theorem len3 {α : Type} : ∀ {l : List α},l.length = 3 → ∃ a b d,l = [a,b,d]
  | [a,b,d],_=>⟨a,b,d,rfl⟩
theorem putAll_rev {xs : List Str} {vs : List AV} (hd : distinct xs = true) (hl : xs.length = 2 ∨ xs.length = 3) (h : putAll xs V vs = some V') : ∃ V2,putAll xs.reverse V vs.reverse = some V2 ∧ ∀ y,look V' y = look V2 y:=by
  have hlen:=putAll_len h
  rcases hl with hl | hl
  · obtain ⟨a,b,rfl⟩:=len2 hl
    obtain ⟨v,w,rfl⟩:=len2 (l:=vs) (by omega)
    · cases h
      exact ⟨_,rfl,fun y=>put_swap fun e=>(distinct_cons hd).1 (e ▸ List.mem_cons_self ..)⟩
  · obtain ⟨a,b,d,rfl⟩:=len3 hl
    obtain ⟨v,w,z,rfl⟩:=len3 (l:=vs) (by omega)
    · cases h
      obtain ⟨n1,hd2⟩:=distinct_cons hd
      have nab : a ≠ b:=fun e=>n1 (e ▸ List.mem_cons_self ..)
      have nad : a ≠ d:=fun e=>n1 (e ▸ List.mem_cons_of_mem _ (List.mem_cons_self ..))
      have nbd : b ≠ d:=fun e=>(distinct_cons hd2).1 (e ▸ List.mem_cons_self ..)
      exact ⟨_,rfl,fun y=>(put_swap nbd).trans ((put_cong fun y=>put_swap nad).trans (put_swap nab))⟩
theorem ts_tup {xs : List Str} {es : List Expr} {v : Expr} (hl : isLC v = false) (ho : okTp true kd xs es = true) (hd : distinct xs = true) (ht : tupDisp v = true) (h1 : TE c n kd v V H (.tup vs) H1) (h2 : putAll xs V vs = some V') : TS c n kd (.Assign [.Tuple es k p] v pos) V H .next V' H1:=by
  intro A env ρ s X
  have hsole : swapsWithSole [.Tuple es k p] v pos.line env = pure false:=by show swapsWith v (some (.Tuple es k p)) pos.line env = _; exact noSwap hl
  have post : ∀ {ρ1 : List Addr} {s1 s2 : Shared},Aft ρ s ρ1 s1 → AsP c (XC true env) env kd ρ1 H1 V' s1 s2 → PS c env kd ρ s .next V' H1 .next s2:=fun W q=>.mk _ q.R q.RV rfl (W.S.noX.trans q.S.xown) (W.M.trans q.M)
  rcases swap_cases (env:=env) (k:=k) (p:=p) ho ht with hw | ⟨hw,hlen⟩
  · exact PyProof.Rows.Assign_Tuple (h1.go X fun ρ1 s1 u X1 V1 W1=>go (bindT_ok (tg:=.tp xs) (e:=.Tuple es k p) X.a.hd X1.R X1.RV ho V1 V' h2) fun _ s2 q=>post W1 q) hsole hw
  · refine PyProof.Rows.Assign_Tuple_swapped (h1.go X fun ρ1 s1 u X1 V1 W1=>?_) hsole hw
    obtain ⟨V2,p2,lk⟩:=putAll_rev hd hlen h2
    obtain ⟨a,us,htup,hv⟩:=(V1 : TupR s1.heap (c.Vs s1.heap ρ1 vs) u)
    have hv : c.Vs s1.heap ρ1 vs us:=hv
    rw [show xs.length = us.toArray.size by rw [putAll_len h2,hv.len,List.size_toArray]]
    refine unpackItems_tuple X.a.hd htup fun h' he=>?_
    have hk : ∀ b o,s1.heap.get? b = some o → h'.get? b = some o:=fun b o e=>he b o (fun q=>by rw [q,none_size] at e; cases e) e
    have S2 : Step ρ1 noX ρ1 s1.heap h':=.keeps hk
    exact go (names_store (s:={ s1 with heap:=h' }) (fun x m=>go_local ho x (List.mem_reverse.mp m)) (X1.R.keeps hk) (X1.RV.keeps X1.R hk) (S2.rels X1.R noX_no hv).rev V2 p2) fun _ s3 q=>post (W1.trans (s1:=s1) (s2:={ s1 with heap:=h' }) ⟨S2,rfl,rfl,rfl⟩) ⟨q.R,q.RV.look lk,q.S,q.M⟩
end
section
variable {c : Cx} {G : Pg} {K : Frag} {D n m k : Nat} {kd : Kd} {V V' V1 V2 : List (Str × AV)} {H H' H1 H2 H3 : Hs} {x y w i : AV} {v g it : Expr} {vs : List AV} {pos p : Pos} {fl : Fl} {R : Rec} {e : CE} {t : CT} {src : List CE} {tg : TG}
def EvOk (c : Cx) (G : Pg) (n : Nat) (R : Rec) : Prop:=∀ e,SE1 c n (okE G e) (evD G R e)
theorem evs_ok (EV : EvOk c G n R) : ∀ l,SE2 c n (okEs G l) (evDs G R l)
  | []=>s_nil
  | e :: l=>s_cons (EV e) (evs_ok EV l)
theorem te_of {q : AV × Hs} (B : Both c n kd v V H q) : TE c n kd v V H q.1 q.2:=match B with | .mk T _=>T
abbrev TSp (c : Cx) (n : Nat) (kd : Kd) (s : Stmt) (V : Vs) (H : Hs) (p : Fl × Vs × Hs) : Prop:=TS c n kd s V H p.1 p.2.1 p.2.2
abbrev TSsp (c : Cx) (n : Nat) (kd : Kd) (s : List Stmt) (V : Vs) (H : Hs) (p : Fl × Vs × Hs) : Prop:=TSs c n kd s V H p.1 p.2.1 p.2.2
theorem asg_ok (Bs : Base c K G D) (EV : EvOk c G n R) (hl : isLC v = false) (T : TE c n kd v V H x H1) (h : okT G kd t v g = true) : TP (asgT G R t x V H1) (TSp c n kd (.Assign [g] v pos) V H):=match t,h with
  | .nm z,h=>tp_some (ts_name hl h T)
  | .attr o nm,h=>xAttr_el (M:=fun g=>TP (asgT G R (.attr o nm) x V H1) (TSp c n kd (.Assign [g] v pos) V H)) h fun b m p h=>b2_el h fun h1 h2=>by
    obtain rfl:=seqb_eq h2
    exact tp_bnd (EV o kd b V H1 h1) fun y H2 B=>tp_bn1 tp_eq fun H3 e=>tp_some (ts_attr Bs hl T (te_of B) e)
  | .sub o i,h=>xSub_el (M:=fun g=>TP (asgT G R (.sub o i) x V H1) (TSp c n kd (.Assign [g] v pos) V H)) h fun b j p h=>b2_el h fun h1 h2=>tp_bnd (EV o kd b V H1 h1) fun y H2 B=>tp_bnd (EV i kd j V H2 h2) fun d H3 B'=>tp_bn1 tp_eq fun H4 e=>tp_some (ts_sub hl T (te_of B) (te_of B') e)
  | .tp xs,h=>xTuple_el (M:=fun g=>TP (asgT G R (.tp xs) x V H1) (TSp c n kd (.Assign [g] v pos) V H)) h fun es k p h=>b2_el h fun h1 h=>b2_el h fun h2 h3=>match x,T with
    | .tup vs,T=>tp_bn1 tp_eq fun V1 e=>tp_some (ts_tup hl h1 h2 h3 T e)
    | .none,_ | .any,_ | .bool _,_ | .int _,_ | .str _,_ | .sym _,_ | .loc _,_ | .bs _,_ | .fn _,_ | .bi _,_=>tp_none
theorem s_asg (Bs : Base c K G D) (EV : EvOk c G n R) : SS1 c n (fun kd s=>sAssign s fun gs v _=>l1 gs fun g=>b2 (okE G e kd v) (b2 (!isLC v) (okT G kd t v g))) (fun V H=>bnd (evD G R e V H) fun v H1=>asgT G R t v V H1):=fun kd s V H h=>
  sAssign_el (M:=fun s=>TP _ (TSp c n kd s V H)) h fun gs v p h=>l1_el (M:=fun gs=>TP _ (TSp c n kd (.Assign gs v p) V H)) h fun g h=>b2_el h fun h1 h=>b2_el h fun h2 h3=>tp_bnd (EV e kd v V H h1) fun x H1 B=>asg_ok Bs EV (not_t h2) (te_of B) h3
theorem s_ex (EV : EvOk c G n R) : SS1 c n (fun kd s=>sExpr s fun v _=>b2 (okE G e kd v) (!isLC v)) (fun V H=>bnd (evD G R e V H) fun v H1=>asNone v (nxt V H1)):=fun kd s V H h=>
  sExpr_el (M:=fun s=>TP _ (TSp c n kd s V H)) h fun v p h=>b2_el h fun h1 h2=>tp_bnd (EV e kd v V H h1) fun x H1 B=>match x,B with
    | .none,B=>tp_some (ts_ex (not_t h2) (te_of B))
    | .tup _,_ | .any,_ | .bool _,_ | .int _,_ | .str _,_ | .sym _,_ | .loc _,_ | .bs _,_ | .fn _,_ | .bi _,_=>tp_none
theorem s_ret (EV : EvOk c G n R) : SS1 c n (fun kd s=>sRet s fun v _=>oS v (okE G e kd)) (fun V H=>bnd (evD G R e V H) fun v H1=>rtn v V H1):=fun kd s V H h=>
  sRet_el (M:=fun s=>TP _ (TSp c n kd s V H)) h fun v p h=>oS_el (M:=fun v=>TP _ (TSp c n kd (.Return v p) V H)) h fun v h=>tp_bnd (EV e kd v V H h) fun x H1 B=>tp_some (ts_ret (te_of B))
theorem s_retN : SS1 c n (fun kd s=>sRet s fun v _=>oN v) (fun V H=>rtn .none V H):=fun kd s V H h=>
  sRet_el (M:=fun s=>TP _ (TSp c n kd s V H)) h fun v p h=>oN_el (M:=fun v=>TP _ (TSp c n kd (.Return v p) V H)) h (tp_some ts_retN)
theorem s_if (EV : EvOk c G n R) {okf okg : KS2} {f r : D3} (F : SS3 c n okf f) (B : SS3 c n okg r) : SS1 c n (fun kd s=>sIf s fun t x y _=>b2 (okE G e kd t) (b2 (okf kd x) (okg kd y))) (fun V H=>bnd (evD G R e V H) fun x H1=>asBool x fun t=>iff t (f V H1) (r V H1)):=fun kd s V H h=>
  sIf_el (M:=fun s=>TP _ (TSp c n kd s V H)) h fun t x y p h=>b2_el h fun h1 h=>b2_el h fun h2 h3=>tp_bnd (EV e kd t V H h1) fun z H1 q=>both_bool q fun b q=>tp_iff (fun z=>tp_mono (F kd x V H1 h2) fun p T=>ts_ite (tt_of q) (.inl ⟨z,T⟩)) fun z=>tp_mono (B kd y V H1 h3) fun p T=>ts_ite (tt_of q) (.inr ⟨z,T⟩)
theorem s_whl (EV : EvOk c G n R) {okf : KS2} {f : D3} (F : SS3 c n okf f) : SS1 c n (fun kd s=>sWhile s fun t x z _=>b2 (l0 z) (b2 (okE G e kd t) (okf kd x))) (whlL (evD G R e) f R.lf):=fun kd s V H h=>
  sWhile_el (M:=fun s=>TP _ (TSp c n kd s V H)) h fun t x z p h=>b2_el h fun h0 h=>b2_el h fun h1 h2=>l0_el (M:=fun z=>TP _ (TSp c n kd (.While t x z p) V H)) h0 (tp_mono (whl_ok (EV e) F h1 h2 R.lf V H) fun p W=>ts_while W)
theorem noFold {env : Env} (hb : noStar it = true) (x : Value) : foldedSetIterable it env x = pure x:=by
  cases it <;> first | rfl | exact absurd hb Bool.false_ne_true
theorem fold_of (h : okSr k (okEs G src kd) kd it = true) : ∀ env x,foldedSetIterable it env x = pure x:=match k,h with
  | 0,h=>match src,h with
    | e :: l,h=>b2_el (show b2 (noStar it) (b2 (okE G e kd it) (okEs G l kd [])) = true from h) fun h _ env x=>noFold h x
  | 1,h=>xCall_el (M:=fun it=>∀ env x,foldedSetIterable it env x = pure x) h fun f as ks p _ env x=>rfl
  | k + 2,h=>xCall_el (M:=fun it=>∀ env x,foldedSetIterable it env x = pure x) h fun f as ks p _ env x=>rfl
theorem s_for (Bs : Base c K G D) (EV : EvOk c G n R) {okf : KS2} {f : D3} (F : SS3 c n okf f) : SS1 c n (fun kd s=>sFor s fun g it x z _=>b2 (l0 z) (b2 (okTG true kd tg g) (b2 (okSr k (okEs G src kd) kd it) (okf kd x)))) (fun V H=>bnd ((evDs G R src).es V H) fun vs H1=>bn1 (mkSr k G.F H1 vs) fun s=>forL tg f R.lf s V H1):=fun kd s V H h=>
  sFor_el (M:=fun s=>TP _ (TSp c n kd s V H)) h fun g it x z p h=>b2_el h fun h0 h=>b2_el h fun h1 h=>b2_el h fun h2 h3=>l0_el (M:=fun z=>TP _ (TSp c n kd (.For g it x z p) V H)) h0 (src_ok Bs (evs_ok EV src) h2 fun sr H1 S=>tp_mono (for_ok F h1 h3 R.lf sr V H1) fun p T=>ts_for (fold_of h2) S T)
theorem ss_nil : SS3 c n (fun _ ts=>l0 ts) nxt:=fun kd ts V H h=>l0_el (M:=fun ts=>TP (nxt V H) (TSsp c n kd ts V H)) h (tp_some fun A env ρ s X=>wpAny_execs_nil (.mk ρ X.R X.RV rfl .refl (.refl s)))
theorem tss_next {t : Stmt} {ts : List Stmt} (h1 : TS c n kd t V H .next V1 H1) (h2 : TSs c n kd ts V1 H1 fl V' H') : TSs c n kd (t :: ts) V H fl V' H':=fun A env ρ s X=>wpAny_execs_cons (go (h1 A env ρ s X) fun fw s1 p=>by
  obtain ⟨ρ1,R1,RV1,F1,S1,M1⟩:=p
  obtain rfl : fw = .next:=F1
  exact go (h2 A env ρ1 s1 ⟨X.a,R1,RV1⟩) fun _ _ q=>q.from S1 M1)
theorem tss_ret {t : Stmt} {ts : List Stmt} (h1 : TS c n kd t V H (.ret x) V1 H1) : TSs c n kd (t :: ts) V H (.ret x) V1 H1:=fun A env ρ s X=>wpAny_execs_cons (go (h1 A env ρ s X) fun fw s1 p=>by
  obtain ⟨ρ1,R1,RV1,F1,S1,M1⟩:=p
  obtain ⟨u,hu⟩:=F1
  exact .mk ρ1 R1 RV1 (RetR.mk u hu) S1 M1)
theorem ss_cons {okf : KS1} {okg : KS2} {f r : D3} (F : SS1 c n okf f) (B : SS3 c n okg r) : SS3 c n (fun kd ts=>match ts with | t :: ts=>b2 (okf kd t) (okg kd ts) | []=>false) (fun V H=>bn3 (f V H) r rtn):=fun kd ts V H h=>match ts,h with
  | t :: ts,h=>b2_el h fun h1 h2=>tp_bn3 (F kd t V H h1) (fun V1 H1 T=>tp_mono (B kd ts V1 H1 h2) fun p T2=>tss_next T T2) fun v V1 H1 T=>tp_some (tss_ret T)
end
section
variable {c : Cx} {G : Pg} {K : Frag} {D n m k : Nat} {kd : Kd} {V V' V1 V2 : List (Str × AV)} {ρ ρ' : List Addr} {H H' H1 H2 H3 : Hs} {x y w i : AV} {A : Around} {env : Env} {s s' : Shared} {h h1 : Heap} {L : Addr} {fv : List Str} {sc : Scope}
def clFrom (env : Env) : List (Str × NameKind) → List (Str × Addr) → List (Str × Addr)
  | [],acc=>acc
  | (x,k) :: r,acc=>if k == .free then (match env.cells.lookup x with | some a=>clFrom env r ((x,a) :: acc) | none=>clFrom env r acc) else clFrom env r acc
theorem closure_loop {g : Str × NameKind → List (Str × Addr) → Sem (ForInStep (List (Str × Addr)))} (hg : ∀ x k cs,g (x,k) cs = if k == .free then (do let a ← cellOf env x; pure (.yield ((x,a) :: cs))) else pure (.yield cs)) :
    ∀ (names : List (Str × NameKind)) (acc : List (Str × Addr)),(∀ y ∈ names,y.2 = .free → (env.cells.lookup y.1).isSome = true) → forIn names acc g = pure (clFrom env names acc)
  | [],acc,_=>by rw [List.forIn_nil]; rfl
  | (x,k) :: r,acc,hf=>by
    rw [List.forIn_cons,hg]
    unfold clFrom
    have hr : ∀ y ∈ r,y.2 = .free → (env.cells.lookup y.1).isSome = true:=fun y m=>hf y (List.mem_cons_of_mem _ m)
    by_cases hk : (k == NameKind.free) = true
    · rw [if_pos hk,if_pos hk]
      obtain ⟨a,ha⟩:=Option.isSome_iff_exists.mp (hf (x,k) (List.mem_cons_self ..) (by simpa using hk))
      have ha : env.cells.lookup x = some a:=ha
      unfold cellOf
      rw [ha]
      dsimp only
      exact closure_loop hg r _ hr
    · rw [if_neg hk,if_neg hk,pure_bind]
      exact closure_loop hg r _ hr
theorem closure_eq {sc : Scope} (hf : ∀ y ∈ sc.names,y.2 = .free → (env.cells.lookup y.1).isSome = true) : closureFor sc env = pure (clFrom env sc.names []):=by
  simp only [closureFor]
  rw [closure_loop (fun x k cs=>by cases hk : k == NameKind.free <;> simp [hk]) sc.names [] hf]
  rfl
theorem clFrom_sub : ∀ {names : List (Str × NameKind)} {acc : List (Str × Addr)} {x : Str} {a : Addr},(∀ y b,acc.lookup y = some b → env.cells.lookup y = some b) → (clFrom env names acc).lookup x = some a → env.cells.lookup x = some a
  | [],acc,x,a,ha,h=>ha x a h
  | (y,k) :: r,acc,x,a,ha,h=>by
    unfold clFrom at h
    split at h
    · split at h
      · rename_i b hb
        refine clFrom_sub (names:=r) (acc:=(y,b) :: acc) (fun z d hz=>?_) h
        rw [List.lookup_cons] at hz
        split at hz
        · rename_i q
          cases hz
          rw [beq_iff_eq.mp q]; exact hb
        · exact ha z d hz
      · exact clFrom_sub ha h
    · exact clFrom_sub ha h
theorem clFrom_has : ∀ {names : List (Str × NameKind)} {acc : List (Str × Addr)} {x : Str},(∀ y ∈ names,y.2 = .free → (env.cells.lookup y.1).isSome = true) → ((acc.lookup x).isSome = true ∨ (x,.free) ∈ names) → ((clFrom env names acc).lookup x).isSome = true
  | [],acc,x,_,h=>h.elim (fun h=>h) fun h=>(nomatch h)
  | (y,k) :: r,acc,x,hf,h=>by
    have hr : ∀ y ∈ r,y.2 = .free → (env.cells.lookup y.1).isSome = true:=fun y m=>hf y (List.mem_cons_of_mem _ m)
    have grow : ∀ b,(acc.lookup x).isSome = true → (((y,b) :: acc).lookup x).isSome = true:=fun b q=>by
      rw [List.lookup_cons]; split
      · rfl
      · exact q
    unfold clFrom
    split
    · rename_i hk
      have hk : k = .free:=by simpa using hk
      obtain ⟨b,hb⟩:=Option.isSome_iff_exists.mp (hf (y,k) (List.mem_cons_self ..) hk)
      have hb : env.cells.lookup y = some b:=hb
      rw [hb]
      dsimp only
      refine clFrom_has hr ?_
      rcases h with h | h
      · exact .inl (grow b h)
      · rcases List.mem_cons.mp h with e | h
        · cases e
          left; rw [List.lookup_cons]; simp
        · exact .inr h
    · rename_i hk
      refine clFrom_has hr ?_
      rcases h with h | h
      · exact .inl h
      · rcases List.mem_cons.mp h with e | h
        · cases e; exact absurd rfl hk
        · exact .inr h
theorem lookup_mem {names : List (Str × NameKind)} {x : Str} {k : NameKind} (h : names.lookup x = some k) : (x,k) ∈ names:=mem_of_lookup h
theorem relab_lookup : ∀ {names : List (Str × NameKind)} {x : Str},(relab kd names).lookup x = (match names.lookup x with | some .free=>(if kd.lookup x == some .cell then some .cell else some .free) | o=>o)
  | [],x=>rfl
  | (y,k) :: r,x=>by
    have ih:=relab_lookup (names:=r) (x:=x)
    have e : relab kd ((y,k) :: r) = (if (k == .free && kd.lookup y == some .cell) = true then (y,.cell) else (y,k)) :: relab kd r:=rfl
    rw [e]
    by_cases q : (k == .free && kd.lookup y == some .cell) = true
    · rw [if_pos q,List.lookup_cons,List.lookup_cons]
      cases hx : x == y with
      | true=>
        have hxy : x = y:=beq_iff_eq.mp hx
        subst hxy
        obtain ⟨q1,q2⟩:=Bool.and_eq_true_iff.mp q
        have q1 : k = .free:=by simpa using q1
        subst q1
        simp [q2]
      | false=>exact ih
    · rw [if_neg q,List.lookup_cons,List.lookup_cons]
      cases hx : x == y with
      | true=>
        have hxy : x = y:=beq_iff_eq.mp hx
        subst hxy
        by_cases q1 : k = .free
        · subst q1
          have : (kd.lookup x == some NameKind.cell) = false:=by simpa using q
          simp [this]
        · cases k <;> first | rfl | exact absurd rfl q1
      | false=>exact ih
structure ScOk (kd : Kd) (fv : List Str) (sc : Scope) : Prop where
  kind : sc.kind = .function
  nocell : ∀ y ∈ sc.names,y.2 ≠ .cell
  loc : ∀ y ∈ sc.names,y.2 = .local → sc.names.lookup y.1 = some .local
  free : ∀ y ∈ sc.names,y.2 = .free → kd.lookup y.1 = some .cell ∨ kd.lookup y.1 = some .free
  fv : ∀ x ∈ fv,sc.names.lookup x = some .free
theorem scOk_of (h : okScope kd fv sc = true) : ScOk kd fv sc:=by
  unfold okScope at h
  simp only [Bool.and_eq_true,List.all_eq_true,Bool.or_eq_true,Bool.not_eq_true',beq_iff_eq,beq_eq_false_iff_ne,ne_eq,decide_eq_true_eq] at h
  obtain ⟨⟨⟨⟨h1,h2⟩,h3⟩,h4⟩,h5⟩:=h
  exact ⟨h1,h2,fun y m e=>(h3 y m).resolve_left (fun q=>q e),fun y m e=>(h4 y m).elim (fun q=>q.elim (fun z=>absurd e z) .inl) .inr,h5⟩
theorem look_cons {p : Str × AV} {z : Str} : look (p :: V) z = iff (seqb p.1 z) (some p.2) (look V z):=rfl
theorem restr_cons {z : Str} {r : List Str} : restr V (z :: r) = match look V z with | some v=>(z,v) :: restr V r | none=>restr V r:=rfl
theorem look_restr : ∀ {fv : List Str} {z : Str} {v : AV},look (restr V fv) z = some v → z ∈ fv ∧ look V z = some v
  | y :: r,z,v,h=>by
    rw [restr_cons] at h
    cases hw : look V y with
    | none=>rw [hw] at h; exact (look_restr h).imp (List.mem_cons_of_mem _) id
    | some w=>
      rw [hw] at h
      dsimp only at h
      rw [look_cons] at h
      cases q : seqb y z with
      | true=>
        rw [q] at h
        obtain rfl:=seqb_eq q
        exact ⟨List.mem_cons_self ..,hw.trans h⟩
      | false=>rw [q] at h; exact (look_restr h).imp (List.mem_cons_of_mem _) id
def cenvOf (sc : Scope) (L : Addr) (env : Env) : Env:={ newEnv sc L env.globals (clFrom env sc.names []) env.qual none .none (some env) env.builtins with scope:=relabel sc env }
theorem relabel_names (RV : RelV c env kd V ρ h) : (relabel sc env).names = relab kd sc.names:=by
  unfold relabel relab
  dsimp only
  apply List.map_congr_left
  intro y _
  obtain ⟨x,k⟩:=y
  have : env.kindOf x = kd.lookup x:=by unfold Env.kindOf; rw [RV.names]
  simp only [RV.kind,this,beq_self_eq_true,Bool.and_true]
theorem S_free (S : ScOk kd fv sc) (RV : RelV c env kd V ρ h) : ∀ y ∈ sc.names,y.2 = .free → (env.cells.lookup y.1).isSome = true:=fun y m e=>RV.has y.1 (S.free y m e)
theorem fv_kind (S : ScOk kd fv sc) {z : Str} (m : z ∈ fv) : (relab kd sc.names).lookup z ≠ some .local:=by
  rw [relab_lookup,S.fv z m]
  dsimp only
  split <;> simp
theorem relV_comp (S : ScOk kd fv sc) (R : RelH c ρ H h) (RV : RelV c env kd V ρ h) (hL : h.get? L = none) (hk : ∀ b o,h.get? b = some o → h1.get? b = some o) (hn : h1.Ns L fun _=>none) : RelV c (cenvOf sc L env) (relab kd sc.names) (restr V fv) ρ h1:=by
  have RV1:=RV.keeps R hk
  have sub : ∀ {x a},(cenvOf sc L env).cells.lookup x = some a → env.cells.lookup x = some a:=fun hx=>clFrom_sub (names:=sc.names) (acc:=[]) (fun _ _ q=>nomatch q) hx
  refine ⟨S.kind,relabel_names RV,RV.glob,RV.blt,.mk _ hn fun x v hl hk'=>absurd hk' (fv_kind S (look_restr hl).1),R.baseNone hL,R.fresh hL,fun x a hx=>match RV1.cells x a (sub hx),RV.cells x a (sub hx) with
    | .mk v0 hB hρ _ hc,.mk _ _ _ _ hc0=>.mk v0 hB hρ (fun q=>hc0.elim fun o z=>by
      obtain rfl : a = L:=q
      exact nomatch hL.symm.trans z.1) hc,fun x y a hx hy=>RV.apart x y a (sub hx) (sub hy),fun x hx=>clFrom_has (S_free S RV) (.inr (lookup_mem ?_)),fun x v a hl hx hc=>RV1.cvar x v a (look_restr hl).2 (S.free _ (lookup_mem (S.fv x (look_restr hl).1)) rfl) (sub hc)⟩
  rw [relab_lookup] at hx
  cases q : sc.names.lookup x with
  | none=>rw [q] at hx; exact hx.elim (fun e=>nomatch e) fun e=>nomatch e
  | some k=>
    rw [q] at hx
    cases k with
    | free=>rfl
    | cell=>exact absurd rfl (S.nocell _ (lookup_mem q))
    | _=>exact hx.elim (fun e=>nomatch e) fun e=>nomatch e
end
section
variable {c : Cx} {G : Pg} {K : Frag} {D n m k j : Nat} {kd : Kd} {V V' V1 V2 : List (Str × AV)} {ρ ρ' ρ0 : List Addr} {H H' H1 H2 H3 : Hs} {x y v w i : AV} {A : Around} {env : Env} {s s' : Shared} {h h' h0 h1 : Heap} {L acc it : Addr} {fv : List Str} {sc : Scope} {P : Addr → Prop} {sr sr' : Sr} {tg : TG} {e el t ite : Expr} {ifs : List Expr} {pos : Pos} {u : Value} {r : List AV} {z : Str}
abbrev tests (ifs : List Expr) (b : Bool) (env : Env) : Sem Bool:=forIn ifs b fun c r=>if r = true then do let ok ← isTrue c env (eval c env); pure (ForInStep.yield ok) else pure (ForInStep.yield r)
theorem tests_false : ∀ (ifs : List Expr),tests ifs false env = pure false
  | []=>by unfold tests; rw [List.forIn_nil]
  | e :: es=>by
    unfold tests
    rw [List.forIn_cons]
    exact tests_false es
theorem tests_eq : ∀ (es : List Expr),tests es true env = allTrue .And es env
  | []=>by unfold tests; rw [List.forIn_nil]; rfl
  | e :: es=>by
    unfold tests
    rw [List.forIn_cons,if_pos rfl,bind_assoc]
    show _ = (isTrue e env (eval e env) >>= fun b=>match BoolOp.And,b with | .And,false=>pure false | .Or,true=>pure true | _,_=>allTrue .And es env)
    congr 1
    funext b
    rw [pure_bind]
    cases b with
    | false=>exact tests_false es
    | true=>exact tests_eq es
theorem comp_turn {elt target iter : Expr} {ifs : List Expr} {scope : Scope} {pos : Pos} {it : Addr} {acc : Value} {R : Result → Shared → Prop} {prog : Program} {w : World}
    (h : wpAny (model prog w) A (pyNext (.ref it)) (fun r s₁=>match r with
      | none=>R (.ok .next) s₁
      | some v=>wpAny (model prog w) A (letOwnedTupleGo target (.ref it) v) (fun _ s1'=>wpAny (model prog w) A (assign target env v) (fun _ s₂=>wpAny (model prog w) A (tests ifs true env) (fun ok s₃=>
            if ok = true then wpAny (model prog w) A (eval elt env) (fun x s₄=>
              wpAny (model prog w) A (call (.builtin "list.append") [acc,x]) (fun _ s₅=>codeAny (model prog w) A (.compLoop (.ListComp elt [⟨target,iter,ifs,0⟩] scope pos) 0 (.ref it) acc env) R s₅) (fun _ _=>False) s₄) (fun _ _=>False) s₃
            else codeAny (model prog w) A (.compLoop (.ListComp elt [⟨target,iter,ifs,0⟩] scope pos) 0 (.ref it) acc env) R s₃) (fun _ _=>False) s₂) (fun _ _=>False) s1') (fun _ _=>False) s₁) (fun _ _=>False) s) :
    codeAny (model prog w) A (.compLoop (.ListComp elt [⟨target,iter,ifs,0⟩] scope pos) 0 (.ref it) acc env) R s:=by
  refine codeAny_of_tree ?_
  show wpAny _ A ((compTurn (.ListComp elt [⟨target,iter,ifs,0⟩] scope pos) 0 (.ref it) acc env).onRaise (fun x=>do noteFrame x env; theTreesLotGoes x)) _ _ s
  refine wpAny_noted ?_
  rw [compTurn_list]
  refine wpAny_bind (wpAny_standAt (wpAny_bind (wpAny_mono h (fun r s₁ h₁=>?_) fun _ _ h'=>h'.elim)))
  cases r with
  | none=>exact wpAny_pure h₁
  | some v=>
    refine wpAny_bind (wpAny_mono h₁ (fun _ s1' h1'=>?_) fun _ _ h'=>h'.elim)
    refine wpAny_bind (wpAny_mono h1' (fun _ s₂ h₂=>wpAny_bind (wpAny_mono h₂ (fun ok s₃ h₃=>?_) fun _ _ h'=>h'.elim)) fun _ _ h'=>h'.elim)
    cases ok with
    | false=>exact wpAny_pure ⟨rfl,h₃⟩
    | true=>
      exact wpAny_bind (wpAny_bind (wpAny_mono h₃ (fun x s₄ h₄=>wpAny_bind (wpAny_mono h₄ (fun _ s₅ h₅=>wpAny_pure (wpAny_pure ⟨rfl,h₅⟩)) fun _ _ h'=>h'.elim)) fun _ _ h'=>h'.elim))
theorem Step.skipL (S : Step ρ0 Mine.noX ρ h0 h) (k : Skip P (locX env) ρ h h') (hf : ∀ a,P a → h0.get? a = .none) (hL : h0.get? env.locals = .none) : Step ρ0 Mine.noX ρ h0 h':=
  have np : ∀ {b o},h0.get? b = some o → ¬ P b:=fun e p=>nomatch (hf _ p).symm.trans e
  ⟨fun b o e n _=>k.hs b o (np e) (fun q=>by
    obtain rfl : b = env.locals:=q
    exact nomatch hL.symm.trans e) (S.not e n) (S.keep b o e n id),S.pre,fun b o e=>(S.live b o e).elim fun o' e'=>k.lv b o' (np e) e'⟩
theorem RelV.sub (R : RelV c env kd V ρ h) (e : ∀ y v,Mine.look V' y = some v → Mine.look V y = some v) : RelV c env kd V' ρ h:=
  ⟨R.kind,R.names,R.glob,R.blt,match R.loc with | .mk m hn hv=>.mk m hn fun x v hl hk=>hv x v (e x v hl) hk,R.locNew,R.locρ,R.cells,R.apart,R.has,fun x v a hl hk hc=>R.cvar x v a (e x v hl) hk hc⟩
theorem putAll_look : ∀ {xs : List Str} {es : List Expr} {vs : List AV} {V V1 : Vs},okTp false kd xs es = true → putAll xs V vs = some V1 → look V z = some w → kd.lookup z ≠ some .local → look V1 z = some w
  | [],es,[],V,V1,ho,hp,hl,hk=>Option.some.inj hp ▸ hl
  | x :: xs,es,v :: vs,V,V1,ho,hp,hl,hk=>okTp_cons (M:=fun _=>look V1 z = some w) ho fun e es h1 h2=>xName_el (M:=fun _=>look V1 z = some w) h1 fun y p h1=>b2_el h1 fun h1 h3=>by
    obtain rfl:=seqb_eq h1
    exact putAll_look (xs:=xs) (V:=put V x v) h2 hp (by rw [look_put,if_neg (fun e : x = z=>hk (e ▸ kI_eq h3))]; exact hl) hk
theorem bindT_look (ho : okTG false kd tg t = true) (hb : bindT tg v V = some V1) (hl : look V z = some w) (hk : kd.lookup z ≠ some .local) : look V1 z = some w:=match tg,ho,hb with
  | .nm x,ho,hb=>xName_el (M:=fun _=>look V1 z = some w) ho fun y p h1=>b2_el h1 fun h1 h3=>by
    obtain rfl:=seqb_eq h1
    obtain rfl:=Option.some.inj hb
    rw [look_put,if_neg (fun e : x = z=>hk (e ▸ kI_eq h3))]; exact hl
  | .tp xs,ho,hb=>xTuple_el (M:=fun _=>look V1 z = some w) ho fun es k p ho=>by
    cases v <;> first | exact putAll_look ho hb hl hk | cases hb
theorem bindS_look (ho : okTG false kd tg t = true) (hb : bindS sr tg v V = some V1) (hl : look V z = some w) (hk : kd.lookup z ≠ some .local) : look V1 z = some w:=bindS_el hb (fun _ hb=>bindT_look ho hb hl hk) fun _ _ hb=>bindT_look ho hb hl hk
inductive PM (c : Cx) (env : Env) (kd : Kd) (j : Nat) (acc : Addr) (ρ0 : List Addr) (h0 : Heap) (s : Shared) (H' : Hs) (r : Result) (s' : Shared) : Prop
  | mk (e : r = .ok .next) (ρ' : List Addr) (V' : Vs) (R : RelH c ρ' H' s'.heap) (RV : RelV c env kd V' ρ' s'.heap) (S : Step ρ0 noX ρ' h0 s'.heap) (hj : hget ρ' j = some acc) (M : Same s s') : PM c env kd j acc ρ0 h0 s H' r s'
theorem PM.from {s2 : Shared} {q : Result} (M : Same s s') (p : PM c env kd j acc ρ0 h0 s' H' q s2) : PM c env kd j acc ρ0 h0 s H' q s2:=match p with | .mk e ρ' V' R RV S hj M'=>.mk e ρ' V' R RV S hj (M.trans M')
structure LpI (c : Cx) (env : Env) (ρ : List Addr) (s : Shared) (P : Addr → Prop) (sr : Sr) (it acc : Addr) (j : Nat) (ρ0 : List Addr) (h0 : Heap) : Prop where
  I : ItR c ρ s.heap P .none sr it
  hP : ∀ a,P a → ¬ ownOf env a
  hf : ∀ a,P a → h0.get? a = none
  hL : h0.get? env.locals = none
  S : Step ρ0 noX ρ h0 s.heap
  hj : hget ρ j = some acc
theorem LpI.next (q : LpI c env ρ s P sr it acc j ρ0 h0) (R : RelH c ρ H s.heap) (W : Aft ρ s ρ' s') : LpI c env ρ' s' P sr it acc j ρ0 h0:=⟨q.I.step R W.S noX_no fun _ _ x=>x,q.hP,q.hf,q.hL,q.S.trans W.S,W.S.get q.hj⟩
def TM (c : Cx) (n : Nat) (kd : Kd) (e : Expr) (V : Vs) (sr : Sr) (j : Nat) (H H' : Hs) : Prop:=∀ (A : Around) (env : Env) (ρ : List Addr) (s : Shared) (it acc : Addr) (P : Addr → Prop) (ρ0 : List Addr) (h0 : Heap),St c n kd V H A env ρ s → LpI c env ρ s P sr it acc j ρ0 h0 →
  codeAny (model c.prog c.w) A (.compLoop e 0 (.ref it) (.ref acc) env) (PM c env kd j acc ρ0 h0 s H') s
theorem tm_end (d : DrawT false c n kd t tg V H sr none) : TM c n kd (.ListComp el [⟨t,ite,ifs,0⟩] sc pos) V sr j H H:=fun A env ρ s it acc P ρ0 h0 X q=>comp_turn (go (d A env ρ s it P X q.I q.hP) fun w s1 p=>by
  obtain ⟨rfl,R,RV,k,M⟩:=p
  exact .mk rfl ρ V R RV (q.S.skipL k q.hf q.hL) q.hj M)
theorem tm_no (d : DrawT false c n kd t tg V H sr (some (v,sr'))) (hb : bindS sr' tg v V = some V1) (hV : ∀ y w,look V y = some w → look V1 y = some w) (C : TCj .And c n kd ifs V1 H (false,H1)) (k : TM c n kd (.ListComp el [⟨t,ite,ifs,0⟩] sc pos) V sr' j H1 H') : TM c n kd (.ListComp el [⟨t,ite,ifs,0⟩] sc pos) V sr j H H':=fun A env ρ s it acc P ρ0 h0 X q=>
  comp_turn (go (d A env ρ s it P X q.I q.hP V1 hb) fun w s1 p=>by
    obtain ⟨u,rfl,p⟩:=p
    refine go p fun _ s2 p=>go p fun _ s3 p=>?_
    have Q3 : LpI c env ρ s3 P sr' it acc j ρ0 h0:=⟨p.I,q.hP,q.hf,q.hL,q.S.skipL p.k q.hf q.hL,q.hj⟩
    rw [tests_eq]
    refine go (C.t A env ρ s3 ⟨X.a,p.R,p.RV⟩) fun ok s4 z=>?_
    obtain ⟨rfl,ρ4,R4,W4⟩:=z
    rw [if_neg Bool.false_ne_true]
    exact codeAny_mono (k A env ρ4 s4 it acc P ρ0 h0 ⟨X.a,R4,(p.RV.step p.R W4.S).sub hV⟩ (Q3.next p.R W4)) fun r s5 z=>z.from (p.M.trans W4.M))
theorem tm_yes (d : DrawT false c n kd t tg V H sr (some (v,sr'))) (hb : bindS sr' tg v V = some V1) (hV : ∀ y w,look V y = some w → look V1 y = some w) (C : TCj .And c n kd ifs V1 H (true,H1)) (T : TE c n kd el V1 H1 x H2) (e2 : hget H2 j = some (.list m r)) (hz : small m = true)
    (k : TM c n kd (.ListComp el [⟨t,ite,ifs,0⟩] sc pos) V sr' j (setN H2 j (.list (m + 1) (x :: r))) H') : TM c n kd (.ListComp el [⟨t,ite,ifs,0⟩] sc pos) V sr j H H':=fun A env ρ s it acc P ρ0 h0 X q=>
  comp_turn (go (d A env ρ s it P X q.I q.hP V1 hb) fun w s1 p=>by
    obtain ⟨u,rfl,p⟩:=p
    refine go p fun _ s2 p=>go p fun _ s3 p=>?_
    have Q3 : LpI c env ρ s3 P sr' it acc j ρ0 h0:=⟨p.I,q.hP,q.hf,q.hL,q.S.skipL p.k q.hf q.hL,q.hj⟩
    rw [tests_eq]
    refine go (C.t A env ρ s3 ⟨X.a,p.R,p.RV⟩) fun ok s4 z=>?_
    obtain ⟨rfl,ρ4,R4,W4⟩:=z
    rw [if_pos rfl]
    have X4 : St c n kd V1 H1 A env ρ4 s4:=⟨X.a,R4,p.RV.step p.R W4.S⟩
    have Q4:=Q3.next p.R W4
    refine T.go X4 fun ρ5 s5 u X5 V5 W5=>?_
    have Q5:=Q4.next R4 W5
    refine go (append_ok (y:=x) X5.R (v_loc Q5.hj) V5 (.none,setN H2 j (.list (m + 1) (x :: r))) (by
      show bn1 (hget H2 j) _ = _
      rw [e2]
      show grd (small m) _ = _
      rw [hz]; rfl)) fun _ s6 z=>?_
    obtain ⟨ρ6,R6,_,W6⟩:=z
    exact codeAny_mono (k A env ρ6 s6 it acc P ρ0 h0 ⟨X.a,R6,(X5.RV.step X5.R W6.S).sub hV⟩ (Q5.next X5.R W6)) fun r s7 z=>z.from (((p.M.trans W4.M).trans W5.M).trans W6.M))
theorem cm_ok {ok : KE1} {okc : KE2} {elt : D1} {cs : D2} (F : SE1 c n ok elt) (C : SE2 c n okc cs) (h1 : ok kd el = true) (h2 : okTG false kd tg t = true) (h3 : okc kd ifs = true) (hV : ∀ y v,look V y = some v → kd.lookup y ≠ some .local) : ∀ (lf : Nat) (sr : Sr) (H : Hs),TP (cmpL elt tg cs V j lf sr H) fun H'=>TM c n kd (.ListComp el [⟨t,ite,ifs,0⟩] sc pos) V sr j H H'
  | 0,sr,H=>tp_none
  | lf + 1,sr,H=>tp_bn1 (draw h2) fun x d=>match x,d with
    | none,d=>tp_some (tm_end d)
    | some (v,sr'),d=>tp_bn1 tp_eq fun V1 hb=>tp_bnd (C.cj .And kd ifs V1 H h3) fun t H1 Q=>tp_iff (fun q=>by
        subst q
        exact tp_bnd (F kd el V1 H1 h1) fun x H2 B=>tp_bn1 tp_eq fun o e2=>match o,e2 with
          | .list m r,e2=>tp_grd fun hz=>tp_mono (cm_ok F C h1 h2 h3 hV lf sr' _) fun H' T=>tm_yes d hb (fun y w hl=>bindS_look h2 hb hl (hV y w hl)) Q (te_of B) e2 hz T
          | .dict _ _,_ | .ns _ _,_ | .inst _ _,_ | .gone,_=>tp_none) fun q=>by
        subst q
        exact tp_mono (cm_ok F C h1 h2 h3 hV lf sr' H1) fun H' T=>tm_no d hb (fun y w hl=>bindS_look h2 hb hl (hV y w hl)) Q T
end
section
variable {c : Cx} {G : Pg} {K : Frag} {D n m k j : Nat} {kd : Kd} {V V' V1 V2 : List (Str × AV)} {ρ ρ' ρ0 : List Addr} {H H' H1 H2 H3 : Hs} {x y v w i : AV} {A : Around} {env : Env} {s s' : Shared} {h h' h0 h1 : Heap} {L acc : Addr} {fv : List Str} {sc : Scope} {P : Addr → Prop} {sr sr' : Sr} {tg : TG} {e el t it : Expr} {ifs : List Expr} {pos fpos : Pos} {rest : List Comprehension} {u : Value} {r : List AV} {z : Str} {Q : Value → Shared → Prop} {E : Value → Shared → Prop}
theorem new_list0 {M : Model} (h : Q (.ref s.heap.objs.size) { s with heap:=s.heap.push { cls:=.type "list",data:=.seq #[] } }) : wpAny M A (newList []) Q E s:=wpAny_newObj_type h
theorem new_env0 {Q : Env → Shared → Prop} {M : Model} {cl : List (Str × Addr)} (hc : ∀ x ∈ sc.names,x.2 ≠ .cell) (hk : sc.kind = .function)
    (h : ∀ h',h'.Ns s.heap.objs.size (fun _=>none) → (∀ b o,s.heap.get? b = some o → h'.get? b = some o) → Q (newEnv sc s.heap.objs.size env.globals cl env.qual none .none (some env) env.builtins) { s with heap:=h' }) :
    wpAny M A (newFunctionEnv sc env.globals cl [] env.qual none .none (some env)) Q E s:=
  wpAny_newFunctionEnv hc (fun y hy=>nomatch hy) (fun h' hn hs=>h h' hn fun b o e=>hs.extBut b o (Nat.ne_of_lt (Heap.lt_size e)) (Heap.get?_push_of_some _ e)) hk
structure CompR (c : Cx) (ρ : List Addr) (s : Shared) (H2 : Hs) (j : Nat) (ρ' : List Addr) (s' : Shared) (acc L : Addr) : Prop where
  R : RelH c ρ' H2 s'.heap
  hj : hget ρ' j = some acc
  hn : ∃ m,s'.heap.Ns L m
  hB : c.B.get? L = none
  hρ : L ∉ ρ'
  hL : s.heap.get? L = none
  W : Aft ρ s ρ' s'
theorem comp_core {use : Option (Value → Sem Unit)} (S : ScOk kd fv sc) (hfold : ∀ env x,foldedSetIterable it env x = pure x) (src : SrcT c n kd it V H sr H1) (M : TM c n (relab kd sc.names) (.ListComp el (⟨t,it,ifs,0⟩ :: rest) sc pos) (restr V fv) sr (hlen H1) (snoc H1 (.list 0 [])) H2) (X : St c n kd V H A env ρ s)
    (post : ∀ (ρ' : List Addr) (s' : Shared) (acc L : Addr),CompR c ρ s H2 (hlen H1) ρ' s' acc L → compPost (model c.prog c.w) A NoE use Q (.ref acc) L (.ok .next) s') :
    wpAny (model c.prog c.w) A (comprehension (.ListComp el (⟨t,it,ifs,0⟩ :: rest) sc pos) sc env fpos (newList []) false (eval it env) use) Q NoE s:=by
  refine wpAny_comprehension_free rfl (hfold env) (closure_eq (S_free S X.RV)) S.kind S.loc (go (src A env ρ s X) fun x s1 q=>go q fun w s2 q=>?_)
  obtain ⟨ρ1,I,P,rfl,hI,R2,I2,W2⟩:=q
  have RV2:=X.RV.step X.R W2.S
  refine new_list0 ?_
  have S3 : Step ρ1 noX (ρ1 ++ [s2.heap.objs.size]) s2.heap (s2.heap.push { cls:=.type "list",data:=.seq #[] }):=.add (push_keep _) (none_size _)
  have R3 : RelH c (ρ1 ++ [s2.heap.objs.size]) (snoc H1 (.list 0 [])) (s2.heap.push { cls:=.type "list",data:=.seq #[] }):=
    R2.add (push_keep _) (none_size _) (Heap.get?_push_size _ rfl) (notTup_cls (Heap.get?_push_size _ rfl) (by simp)) (.mk [] (Nat.le_refl _) ⟨0,Heap.get?_push_size _ rfl⟩ .nil)
  have RV3:=RV2.step R2 S3
  have I3:=I2.step R2 S3 noX_no fun _ _ x=>x
  have hacc : hget (ρ1 ++ [s2.heap.objs.size]) (hlen H1) = some s2.heap.objs.size:=by rw [hlen_eq,← R2.len]; exact hget_last ..
  refine new_env0 (s:={ s2 with heap:=s2.heap.push { cls:=.type "list",data:=.seq #[] } }) S.nocell S.kind fun h4 hn4 hk4=>?_
  have hL3:=none_size (s2.heap.push { cls:=.type "list",data:=.seq #[] })
  have R4 : RelH c (ρ1 ++ [s2.heap.objs.size]) (snoc H1 (.list 0 [])) h4:=R3.keeps hk4
  have S4 : Step (ρ1 ++ [s2.heap.objs.size]) noX (ρ1 ++ [s2.heap.objs.size]) (s2.heap.push { cls:=.type "list",data:=.seq #[] }) h4:=.keeps hk4
  have RVc:=relV_comp S R3 RV3 hL3 hk4 hn4
  have I4:=I3.step R3 S4 noX_no fun _ _ x=>x
  have hL0 : s.heap.get? (s2.heap.push { cls:=.type "list",data:=.seq #[] }).objs.size = none:=(W2.S.trans S3).none hL3
  have nown : ∀ a,P a → ¬ Mine.ownOf (cenvOf sc (s2.heap.push { cls:=.type "list",data:=.seq #[] }).objs.size env) a:=fun a pa q=>q.elim (fun q=>by
    obtain rfl : a = (s2.heap.push { cls:=.type "list",data:=.seq #[] }).objs.size:=q
    exact (I3.live _ pa).elim fun o e=>nomatch hL3.symm.trans e) fun q=>q.elim fun y hy=>match X.RV.cells y a (clFrom_sub (names:=sc.names) (acc:=[]) (fun _ _ q=>nomatch q) hy) with
      | .mk _ _ _ _ hc=>hc.elim fun o z=>nomatch (hI a pa).symm.trans z.1
  have loop : codeAny (model c.prog c.w) A (.compLoop (.ListComp el (⟨t,it,ifs,0⟩ :: rest) sc pos) 0 (.ref I) (.ref s2.heap.objs.size) (cenvOf sc (s2.heap.push { cls:=.type "list",data:=.seq #[] }).objs.size env))
      (compPost (model c.prog c.w) A NoE use Q (.ref s2.heap.objs.size) (s2.heap.push { cls:=.type "list",data:=.seq #[] }).objs.size) { s2 with heap:=h4 }:=by
    refine codeAny_mono (M A _ _ { s2 with heap:=h4 } I s2.heap.objs.size P ρ s.heap ⟨X.a,R4,RVc⟩ ⟨I4,nown,hI,hL0,(W2.S.trans S3).trans S4,hacc⟩) fun r s' p=>?_
    obtain ⟨rfl,ρ5,V5,R5,RV5,S5,hj,M5⟩:=p
    exact post ρ5 s' _ _ ⟨R5,hj,match RV5.loc with | .mk m n5 _=>⟨m,n5⟩,RV5.locNew,RV5.locρ,hL0,S5,W2.M.trans ⟨M5.1,M5.2,M5.3⟩⟩
  exact codeAny_compStart_list loop (iter_again I4.rel loop)
structure CompT (c : Cx) (n : Nat) (kd : Kd) (e : Expr) (V : Vs) (H : Hs) (p : AV × Hs) : Prop where
  t : TE c n kd e V H p.1 p.2
  s : ∀ (y : Str) (q spos : Pos),kC true kd y = true → TS c n kd (.Assign [.Name y q] e spos) V H .next (put V y p.1) p.2
theorem te_comp (S : ScOk kd fv sc) (hfold : ∀ env x,foldedSetIterable it env x = pure x) (src : SrcT c n kd it V H sr H1) (M : TM c n (relab kd sc.names) (.ListComp el (⟨t,it,ifs,0⟩ :: rest) sc pos) (restr V fv) sr (hlen H1) (snoc H1 (.list 0 [])) H2) : TE c n kd (.ListComp el (⟨t,it,ifs,0⟩ :: rest) sc pos) V H (.loc (hlen H1)) H2:=by
  intro A env ρ s X
  rw [eval_ListComp]
  refine comp_core (use:=none) (Q:=PE c ρ s (.loc (hlen H1)) H2) S hfold src M X fun ρ' s' acc L q=>?_
  obtain ⟨m,hn⟩:=q.hn
  refine ⟨m,hn,fun h' hs=>?_⟩
  have B : But L s'.heap h':=⟨ns_notTup hn,fun b o nb e=>(hs.2 b nb).trans e⟩
  exact .mk ρ' (q.R.but B q.hB q.hρ) (v_loc q.hj) ⟨q.W.S.skip (P:=(· = L)) ⟨fun b o nb _ _ e=>B.keep b o nb e,fun b o nb e=>⟨o,B.keep b o nb e⟩⟩ fun a e=>e ▸ q.hL,q.W.M.1,q.W.M.2,q.W.M.3⟩
theorem ts_asgc (S : ScOk kd fv sc) (hfold : ∀ env x,foldedSetIterable it env x = pure x) (src : SrcT c n kd it V H sr H1) (M : TM c n (relab kd sc.names) (.ListComp el [⟨t,it,ifs,0⟩] sc pos) (restr V fv) sr (hlen H1) (snoc H1 (.list 0 [])) H2) {y : Str} {q spos : Pos} (hk : kC true kd y = true) :
    TS c n kd (.Assign [.Name y q] (.ListComp el [⟨t,it,ifs,0⟩] sc pos) spos) V H .next (put V y (.loc (hlen H1))) H2:=by
  intro A env ρ s X
  obtain ⟨b,hsw⟩ : ∃ b,swapsWith (.ListComp el [⟨t,it,ifs,0⟩] sc pos) (some (.Name y q)) spos.line env = pure b:=⟨_,rfl⟩
  cases b with
  | false=>exact wpAny_Assign_Name ((te_comp S hfold src M).go X fun ρ1 s1 u X1 V1 W1=>go (store_any X1.R X1.RV hk V1) fun _ s2 p=>.mk ρ1 p.R p.RV rfl (W1.S.noX.trans p.S.xown) (W1.M.trans p.M)) hsw
  | true=>
    rw [exec_Assign_Name_used _ _ _ _ hsw]
    refine wpAny_bind (wpAny_standAt (wpAny_bind ?_))
    show wpAny _ A (do let _ ← comprehension (.ListComp el [⟨t,it,ifs,0⟩] sc pos) sc env _ (newList []) false (eval it env) (some (assign (.Name y q) env))) _ _ s
    refine wpAny_bind (wpAny_mono (comp_core (use:=some (assign (.Name y q) env)) (Q:=fun _ s'=>PS c env kd ρ s .next (put V y (.loc (hlen H1))) H2 .next s') S hfold src M X fun ρ' s' acc L p=>?_) (fun _ s' hq=>wpAny_pure (wpAny_pure hq)) fun _ _ e=>e)
    have RV':=X.RV.step X.R p.W.S
    refine go (wpAny_assign_Name (store_any p.R RV' hk (v_loc p.hj))) fun _ s2 z=>?_
    obtain ⟨m,hn⟩:=p.hn
    have nown : ¬ Mine.ownOf env L:=fun e=>e.elim (fun e=>match X.RV.loc with | .mk _ hl _=>hl.elim fun o z=>z.elim fun es z=>z.elim fun ep z=>nomatch (e ▸ p.hL).symm.trans z.1) fun e=>e.elim fun y hy=>match X.RV.cells y L hy with | .mk _ _ _ _ hc=>hc.elim fun o z=>nomatch p.hL.symm.trans z.1
    have hn2 : s2.heap.Ns L m:=hn.elim fun oL q=>q.elim fun es q=>q.elim fun ep q=>⟨oL,es,ep,z.S.keep L oL q.1 p.hρ fun e=>nown (xc_own e),q.2⟩
    refine ⟨m,hn2,fun h' hs=>?_⟩
    have B : But L s2.heap h':=⟨ns_notTup hn2,fun b o nb e=>(hs.2 b nb).trans e⟩
    exact .mk ρ' (z.R.but B p.hB p.hρ) (z.RV.but B nown) rfl ((p.W.S.noX.trans z.S.xown).skip (P:=(· = L)) ⟨fun b o nb _ _ e=>B.keep b o nb e,fun b o nb e=>⟨o,B.keep b o nb e⟩⟩ fun a e=>e ▸ p.hL) (p.W.M.trans ⟨z.M.1,z.M.2,z.M.3⟩)
theorem hV_of (S : ScOk kd fv sc) : ∀ y v,look (restr V fv) y = some v → (relab kd sc.names).lookup y ≠ some .local:=fun y v hl=>fv_kind S (look_restr hl).1
noncomputable def okComp (k : Nat) (tg : TG) (fv : List Str) (f : KE1) (src cs : KE2) : KE1:=fun kd e=>xComp e fun el gs sc _=>l1 gs fun g=>b2 (opq (Int.instDecidableEq g.is_async 0)) (b2 (okScope kd fv sc) (b2 (f (relab kd sc.names) el) (b2 (okTG false (relab kd sc.names) tg g.target) (b2 (okSr k (src kd) kd g.iter) (cs (relab kd sc.names) g.ifs)))))
theorem foldS {src : KE2} (hs : ∀ kd it,src kd [it] = true → noStar it = true) (h : okSr k (src kd) kd it = true) : ∀ env x,foldedSetIterable it env x = pure x:=match k,h with
  | 0,h=>fun env x=>noFold (hs kd it h) x
  | 1,h=>xCall_el (M:=fun it=>∀ env x,foldedSetIterable it env x = pure x) h fun f as ks p _ env x=>rfl
  | k + 2,h=>xCall_el (M:=fun it=>∀ env x,foldedSetIterable it env x = pure x) h fun f as ks p _ env x=>rfl
theorem comp_ok (Bs : Base c K G D) {okf : KE1} {okr okc : KE2} {f : D1} {r cs : D2} {lf : Nat} (F : SE1 c n okf f) (R : SE2 c n okr r) (C : SE2 c n okc cs) (hs : ∀ kd it,okr kd [it] = true → noStar it = true) (h : okComp k tg fv okf okr okc kd e = true) : TP (dComp G.F lf k f tg r cs fv V H) (CompT c n kd e V H):=
  xComp_el (M:=fun e=>TP (dComp G.F lf k f tg r cs fv V H) (CompT c n kd e V H)) h fun el gs sc pos h=>l1_el (M:=fun gs=>TP (dComp G.F lf k f tg r cs fv V H) (CompT c n kd (.ListComp el gs sc pos) V H)) h fun g h=>by
    obtain ⟨t,it,ifs,ia⟩:=g
    refine b2_el h fun ha h=>b2_el h fun h0 h=>b2_el h fun h1 h=>b2_el h fun h2 h=>b2_el h fun h3 h4=>?_
    obtain rfl:=(opq_el ha : ia = 0)
    have S:=scOk_of h0
    exact src_ok Bs R h3 fun sr H1 T=>tp_bn1 (cm_ok (pos:=pos) F C h1 h2 h4 (hV_of S) lf sr _) fun H2 M=>tp_some ⟨te_comp S (foldS hs h3) T M,fun y q spos hk=>ts_asgc S (foldS hs h3) T M hk⟩
theorem s_comp (Bs : Base c K G D) {okf : KE1} {okr okc : KE2} {f : D1} {r cs : D2} {lf : Nat} (F : SE1 c n okf f) (R : SE2 c n okr r) (C : SE2 c n okc cs) (hs : ∀ kd it,okr kd [it] = true → noStar it = true) : SE1 c n (okComp k tg fv okf okr okc) (dComp G.F lf k f tg r cs fv):=fun kd e V H h=>
  tp_mono (comp_ok Bs F R C hs h) fun p T=>both_plain T.t fun env=>xComp_el (M:=fun e=>isTrue e env (eval e env) = (do let v ← eval e env; standAt e.pos; holding [v] (truthy v))) h fun _ _ _ _ _=>rfl
end
section
variable {c : Cx} {G : Pg} {K : Frag} {D n m k j : Nat} {kd : Kd} {V V' V1 V2 : List (Str × AV)} {ρ ρ' ρ0 : List Addr} {H H' H1 H2 H3 : Hs} {x y v w i : AV} {A : Around} {env : Env} {s s' : Shared} {h h' h0 h1 : Heap} {L acc a : Addr} {fv : List Str} {sc : Scope} {P : Addr → Prop} {sr sr' : Sr} {tg : TG} {e el t it : Expr} {ifs : List Expr} {pos fpos : Pos} {u : Value} {r : List AV} {z : Str} {Q : Value → Shared → Prop} {E : Value → Shared → Prop} {rest : List Comprehension} {o : AO}
theorem comp_end {elt target iter : Expr} {ifs : List Expr} {rest : List Comprehension} {scope : Scope} {pos : Pos} {it : Addr} {acc : Value} {R : Result → Shared → Prop} {prog : Program} {w : World}
    (h : wpAny (model prog w) A (pyNext (.ref it)) (fun r s₁=>r = none ∧ R (.ok .next) s₁) (fun _ _=>False) s) :
    codeAny (model prog w) A (.compLoop (.ListComp elt (⟨target,iter,ifs,0⟩ :: rest) scope pos) 0 (.ref it) acc env) R s:=by
  refine codeAny_of_tree ?_
  show wpAny _ A ((compTurn (.ListComp elt (⟨target,iter,ifs,0⟩ :: rest) scope pos) 0 (.ref it) acc env).onRaise (fun x=>do noteFrame x env; theTreesLotGoes x)) _ _ s
  refine wpAny_noted ?_
  obtain ⟨k,hk⟩ : ∃ k : Value → Sem PySem.Fin,compTurn (.ListComp elt (⟨target,iter,ifs,0⟩ :: rest) scope pos) 0 (.ref it) acc env = (standAt iter.pos >>= fun _=>pyNext (.ref it) >>= fun r=>match r with | none=>pure (.done .next) | some v=>k v):=⟨_,rfl⟩
  rw [hk]
  refine wpAny_bind (wpAny_standAt (wpAny_bind (wpAny_mono h (fun r s₁ h₁=>?_) fun _ _ h'=>h'.elim)))
  obtain ⟨rfl,h₁⟩:=h₁
  exact wpAny_pure h₁
theorem tm_stop (hn : nextS V H sr = some none) : TM c n kd (.ListComp el (⟨t,it,ifs,0⟩ :: rest) sc pos) V sr j H H:=fun A env ρ s it acc P ρ0 h0 X q=>comp_end (go (next_ok X.a.hd X.R X.RV q.I q.hP none hn) fun w s1 p=>by
  obtain ⟨R,RV,hs,M,qq⟩:=p
  cases qq
  exact ⟨rfl,.mk rfl ρ V R RV (q.S.skipL ⟨fun b o nb _ _ e=>hs b o nb e,fun b o nb e=>⟨o,hs b o nb e⟩⟩ q.hf q.hL) q.hj M⟩)
theorem snoc_get {i : Nat} (e : hget H i = some o) {o' : AO} : hget (snoc H o') i = some o:=by rw [snoc_eq]; exact hget_app e
inductive NoItems (F H : Hs) (x : AV) : Prop
  | mk (sr : Sr) (e : srcOf F H x = some sr) (k : ∀ V o,nextS V (snoc H o) sr = some none) : NoItems F H x
theorem noItems {F : Hs} (h : items F H x = some []) : NoItems F H x:=by
  cases x with
  | tup vs=>obtain rfl : vs = []:=Option.some.inj h; exact .mk _ rfl fun _ _=>rfl
  | loc i=>
    have h : bn1 (hget H i) (fun ob=>asList ob fun _ r=>some r.reverse) = some []:=h
    cases e : hget H i with
    | none=>rw [e] at h; cases h
    | some o=>
      rw [e] at h
      cases o with
      | list k r=>
        obtain rfl : r = []:=List.reverse_eq_nil_iff.mp (Option.some.inj h)
        exact .mk (.lst i 0) (by show bn1 (hget H i) _ = _; rw [e]; rfl) fun V o=>by show bn1 (hget (snoc H o) i) _ = _; rw [snoc_get e]; rfl
      | dict _ _=>cases h
      | ns _ _=>cases h
      | inst _ _=>cases h
      | gone=>cases h
  | bs i=>
    have h : bn1 (hget F i) (fun ob=>asList ob fun _ r=>some r.reverse) = some []:=h
    cases e : hget F i with
    | none=>rw [e] at h; cases h
    | some o=>
      rw [e] at h
      cases o with
      | list k r=>exact .mk (.fix []) (by show bn1 (hget F i) _ = _; rw [e]; show some (Sr.fix r.reverse) = _; rw [Option.some.inj h]) fun V o=>rfl
      | dict _ _=>cases h
      | ns _ _=>cases h
      | inst _ _=>cases h
      | gone=>cases h
  | _=>cases h
theorem s_ecomp (Bs : Base c K G D) {ok : KE1} {f : D1} (F : SE1 c n ok f) : SE1 c n (fun kd e=>xComp e fun _ gs sc _=>match gs with | g :: _=>b2 (opq (Int.instDecidableEq g.is_async 0)) (b2 (okScope kd [] sc) (b2 (noStar g.iter) (ok kd g.iter))) | []=>false) (dEcomp G.F f):=fun kd e V H h=>
  xComp_tp h fun el gs sc pos h=>match gs,h with
    | ⟨t,it,ifs,ia⟩ :: rest,h=>b2_el h fun ha h=>b2_el h fun h0 h=>b2_el h fun h1 h2=>by
      obtain rfl:=(opq_el ha : ia = 0)
      exact tp_bnd (F kd it V H h2) fun x H1 B=>tp_bn1 tp_eq fun vs hi=>match vs,hi with
        | [],hi=>match noItems hi with
          | .mk sr e1 e2=>tp_some (both_plain (te_comp (fv:=[]) (scOk_of h0) (fun env x=>noFold h1 x) (fun A env ρ s X=>(te_of B).go X fun ρ1 s1 u X1 V1 W1=>go (iter_ok Bs X1.R V1 sr e1) fun _ _ q=>q.from W1) (tm_stop (e2 _ _))) fun _=>rfl)
        | _ :: _,_=>tp_none
theorem fresh_sys (Bs : Base c K G D) (R : RelH c ρ H h) (e : h.get? a = none) : (a == sysModules) = false:=Bs.sm.elim fun o q=>match z : a == sysModules with
  | false=>rfl
  | true=>by rw [beq_iff_eq] at z; rw [z,R.keep _ _ q] at e; cases e
theorem add_dict (Bs : Base c K G D) (R : RelH c ρ H h) : RelH c (ρ ++ [h.objs.size]) (snoc H (.dict [] [])) (h.push { cls:=.type "dict",data:=.dict #[] }):=
  have hd : (h.push { cls:=.type "dict",data:=.dict #[] }).DictOf (PySem.strKind c.prog c.w) h.objs.size []:=Heap.DictOf.new h
  R.add (push_keep _) (none_size _) (Heap.get?_push_size _ rfl) (dict_notTup hd) (.mk [] (fresh_sys Bs R (none_size _)) hd rfl .nil)
theorem s_dct0 (Bs : Base c K G D) : SE1 c n (fun _ e=>xDict e fun ks vs _=>b2 (l0 ks) (l0 vs)) dDct0:=fun kd e V H h=>xDict_tp h fun ks vs p h=>b2_el h fun h1 h2=>l0_el (M:=fun ks=>TP (dDct0 V H) (Both c n kd (.Dict ks vs p) V H)) h1 (l0_el (M:=fun vs=>TP (dDct0 V H) (Both c n kd (.Dict [] vs p) V H)) h2
  (tp_some (both_plain (fun A env ρ s X=>wpAny_Dict_empty (.mk _ (add_dict Bs X.R) (v_last X.R) ⟨.add (push_keep _) (none_size _),rfl,rfl,rfl⟩)) fun _=>rfl)))
theorem te_dct1 (Bs : Base c K G D) {ke ve : Expr} {z : Str} {u : AV} {vs : List AV} (T1 : TE c n kd ke V (snoc H (.dict [] [])) (.str z) H1) (T2 : TE c n kd ve V H1 u H2) (h3 : hget H2 (hlen H) = some (.dict [] vs)) : TE c n kd (.Dict [some ke] [ve] pos) V H (.loc (hlen H)) (setN H2 (hlen H) (.dict [z] [u])):=by
  intro A env ρ s X
  have R1:=add_dict Bs X.R
  have S1 : Step ρ noX (ρ ++ [s.heap.objs.size]) s.heap (s.heap.push { cls:=.type "dict",data:=.dict #[] }):=.add (push_keep _) (none_size _)
  have g1 : hget (ρ ++ [s.heap.objs.size]) (hlen H) = some s.heap.objs.size:=by rw [hlen_eq,← X.R.len]; exact hget_last ..
  refine wpAny_Dict_walk (knd:=PySem.strKind c.prog c.w) rfl rfl (by simp) (by simp) (pairTrees_cons_walk ?_)
  refine T1.go (s:={ s with heap:=s.heap.push { cls:=.type "dict",data:=.dict #[] } }) ⟨X.a,R1,X.RV.step X.R S1⟩ fun ρ2 s2 kv X2 V2 W2=>T2.go X2 fun ρ3 s3 vv X3 V3 W3=>pairTrees_nil_walk ?_
  obtain ⟨t⟩:=(V2 : StrR z kv)
  have g3 : hget ρ3 (hlen H) = some s.heap.objs.size:=W3.S.get (W2.S.get g1)
  obtain ⟨us,h0,d1,d2,d3⟩:=(X3.R.obj _ _ _ g3 h3 : DictR c s3.heap ρ3 [] vs s.heap.objs.size)
  obtain rfl : us = []:=List.length_eq_zero_iff.mp d2.symm
  refine ⟨[(z,vv)],⟨strKind_is _ _ z t,rfl,trivial⟩,d1,fun h' hd' hs=>?_⟩
  have hd' : h'.DictOf (PySem.strKind c.prog c.w) s.heap.objs.size [(z,vv)]:=hd'
  obtain ⟨ob,es,ep,eo,_⟩:=id hd'
  have q:=set_fin (s:=s3) (s':={ s3 with heap:=h' }) (o:=.dict [z] [u]) X3.R g3 hs eo (dict_notTup hd') rfl ⟨rfl,rfl,rfl⟩ fun r1 r2=>.mk [vv] h0 hd' rfl (.one (r1 V3))
  exact .mk ρ3 q.R (v_loc g3) ⟨((S1.trans W2.S).trans W3.S).trans q.W.S,Same.trans (b:=s2) ⟨W2.M.1,W2.M.2,W2.M.3⟩ (W3.M.trans ⟨q.W.M.1,q.W.M.2,q.W.M.3⟩)⟩
theorem s_dct1 (Bs : Base c K G D) {okf okg : KE1} {f g : D1} (F : SE1 c n okf f) (G' : SE1 c n okg g) : SE1 c n (fun kd e=>xDict e fun ks vs _=>l1 ks fun k=>oS k fun k=>b2 (okf kd k) (l1 vs fun v=>okg kd v)) (dDct1 f g):=fun kd e V H h=>xDict_tp h fun ks vs p h=>
  l1_el (M:=fun ks=>TP (dDct1 f g V H) (Both c n kd (.Dict ks vs p) V H)) h fun k h=>oS_el (M:=fun k=>TP (dDct1 f g V H) (Both c n kd (.Dict [k] vs p) V H)) h fun k h=>b2_el h fun h1 h=>l1_el (M:=fun vs=>TP (dDct1 f g V H) (Both c n kd (.Dict [some k] vs p) V H)) h fun v h2=>
    tp_bnd (F kd k V _ h1) fun a H1 B=>match a,B with
      | .str z,B=>tp_bnd (G' kd v V H1 h2) fun u H2 B'=>tp_bn1 tp_eq fun o h3=>match o,h3 with
        | .dict [] _,h3=>tp_some (both_plain (te_dct1 Bs (te_of B) (te_of B') h3) fun _=>rfl)
        | .dict (_ :: _) _,_ | .list _ _,_ | .ns _ _,_ | .inst _ _,_ | .gone,_=>tp_none
      | .none,_ | .tup _,_ | .any,_ | .bool _,_ | .int _,_ | .sym _,_ | .loc _,_ | .bs _,_ | .fn _,_ | .bi _,_=>tp_none
end
section
variable {prog : Program} {w : World} {A : Around} {E : Value → Shared → Prop} {s : Shared}
theorem by_miss_list {a : Addr} {xs : Array Value} {k : Nat} {name : Str} {u : Tok} {Q : Value → Shared → Prop}
    (hx : s.heap.get? a = some { cls:=.type "list",data:=.seq xs k }) (hmiss : typeLookup (.type "list") name = pure none) (hname : (["__module__","__name__","__qualname__","__doc__","__annotations__"] : List Str).contains name = false) (hA : A.handled = none)
    (h : ∀ h' tk e,Heap.NewExcOf s.heap h' e "AttributeError" → E (.ref e) { s with heap:=h',toks:=tk }) (hsz : name.length + 100 ≤ sizeLine:=by size_fits) :
    wpAny (model prog w) A (getAttrBy (.ref a) (.str name u) false) Q E s:=by
  obtain ⟨hp,g,d,tk,os⟩:=s
  have hT : ∀ tk',(⟨hp,g,d,tk',os⟩ : Shared).TypeIs (.ref a) "list":=fun _=>⟨_,hx,rfl⟩
  have f1:=sub_AttributeError
  have f3:=F.slot_list_getattribute.lookup
  have f4:=F.slot_list_getattribute.bind (.ref a)
  have f5:=am_list_getattr_none
  unfold getAttrBy
  repeat (any_goals (first | assumption | exact hT _ | ((with_reducible show wpAny _ _ (call (Value.builtin "list.__getattribute__") _ _) _ _ _); refine call_meets F.slot_list_getattribute (hT _) am_entry_list_getattribute (F.args_list_getattribute_2 _ _) (meets_getattribute_miss_list a xs k _ name _ hmiss hname hsz) ⟨hx,hA,fun h' tk' e hx'=>?_⟩) | wp_step))
  obtain ⟨t',u',he⟩:=hx'.there
  show wpAny _ _ (getattributeRaised _ _ _ _ _ _ _) _ _ _
  unfold getattributeRaised
  repeat (any_goals (first | assumption | wp_step))
  exact h _ _ _ hx'.of
theorem miss_attr_list {a : Addr} {xs : Array Value} {k : Nat} {name : Str} {Q : Option Value → Shared → Prop}
    (hx : s.heap.get? a = some { cls:=.type "list",data:=.seq xs k }) (hmiss : typeLookup (.type "list") name = pure none) (hname : (["__module__","__name__","__qualname__","__doc__","__annotations__"] : List Str).contains name = false) (hA : A.handled = none)
    (h : ∀ h' tk,(∀ b o,s.heap.get? b = some o → h'.get? b = some o) → Q none { s with heap:=h',toks:=tk }) (hsz : name.length + 100 ≤ sizeLine:=by size_fits) :
    wpAny (model prog w) A (getAttr? (.ref a) name) Q E s:=by
  unfold getAttr? getAttrBy?
  refine wpAny_bind (wpAny_mkText ?_)
  refine wpAny_bind (wpAny_attempt (by_miss_list hx hmiss hname hA (fun h' tk e x=>?_) hsz))
  obtain ⟨h1,h2,o,vs,h3,h4,h5⟩:=x
  dsimp only
  refine wpAny_bind (wpAny_isInstance (T:="AttributeError") ⟨o,h3,h4⟩ sub_AttributeError ?_)
  rw [if_pos rfl]
  exact wpAny_pure (h h' tk h1)
theorem miss_keys : typeLookup (.type "list") ("keys" : Str) = pure none:=am_miss_of_fast (by decide +kernel)
theorem plain_upd : plainId "dict.update.loop" = true:=by decide +kernel
theorem entry_upd : entryFor table "dict.update.loop" = some Builtin.«dict.update.loop»:=entryFor_of_tree (by kernel_rfl)
end
section
variable {c : Cx} {G : Pg} {K : Frag} {D n : Nat} {ρ ρ' : List Addr} {h h' : Heap} {H H' H1 H2 : Hs} {A : Around} {s : Shared} {x : AV} {u : Value} {E : Value → Shared → Prop}
theorem setN_setN : ∀ {H : Hs} {i : Nat} {a b : AO},setN (setN H i a) i b = setN H i b
  | [],_,_,_=>rfl
  | _ :: _,0,_,_=>rfl
  | x :: r,i + 1,a,b=>congrArg (x :: ·) (setN_setN (H:=r))
theorem setN_other : ∀ {H : Hs} {i j : Nat} {o : AO},i ≠ j → hget (setN H j o) i = hget H i
  | [],_,_,_,_=>rfl
  | _ :: _,0,0,_,h=>absurd rfl h
  | _ :: _,0,_ + 1,_,_=>rfl
  | _ :: _,_ + 1,0,_,_=>rfl
  | x :: r,i + 1,j + 1,o,h=>setN_other (H:=r) fun e=>h (congrArg (· + 1) e)
theorem setN_self : ∀ {H : Hs} {j : Nat} {o a : AO},hget H j = some a → hget (setN H j o) j = some o
  | [],_,_,_,h=>nomatch h
  | _ :: _,0,_,_,_=>rfl
  | x :: r,j + 1,o,a,h=>setN_self (H:=r) (a:=a) h
theorem setN_last : ∀ {H : Hs} {a b : AO},setN (snoc H a) (hlen H) b = snoc H b
  | [],_,_=>rfl
  | x :: r,a,b=>congrArg (x :: ·) (setN_last (H:=r))
theorem pair_items {a : Addr} {us : List Value} {Q : List Value → Shared → Prop} (ht : s.heap.IsTuple a us.toArray) (hQ : Q us s) : wpAny (model c.prog c.w) A (Builtin.Dict.pairItems (.ref a)) Q E s:=by
  obtain ⟨o,e,hc,m,hd⟩:=ht
  unfold Builtin.Dict.pairItems
  refine wpAny_bind (wpAny_typeOf (T:="tuple") ⟨o,e,hc⟩ ?_)
  rw [if_pos (by decide)]
  unfold seqItems?
  refine wpAny_bind (wpAny_bind (wpAny_load e ?_))
  rw [hd]
  exact wpAny_pure (wpAny_pure hQ)
theorem kput_len : ∀ {ks : List Str} {vs : List AV} {x : Str} {v : AV},(kput ks x v vs).1.length ≤ ks.length + 1
  | [],_,_,_=>Nat.le_refl _
  | k :: ks,[],_,_=>Nat.succ_le_succ (Nat.zero_le _)
  | k :: ks,w :: vs,x,v=>by
    rw [kput_cons]
    cases seqb k x with
    | true=>exact Nat.le_succ _
    | false=>exact Nat.succ_le_succ (kput_len (ks:=ks))
theorem upd_loop {N i : Nat} {d l it : Addr} {m : Nat} {r : List AV} {H0 : Hs} {o0 : AO} {R : Result → Shared → Prop} (hi : i ≠ N) (hN : hget H0 N = some o0) (hr : hget H0 i = some (.list m r)) (hd : hget ρ N = some d) (hl : hget ρ i = some l) (hB : c.B.get? it = none) (hρ : it ∉ ρ) (hh : A.handled = none) :
    ∀ (rest : List AV) (k : Nat) (j : Int) (t : Tok) (ks : List Str) (vs : List AV) (p : List Str × List AV) (s : Shared),pairs rest ks vs = some p → RelH c ρ (setN H0 N (.dict ks vs)) s.heap → s.heap.IsListIter it l k → r.reverse.drop k = rest → ks.length + rest.length ≤ 1000000 →
      (∀ s',RelH c ρ (setN H0 N (.dict p.1 p.2)) s'.heap → (∀ b o,b ≠ it → b ≠ d → s.heap.get? b = some o → s'.heap.get? b = some o) → Same s s' → R (.ok (.ret .none)) s') →
      codeAny (model c.prog c.w) A (.builtin "dict.update.loop" ⟨[.ref d,.ref it,.int j t,.none],[]⟩) R s:=by
  intro rest
  induction rest with
  | nil=>
    intro k j t ks vs p s hp RH I hk hz hR
    obtain rfl : (ks,vs) = p:=Option.some.inj hp
    obtain ⟨us,_,hpl,hv⟩:=(RH.obj i l _ hl ((setN_other hi).trans hr) : ListR c s.heap ρ m r l)
    have nt : ∀ us,¬ s.heap.IsTuple it us:=I.elim fun o q=>notTup_cls q.1 (by rw [q.2.1]; simp)
    refine codeAny_builtin entry_upd ?_
    rw [Around.under_plainId plain_upd _]
    show wpAny _ _ (pyNext (.ref it) >>= _) _ _ s
    refine wpAny_bind (wpAny_pyNext_list_end (A:=A.in1) hh I hpl.isList (get_no hv (by rw [hget_eq]; exact List.getElem?_eq_none (List.drop_eq_nil_iff.mp hk))) fun h' he=>wpAny_bind (wpAny_pure (wpAny_pure ?_)))
    exact hR { s with heap:=h' } (RH.but ⟨nt,he⟩ hB hρ) (fun b o n1 n2 e=>he b o n1 e) ⟨rfl,rfl,rfl⟩
  | cons v rest ih=>
    intro k j t ks vs p s hp RH I hk hz hR
    obtain ⟨us,_,hpl,hv⟩:=(RH.obj i l _ hl ((setN_other hi).trans hr) : ListR c s.heap ρ m r l)
    have nt : ∀ us,¬ s.heap.IsTuple it us:=I.elim fun o q=>notTup_cls q.1 (by rw [q.2.1]; simp)
    have hg : hget r.reverse k = some v:=by
      rw [hget_eq]
      have:=congrArg List.head? hk
      rw [List.head?_drop] at this; exact this
    have hk' : r.reverse.drop (k + 1) = rest:=by rw [← List.tail_drop,hk]; rfl
    obtain ⟨uv,e1,V1⟩:=hv.get hg
    rw [List.length_cons] at hz
    refine (tp_tup (T:=fun uv (p : List Str × List AV)=>us[k]? = some uv → (∀ s',RelH c ρ (setN H0 N (.dict p.1 p.2)) s'.heap → (∀ b o,b ≠ it → b ≠ d → s.heap.get? b = some o → s'.heap.get? b = some o) → Same s s' → R (.ok (.ret .none)) s') → codeAny (model c.prog c.w) A (.builtin "dict.update.loop" ⟨[.ref d,.ref it,.int j t,.none],[]⟩) R s) V1 fun q ta ws _ ht hw=>?_) p hp e1 hR
    refine fun p hp e1 hR=>(tp_as2 (T:=fun ws (p : List Str × List AV)=>s.heap.IsTuple ta ws.toArray → (∀ s',RelH c ρ (setN H0 N (.dict p.1 p.2)) s'.heap → (∀ b o,b ≠ it → b ≠ d → s.heap.get? b = some o → s'.heap.get? b = some o) → Same s s' → R (.ok (.ret .none)) s') → codeAny (model c.prog c.w) A (.builtin "dict.update.loop" ⟨[.ref d,.ref it,.int j t,.none],[]⟩) R s) hw fun ax ay zx zy hx hy=>?_) p hp ht hR
    refine tp_str (T:=fun zx (p : List Str × List AV)=>s.heap.IsTuple ta [zx,zy].toArray → (∀ s',RelH c ρ (setN H0 N (.dict p.1 p.2)) s'.heap → (∀ b o,b ≠ it → b ≠ d → s.heap.get? b = some o → s'.heap.get? b = some o) → Same s s' → R (.ok (.ret .none)) s') → codeAny (model c.prog c.w) A (.builtin "dict.update.loop" ⟨[.ref d,.ref it,.int j t,.none],[]⟩) R s) hx fun key tk p hp ht hR=>?_
    have hp : pairs rest (kput ks key ay vs).1 (kput ks key ay vs).2 = some p:=hp
    refine codeAny_builtin entry_upd ?_
    rw [Around.under_plainId plain_upd _]
    show wpAny _ _ (pyNext (.ref it) >>= _) _ _ s
    refine wpAny_bind (wpAny_pyNext_list_item (A:=A.in1) I hpl.isList (toA e1) fun h1 I1 hs1=>?_)
    have B : But it s.heap h1:=⟨nt,fun b o nb e=>(hs1.2 b nb).trans e⟩
    have R1:=RH.but B hB hρ
    dsimp only
    refine wpAny_bind (wpAny_holding ?_)
    refine wpAny_bind (wpAny_tryCatch (pair_items (s:={ s with heap:=h1 }) (B.tup _ _ ht) ?_))
    dsimp only
    obtain ⟨us',h0,d1,d2,d3⟩:=(R1.obj N d _ hd (setN_self hN) : DictR c h1 ρ ks vs d)
    have hnd : ks.Nodup:=by
      obtain ⟨_,_,_,_,_,_,_,_,q⟩:=id d1
      rw [kv_keys d2] at q; exact q
    refine wpAny_holding (wpAny_dictSet_pairs (strKind_is _ _ key tk) d1 (fun h' hd' hs=>?_) (by rw [kv_len d2,sizeLine_eq]; omega))
    obtain ⟨ob,es,ep,eo,_⟩:=id hd'
    have q:=set_fin (s:={ s with heap:=h1 }) (s':={ s with heap:=h' }) (o:=.dict (kput ks key ay vs).1 (kput ks key ay vs).2) R1 hd hs eo (dict_notTup hd') rfl ⟨rfl,rfl,rfl⟩ fun r1 r2=>match kput_stored (z:=key) hnd d2 (r2 d3) (r1 (B.rel hy)) with
      | .mk us2 a1 a2 a3=>.mk us2 h0 (by rw [a1]; exact hd') a2 a3
    have R2:=q.R
    rw [setN_setN] at R2
    refine wpAny_pure ⟨plainId_quiet plain_upd _,?_⟩
    have kl:=kput_len (ks:=ks) (vs:=vs) (x:=key) (v:=ay)
    have itd : it ≠ d:=fun e=>hρ (e ▸ hget_mem hd)
    refine ih (k + 1) _ _ _ _ p _ hp R2 (I1.at fun o e=>(hs.2 it itd).trans e) hk' (by omega) fun s' R3 K3 M3=>?_
    exact hR s' R3 (fun b o n1 n2 e=>K3 b o n1 n2 ((hs.2 b n2).trans (B.keep b o n1 e))) ⟨M3.1,M3.2,M3.3⟩
end
section
variable {prog : Program} {w : World} {A : Around} {E : Value → Shared → Prop} {s : Shared}
theorem sort_short {a : Addr} {vs : List Value} {n : Nat} {P : Fin → Shared → Prop} (ho : s.heap.get? a = some (seqObj "list" vs.toArray n)) (h2 : vs.length < 2)
    (h : P (.done (.ret .none)) { s with heap:=sortedHeap s.heap a vs vs.toArray }) :
    wpAny (model prog w) A (Builtin.«list.sort» ⟨[.ref a],[]⟩) P E s:=by
  rw [list_sort_plain]
  have ha : a < s.heap.objs.size:=Heap.lt_size ho
  refine wpAny_bind (listItems_at ho rfl ?_)
  refine wpAny_bind (listUpdate_at ho rfl ?_ (hsz:=by rw [List.size_toArray,sizeLine_eq]; omega))
  obtain ⟨e1,ho1⟩ : ∃ e1,(s.heap.update a (Obj.mapSeq fun _=>#[])).get? a = some (seqObj "list" #[] e1):=⟨_,get?_update_seq ho (fun _=>#[])⟩
  refine wpAny_bind (seqEpoch_at ho1 rfl ?_)
  refine wpAny_bind (wpAny_newTuple ?_)
  refine wpAny_bind (wpAny_newList ?_)
  refine wpAny_holding ?_
  have ho6 : (((s.heap.update a (Obj.mapSeq fun _=>#[])).push (seqObj "tuple" vs.toArray 0)).push (seqObj "list" #[] 0)).get? a = some (seqObj "list" #[] e1):=by
    rw [Heap.get?_push_ne _ _ _ (by rw [size_push',Heap.size_update]; exact Nat.ne_of_lt (Nat.lt_succ_of_lt ha)),Heap.get?_push_ne _ _ _ (by rw [Heap.size_update]; exact Nat.ne_of_lt ha)]
    exact ho1
  show wpAny (model prog w) A _ P E { s with heap:=((s.heap.update a (Obj.mapSeq fun _=>#[])).push (seqObj "tuple" vs.toArray 0)).push (seqObj "list" #[] 0) }
  dsimp only
  have hsz : vs.toArray.size = vs.length:=by simp
  rw [if_pos (by rw [hsz]; exact h2),if_pos (by rw [hsz]; exact h2)]
  refine wpAny_bind (wpAny_pure ?_)
  rw [StateT.run_pure]
  refine wpAny_bind (wpAny_pure ?_)
  dsimp only
  refine wpAny_bind (seqEpoch_at ho6 rfl ?_)
  refine wpAny_bind (listUpdate_at ho6 rfl ?_ (hsz2:=by rw [Array.size_map]; show (pairsOf vs).size ≤ _; rw [pairsOf_size,sizeLine_eq]; omega))
  simp only [bne_self_eq_false,Bool.false_eq_true,if_false]
  refine wpAny_pure ?_
  have e : (arrOf (SortSt.mk' general' (vs.toArray.zip vs.toArray) #[] 7 none)).map (·.2) = vs.toArray:=by
    show (vs.toArray.zip vs.toArray).map (·.2) = vs.toArray
    apply Array.toList_inj.mp
    simp [List.map_snd_zip]
  rw [e]
  exact h
end
section
variable {c : Cx} {G : Pg} {K : Frag} {D n : Nat} {ρ ρ' : List Addr} {h h' : Heap} {H H' H1 H2 : Hs} {A : Around} {s : Shared} {x y : AV} {u w : Value} {ks : List Str} {vs : List AV}
theorem dict_core (Bs : Base c K G D) (hh : A.handled = none) (R : RelH c ρ H s.heap) {i k : Nat} {la : Addr} {r : List AV} {p : List Str × List AV} (ha : hget ρ i = some la) (e : hget H i = some (.list k r)) (L : ListR c s.heap ρ k r la) (hz : small k = true) (hp : pairs r.reverse [] [] = some p) : BR c A ρ s (.type "dict") [.ref la] (.loc (hlen H),snoc H (.dict p.1 p.2)):=by
  have hz:=Nat.le_of_ble_eq_true hz
  obtain ⟨us,l1,⟨m1,ht'⟩,h1⟩:=L
  refine callType_codes (Q₁:=fun obj s₁=>obj = .ref s.heap.objs.size ∧ s₁ = { s with heap:=s.heap.push { cls:=.type "dict",data:=.dict #[] } }) F.kt_called_dict (F.kt_typeCall_dict_1 _) F.entry_dict_init (kt_code_dict_new _ ⟨rfl,rfl⟩) ?_
  rintro obj s₁ ⟨rfl,rfl⟩
  have hnew : (s.heap.push { cls:=.type "dict",data:=.dict #[] }).DictOf (PySem.strKind c.prog c.w) s.heap.objs.size []:=Heap.DictOf.new s.heap
  have R1:=add_dict Bs R
  have S1 : Step ρ noX (ρ ++ [s.heap.objs.size]) s.heap (s.heap.push { cls:=.type "dict",data:=.dict #[] }):=.add (push_keep _) (none_size _)
  have g1 : hget (ρ ++ [s.heap.objs.size]) (hlen H) = some s.heap.objs.size:=by rw [hlen_eq,← R.len]; exact hget_last ..
  have pl:=push_keep { cls:=.type "dict",data:=.dict #[] } _ _ ht'
  refine ⟨hnew.typeIs,F.args_dict_init_2 _ _,?_⟩
  unfold Builtin.«dict.__init__»
  refine wpAny_bind ?_
  unfold Builtin.Dict.selfAndRest
  refine wpAny_bind (wpAny_notOrdered_dict hnew.typeIs ?_)
  show wpAny _ _ (pure (s.heap.objs.size,[Value.ref la])) _ _ _
  refine wpAny_pure ?_
  show wpAny _ _ (Builtin.Dict.updateFrom "dict.__init__" s.heap.objs.size (.ref la) [] .none) _ _ _
  unfold Builtin.Dict.updateFrom
  refine wpAny_bind (wpAny_typeOf (T:="list") ⟨_,pl,rfl⟩ ?_)
  rw [if_pos (by decide)]
  refine wpAny_bind (miss_attr_list (A:=A.in1.in1) pl miss_keys (by decide) hh (fun h2 tk hk2=>?_))
  simp only [Option.isNone_none,if_true]
  refine wpAny_bind (wpAny_rule ?_)
  have R2:=R1.keeps hk2
  have pl2:=hk2 _ _ pl
  refine wpAny_bind (wpAny_pyIter_list (A:=A.in1.in1) (s:={ s with heap:=h2,toks:=tk }) (items:=us.toArray) ⟨_,pl2,rfl,_,rfl⟩ ?_)
  have R3 : RelH c (ρ ++ [s.heap.objs.size]) (setN (snoc H (.dict [] [])) (hlen H) (.dict [] [])) (h2.push { cls:=.type "list_iterator",data:=.fields #[.ref la,.int 0 0] }):=by
    rw [setN_last]; exact R2.push _
  refine wpAny_pure ⟨plainId_quiet plain_upd _,?_⟩
  have hN : hget (snoc H (.dict [] [])) (hlen H) = some (.dict [] []):=by rw [snoc_eq,hlen_eq]; exact hget_last ..
  have iN : i ≠ hlen H:=by rw [hlen_eq]; exact Nat.ne_of_lt (hget_lt e)
  have n2 : s.heap.get? h2.objs.size = none:=by
    cases q : s.heap.get? h2.objs.size with
    | none=>rfl
    | some o=>exact nomatch (none_size h2).symm.trans (hk2 _ o (push_keep _ _ o q))
  refine upd_loop (A:=A.in1) iN hN (snoc_get e) g1 (hget_app ha) (R2.baseNone (none_size _)) (R2.fresh (none_size _)) hh r.reverse 0 0 0 [] [] p { s with heap:=h2.push { cls:=.type "list_iterator",data:=.fields #[.ref la,.int 0 0] },toks:=tk } hp R3 ⟨_,Heap.get?_push_size _ rfl,rfl,rfl⟩ rfl (by rw [List.length_reverse]; simp only [List.length_nil]; omega) fun s4 R4 K4 M4=>⟨rfl,?_⟩
  rw [setN_last] at R4
  have live : ∀ b o,s.heap.get? b = some o → s4.heap.get? b = some o:=fun b o e=>K4 b o (fun q=>by rw [q,n2] at e; cases e) (fun q=>by rw [q,none_size] at e; cases e) (push_keep _ b o (hk2 b o (push_keep _ b o e)))
  exact .mk _ R4 (v_last R) ⟨.add live (none_size _),M4.1,M4.2,M4.3⟩
theorem dict_ok (Bs : Base c K G D) (hh : A.handled = none) (R : RelH c ρ H s.heap) (hu : c.V s.heap ρ x u) : TP (lstAt H x fun _ n r=>grd (small n) (bnd (pairs r.reverse [] []) fun ks vs=>some (.loc (hlen H),snoc H (.dict ks vs)))) (BR c A ρ s (.type "dict") [u]):=
  tp_lst (T:=fun u=>BR c A ρ s (.type "dict") [u]) R hu fun i a m r ea eH L=>tp_grd fun hz=>tp_bnd tp_eq fun ks vs hp=>tp_some (dict_core Bs hh R ea eH L hz hp)
theorem sorted_core {d : Addr} {kvs : List (Str × Value)} {Q : Value → Shared → Prop} {E : Value → Shared → Prop} (hh : A.handled = none) (lo : (d == sysModules) = false) (hD : s.heap.DictOf (PySem.strKind c.prog c.w) d kvs) (h2 : kvs.length < 2)
    (h : ∀ (h' : Heap) (tk : Nat) (B : Addr) (vs : List Value),(∀ b o,s.heap.get? b = some o → h'.get? b = some o) → s.heap.get? B = none → h'.PlainList B vs.toArray → vs.length = kvs.length → (∀ (j : Nat) (v : Value),vs[j]? = some v → ∃ k x,kvs[j]? = some (k,x) ∧ (PySem.strKind c.prog c.w).is k v = true) → Q (.ref B) { s with heap:=h',toks:=tk }) :
    wpAny (model c.prog c.w) A (call (.builtin "sorted") [.ref d]) Q E s:=by
  obtain ⟨ep,hat⟩:=hD.dictAt
  have hn : kvs.length ≤ sizeLine:=by rw [sizeLine_eq]; omega
  refine call_function_entry kind_sorted plain_sorted entry_sorted (args_sorted1 _) ?_
  unfold Builtin.«sorted»
  refine wpAny_bind (m:=checkCount "sorted" 1 1 _) (wpAny_pure ?_)
  refine wpAny_bind (kdu_collect (A:=A.in1) (kdl_dict (knd:=PySem.strKind c.prog c.w) (kvs:=kvs) (ep:=ep) lo) hh hat hn fun h' tk acc hk hacc=>?_)
  have hl : acc.toList.length = kvs.length:=by rw [Array.length_toList]; exact hacc.1
  refine wpAny_bind (wpAny_newList ?_ (by rw [hl]; exact hn))
  have hoL : (h'.push (seqObj "list" acc.toList.toArray 0)).get? h'.objs.size = some (seqObj "list" acc.toList.toArray 0):=Heap.get?_push_size _ rfl
  refine wpAny_bind (wpAny_holding (wpAny_call_entry slot_list_sort ⟨_,hoL,rfl⟩ entry_list_sort (sort_short hoL (by rw [hl]; exact h2) ⟨_,rfl,?_⟩) (args_list_sort _)))
  refine wpAny_pure ⟨_,rfl,?_⟩
  have hlt : ∀ b o,s.heap.get? b = some o → b ≠ h'.objs.size:=fun b o e=>Nat.ne_of_lt (Heap.lt_size (hk b o e))
  have hB : s.heap.get? h'.objs.size = none:=by
    cases q : s.heap.get? h'.objs.size with
    | none=>rfl
    | some o=>exact absurd rfl (hlt _ o q)
  refine h _ tk h'.objs.size acc.toList (fun b o e=>?_) hB ?_ hl (fun j v e=>hacc.2 j v (by rw [← Array.getElem?_toList]; exact e))
  · unfold sortedHeap
    refine (Heap.get?_update_other _ _ (Ne.symm (hlt b o e))).trans ?_
    refine Heap.get?_push_of_some _ (Heap.get?_push_of_some _ ?_)
    exact (Heap.get?_update_other _ _ (Ne.symm (hlt b o e))).trans (Heap.get?_push_of_some _ (hk b o e))
  · have q1:=get?_update_seq hoL (fun _=>#[])
    have q2:=Heap.get?_push_of_some (seqObj "list" #[] 0) (Heap.get?_push_of_some (seqObj "tuple" acc.toList.toArray 0) q1)
    exact ⟨_,get?_update_seq q2 (fun _=>acc.toList.toArray)⟩
theorem sorted_fin {d : Addr} {ls : List AV} (hh : A.handled = none) (R : RelH c ρ H s.heap) (L : DictR c s.heap ρ ks vs d) (hz : ks.length < 2) (hk : ∀ (h : Heap) (ρ : List Addr) (vs : List Value),vs.length = ks.length → (∀ (j : Nat) (v : Value),vs[j]? = some v → ∃ k,ks[j]? = some k ∧ (PySem.strKind c.prog c.w).is k v = true) → c.Vs h ρ ls.reverse vs) (hl : ls.length ≤ n) :
    BR c A ρ s (.builtin "sorted") [.ref d] (.loc (hlen H),snoc H (.list n ls)):=match L with
  | .mk us h0 d1 d2 d3=>sorted_core hh h0 d1 (by rw [kv_len d2]; exact hz) fun h' tk B vs hk' hB hp hl' hv=>by
    obtain ⟨m,hp'⟩:=id hp
    rw [kv_len d2] at hl'
    exact .mk (ρ ++ [B]) (R.add hk' hB hp' (notTup_cls hp' (by simp)) (.mk vs hl hp (hk _ _ vs hl' fun j v e=>(hv j v e).elim fun k q=>q.elim fun x q=>⟨k,by
      have:=q.1
      rw [List.getElem?_zip_eq_some] at this
      exact this.1,q.2⟩))) (v_last R) ⟨.add hk' hB,rfl,rfl,rfl⟩
theorem sorted_ok (hh : A.handled = none) (R : RelH c ρ H s.heap) (hu : c.V s.heap ρ x u) : TP (asLoc x fun i=>bn1 (hget H i) fun o=>asDict o fun ks _=>match ks with
    | []=>newL 0 [] H
    | [k]=>newL 1 [.str k] H
    | _=>none) (BR c A ρ s (.builtin "sorted") [u]):=
  tp_loc (T:=fun u=>BR c A ρ s (.builtin "sorted") [u]) hu fun i a ea=>tp_bn1 tp_eq fun o eo=>tp_dict (R.obj i a o ea eo) fun ks vs L=>by
    cases ks with
    | nil=>exact tp_some (sorted_fin hh R L (by simp) (fun h ρ vs hl _=>by
      obtain rfl : vs = []:=List.length_eq_zero_iff.mp hl
      exact .nil) (Nat.le_refl _))
    | cons k r=>
      cases r with
      | nil=>exact tp_some (sorted_fin hh R L (by simp) (fun h ρ vs hl hv=>by
        obtain ⟨v,rfl⟩:=List.length_eq_one_iff.mp hl
        exact (hv 0 v rfl).elim fun k' q=>by
          obtain rfl : k = k':=Option.some.inj q.1
          obtain ⟨t,rfl⟩:=Value.isStrOf_shape q.2
          exact .one v_str) (Nat.le_refl _))
      | cons _ _=>exact tp_none
theorem tuple_id (R : RelH c ρ H s.heap) (hu : c.V s.heap ρ (.tup vs) u) : BR c A ρ s (.type "tuple") [u] (.tup vs,H):=by
  have hu2:=hu
  obtain ⟨a,us,ht,hv⟩:=(hu : TupR s.heap (c.Vs s.heap ρ vs) u)
  exact call_tuple_same ht (.now (t:=s.toks) R hu2)
theorem tup_ok (Bs : Base c K G D) (R : RelH c ρ H s.heap) (hu : c.V s.heap ρ x u) : TP (bi1 .tuple G.F x H) (BR c A ρ s (.type "tuple") [u]):=by
  cases x with
  | tup vs=>exact tp_some (tuple_id R hu)
  | none=>exact tuple_ok Bs R hu
  | any=>exact tuple_ok Bs R hu
  | bool _=>exact tuple_ok Bs R hu
  | int _=>exact tuple_ok Bs R hu
  | str _=>exact tuple_ok Bs R hu
  | sym _=>exact tuple_ok Bs R hu
  | loc _=>exact tuple_ok Bs R hu
  | bs _=>exact tuple_ok Bs R hu
  | fn _=>exact tuple_ok Bs R hu
  | bi _=>exact tuple_ok Bs R hu
theorem bi1_ok (Bs : Base c K G D) (hh : A.handled = none) (R : RelH c ρ H s.heap) (hu : c.V s.heap ρ x u) (b : Bi) : TP (bi1 b G.F x H) (BR c A ρ s (biVal b) [u]):=match b with
  | .len=>tp_bn1 (len_ok Bs R hu) fun m k=>tp_grd fun z=>tp_some (k z)
  | .list=>tp_bn1 (items_ok Bs R hu) fun vs q=>tp_grd fun z=>tp_some (list_ok R q z)
  | .tuple=>tup_ok Bs R hu
  | .dict=>dict_ok Bs hh R hu
  | .sum=>sum_ok hh R hu
  | .abs=>abs_ok R hu
  | .str=>str_ok R hu
  | .sorted=>sorted_ok hh R hu
  | .max | .min | .range | .zip=>tp_none
theorem bi_ok (Bs : Base c K G D) : BiOk c G:=fun n b as H A ρ s vals a R hv=>match as,hv with
  | [x],hv=>hv.un1 (M:=fun vals=>TP (bi1 b G.F x H) (BR c A ρ s (biVal b) vals)) fun u hu=>bi1_ok Bs a.hd R hu b
  | [x,y],hv=>hv.un (M:=fun vals=>TP (bi2 b x y H) (BR c A ρ s (biVal b) vals)) fun u r hu hr=>hr.un1 (M:=fun r=>TP (bi2 b x y H) (BR c A ρ s (biVal b) (u :: r))) fun w hw=>match b with
    | .max=>max_ok a.hd R hu hw
    | .min=>min_ok a.hd R hu hw
    | .len | .list | .tuple | .dict | .sum | .abs | .str | .sorted | .range | .zip=>tp_none
  | [],_=>tp_none
  | _ :: _ :: _ :: _,_=>tp_none
end
noncomputable def okEL (G : Pg) (ce : List CE) : KE2:=CE.rec_1 (motive_1:=fun _=>KE1) (motive_2:=fun _=>KE2)
  (fun x kd e=>xName e fun y _=>b2 (seqb x y) (b2 (plainName y) (match kd.lookup y with | some .local | some .cell | some .free=>true | _=>false)))
  (fun i kd e=>xName e fun y _=>match hget G.gl i with | some p=>b2 (seqb p.1 y) (b2 (plainName y) (kI kd y .globalImplicit)) | none=>false)
  (fun v _ e=>okC v e) (fun _ r kd e=>xTuple e fun fs _ _=>r kd fs) (fun _ r kd e=>xList e fun fs _=>r kd fs)
  (fun _ e=>xDict e fun ks vs _=>b2 (l0 ks) (l0 vs)) (fun _ _ f g kd e=>xDict e fun ks vs _=>l1 ks fun k=>oS k fun k=>b2 (f kd k) (l1 vs fun v=>g kd v))
  (fun _ _ f g kd e=>xSub e fun v j _=>b2 (f kd v) (b2 (noStar j) (g kd j)))
  (fun _ f kd e=>xSub e fun v j _=>b2 (f kd v) (xSlc j fun l u s _=>b2 (oN l) (b2 (oN u) (oS s isM1))))
  (fun _ _ f g kd e=>xSub e fun v j _=>b2 (f kd v) (xSlc j fun l u s _=>b2 (oN l) (b2 (oN s) (oS u (g kd)))))
  (fun _ f kd e=>xSub e fun v j _=>b2 (f kd v) (xSlc j fun l u s _=>b2 (oN u) (b2 (oN s) (oS l (isI 1)))))
  (fun _ f kd e=>xSub e fun v j _=>b2 (f kd v) (xSlc j fun l u s _=>b2 (oN l) (b2 (oS u (isI 0)) (oS s isM1))))
  (fun _ n f kd e=>xAttr e fun v m _=>b2 (f kd v) (b2 (seqb n m) (noSuper v)))
  (fun _ _ f r kd e=>xCall e fun g as ks _=>b2 (l0 ks) (b2 (xName g fun y p=>f kd (.Name y p)) (r kd as)))
  (fun _ m _ f r kd e=>xCall e fun g as ks pos=>b2 (l0 ks) (b2 (Nat.ble as.length 20) (b2 (xAttr g fun v n ap=>b2 (f kd v) (b2 (seqb m n) (b2 (noSuper v) (Nat.beq ap.endLine pos.line)))) (r kd as))))
  (fun op _ _ f g kd e=>xBin e fun l o r _=>b2 (opq (instDecidableEqOperator op o)) (b2 (f kd l) (g kd r)))
  (fun op _ _ f g kd e=>xCmp e fun l os rs _=>l1 os fun o=>l1 rs fun r=>b2 (opq (instDecidableEqCmpOp op o)) (b2 (!behindInMarks op r) (b2 (f kd l) (g kd r))))
  (fun _ f kd e=>xUn e fun o x _=>b2 (opq (instDecidableEqUnaryOp o .Not)) (f kd x))
  (fun _ r kd e=>xBool e fun o fs _=>b2 (opq (instDecidableEqBoolOp o .And)) (b2 (!l0 fs) (r kd fs))) (fun _ r kd e=>xBool e fun o fs _=>b2 (opq (instDecidableEqBoolOp o .Or)) (b2 (!l0 fs) (r kd fs)))
  (fun _ _ _ f g r kd e=>xIf e fun t x y _=>b2 (f kd t) (b2 (g kd x) (r kd y)))
  (fun k _ tg _ _ fv f src cs kd e=>xComp e fun el gs sc _=>l1 gs fun g=>b2 (opq (Int.instDecidableEq g.is_async 0)) (b2 (okScope kd fv sc) (b2 (f (relab kd sc.names) el) (b2 (okTG false (relab kd sc.names) tg g.target) (b2 (okSr k (src kd) kd g.iter) (cs (relab kd sc.names) g.ifs))))))
  (fun _ f kd e=>xComp e fun _ gs sc _=>match gs with | g :: _=>b2 (opq (Int.instDecidableEq g.is_async 0)) (b2 (okScope kd [] sc) (b2 (noStar g.iter) (f kd g.iter))) | []=>false)
  (fun _ _=>true) (fun _ es=>l0 es) (fun _ _ f r=>okCons f r) ce
noncomputable def evDL (G : Pg) (R : Rec) (e : List CE) : D2:=CE.rec_1 (motive_1:=fun _=>D1) (motive_2:=fun _=>D2)
  (fun x V H=>bn1 (look V x) fun v=>some (v,H)) (fun i _ H=>bn1 (hget G.gl i) fun p=>some (p.2,H)) (fun v _ H=>some (v,H))
  (fun _ r=>dTup r) (fun _ r=>dLst r) dDct0 (fun _ _ k v=>dDct1 k v) (fun _ _ a i=>dSub G.F a i) (fun _ a=>dSlc List.reverse a) (fun _ _ a k=>dCut a k) (fun _ a=>dSlc (fun r=>(r.reverse.drop 1).reverse) a) (fun _ a=>dCut0 a)
  (fun _ n a=>dAttr G a n) (fun _ _ f as=>dCall R.call f as) (fun _ m _ o as=>dMeth G R.call o m as) (fun op _ _ a b=>dBin op a b) (fun op _ _ a b=>dCmp G op a b)
  (fun _ a=>dNot a) (fun _ r=>dConj .And r) (fun _ r=>dConj .Or r) (fun _ _ _ c a b=>dIte c a b)
  (fun k _ tg _ _ fv elt src cs=>dComp G.F R.lf k elt tg src cs fv) (fun _ a=>dEcomp G.F a) (fun _ _=>none) dNil (fun _ _ f r=>dCons f r) e
noncomputable def okSL (G : Pg) (c : List CS) : KS2:=CS.rec_1 (motive_1:=fun _=>KS1) (motive_2:=fun _=>KS2)
  (fun t e kd s=>sAssign s fun gs v _=>l1 gs fun g=>b2 (okE G e kd v) (b2 (!isLC v) (okT G kd t v g)))
  (fun x e kd s=>sAssign s fun gs v _=>l1 gs fun g=>b2 (isComp e) (b2 (okE G e kd v) (xName g fun y _=>b2 (seqb x y) (kC true kd y))))
  (fun e kd s=>sExpr s fun v _=>b2 (okE G e kd v) (!isLC v)) (fun e kd s=>sRet s fun v _=>oS v (okE G e kd)) (fun _ s=>sRet s fun v _=>oN v)
  (fun e _ _ f g kd s=>sIf s fun t x y _=>b2 (okE G e kd t) (b2 (f kd x) (g kd y)))
  (fun e _ f kd s=>sWhile s fun t x z _=>b2 (l0 z) (b2 (okE G e kd t) (f kd x)))
  (fun k tg src _ f kd s=>sFor s fun g it x z _=>b2 (l0 z) (b2 (okTG true kd tg g) (b2 (okSr k (okEs G src kd) kd it) (f kd x))))
  (fun _ _=>true) (fun _ ts=>l0 ts) (fun _ _ f r kd ts=>match ts with | t :: ts=>b2 (f kd t) (r kd ts) | []=>false) c
noncomputable def exDL (G : Pg) (R : Rec) (s : List CS) : D3:=CS.rec_1 (motive_1:=fun _=>D3) (motive_2:=fun _=>D3)
  (fun t e V H=>bnd (evD G R e V H) fun v H1=>asgT G R t v V H1) (fun x e V H=>bnd (evD G R e V H) fun v H1=>nxt (put V x v) H1)
  (fun e V H=>bnd (evD G R e V H) fun v H1=>asNone v (nxt V H1)) (fun e V H=>bnd (evD G R e V H) fun v H1=>rtn v V H1) (fun V H=>rtn .none V H)
  (fun c _ _ a b V H=>bnd (evD G R c V H) fun x H1=>asBool x fun t=>iff t (a V H1) (b V H1)) (fun c _ b=>whlL (evD G R c) b R.lf)
  (fun k t src _ b V H=>bnd ((evDs G R src).es V H) fun vs H1=>bn1 (mkSr k G.F H1 vs) fun s=>forL t b R.lf s V H1) (fun _ _=>none)
  nxt (fun _ _ f r V H=>bn3 (f V H) r rtn) s
section
variable {c : Cx} {G : Pg} {K : Frag} {D n : Nat} {R : Rec} {e : CE} {z : Str}
structure EL (c : Cx) (G : Pg) (n : Nat) (R : Rec) (l : List CE) : Prop where
  s : SE2 c n (okEL G l) (evDL G R l)
  p : ∀ kd it,okEL G l kd [it] = true → noStar it = true
theorem el_nil : EL c G n R []:=⟨s_nil,fun _ _ h=>nomatch (show false = true from h)⟩
theorem el_cons {l : List CE} (F : SE1 c n (okE G e) (evD G R e)) (L : EL c G n R l) : EL c G n R (e :: l):=⟨s_cons F L.s,fun kd it h=>b2_el (show b2 (noStar it) (b2 (okE G e kd it) (okEL G l kd [])) = true from h) fun a _=>a⟩
theorem ev_ok (Bs : Base c K G D) (CO : CaOk c K n R.call) : EvOk c G n R:=fun e=>CE.rec (motive_1:=fun e=>SE1 c n (okE G e) (evD G R e)) (motive_2:=EL c G n R)
  (fun x=>s_var) (fun i=>s_gv Bs) (fun v=>s_con) (fun _ r=>s_tup r.s) (fun _ r=>s_lst r.s) (s_dct0 Bs) (fun _ _ f g=>s_dct1 Bs f g) (fun _ _ f g=>s_sub Bs f g) (fun _ f=>s_rev f) (fun _ _ f g=>s_cut f g) (fun _ f=>s_drop1 f) (fun _ f=>s_cut0 f)
  (fun _ _ f=>s_attr Bs f) (fun _ _ f r=>s_call Bs CO f r.s) (fun _ _ _ f r=>s_meth Bs CO f r.s) (fun _ _ _ f g=>s_bin f g) (fun _ _ _ f g=>s_cmp Bs f g) (fun _ f=>s_not f) (fun _ r=>s_conj r.s) (fun _ r=>s_conj r.s) (fun _ _ _ f g r=>s_ite f g r)
  (fun _ _ _ _ _ _ f r cs=>s_comp Bs f r.s cs.s r.p) (fun _ f=>s_ecomp Bs f) (fun kd e V H h=>tp_none) el_nil (fun _ _ f r=>el_cons f r) e
theorem el_ok (EV : EvOk c G n R) : ∀ l,EL c G n R l
  | []=>el_nil
  | e :: l=>el_cons (EV e) (el_ok EV l)
theorem s_asgc (Bs : Base c K G D) (EV : EvOk c G n R) : SS1 c n (fun kd s=>sAssign s fun gs v _=>l1 gs fun g=>b2 (isComp e) (b2 (okE G e kd v) (xName g fun y _=>b2 (seqb z y) (kC true kd y)))) (fun V H=>bnd (evD G R e V H) fun v H1=>nxt (put V z v) H1):=fun kd s V H h=>
  sAssign_el (M:=fun s=>TP _ (TSp c n kd s V H)) h fun gs v p h=>l1_el (M:=fun gs=>TP _ (TSp c n kd (.Assign gs v p) V H)) h fun g h=>b2_el h fun h1 h=>b2_el h fun h2 h3=>xName_el (M:=fun g=>TP _ (TSp c n kd (.Assign [g] v p) V H)) h3 fun y q h3=>b2_el h3 fun h3 h4=>by
    obtain rfl:=seqb_eq h3
    cases e with
    | comp k elt tg src cs fv=>exact tp_bnd (comp_ok Bs (EV elt) (el_ok EV src).s (el_ok EV cs).s (el_ok EV src).p h2) fun x H1 C=>tp_some (C.s z q p h4)
    | _=>exact nomatch (show false = true from h1)
theorem ex_ok (Bs : Base c K G D) (EV : EvOk c G n R) : ∀ s,SS1 c n (okS G s) (exD G R s):=fun s=>CS.rec (motive_1:=fun s=>SS1 c n (okS G s) (exD G R s)) (motive_2:=fun l=>SS3 c n (okSL G l) (exDL G R l))
  (fun t e=>s_asg Bs EV) (fun x e=>s_asgc Bs EV) (fun e=>s_ex EV) (fun e=>s_ret EV) s_retN (fun e _ _ f g=>s_if EV f g) (fun e _ f=>s_whl EV f) (fun k tg src _ f=>s_for Bs EV f) (fun kd s V H h=>tp_none) ss_nil (fun _ _ f r=>ss_cons f r) s
theorem exs_ok (SX : ∀ s,SS1 c n (okS G s) (exD G R s)) : ∀ l,SS3 c n (okSs G l) (exDs G R l)
  | []=>ss_nil
  | s :: l=>ss_cons (SX s) (exs_ok SX l)
theorem run_ok (Bs : Base c K G D) (lf : Nat) : ∀ k,CaOk c K (k + D) (run G lf k).call
  | 0=>fun f as H=>tp_none
  | k + 1=>by
    have CO:=run_ok Bs lf k
    have EV:=ev_ok (R:=run G lf k) Bs CO
    have:=ca_step Bs (bi_ok Bs) (R:=run G lf k) (fun cs kd ts V H h=>exs_ok (ex_ok Bs EV) cs kd ts V H h) CO (Nat.le_add_left D (k + 1) |> fun h=>by omega)
    rw [show k + 1 + D = k + D + 1 by omega]
    exact this
theorem sound (Bs : Base c K G D) {lf k : Nat} {a : Addr} {as : List AV} {H H' : Hs} {v : AV} (h : (run G lf k).call (.fn a) as H = some (v,H')) : TC c (k + D) (.fn a) as H v H':=match run_ok Bs lf k (.fn a) as H (v,H') h with
  | .fn b e _ T=>by
    obtain rfl:=(congrArg unF e : a = b)
    exact T
  | .bi _ e _=>nomatch e
end
end Mine
namespace Mine
open PySem PySem.W PySem.Calls PyProof.Rows
noncomputable def pos (ι : List Nat) (j : Nat) : Option Nat:=List.rec (motive:=fun _=>Option Nat) none (fun k _ ih=>match Nat.beq k j with | true=>some 0 | false=>(match ih with | some i=>some (i + 1) | none=>none)) ι
theorem pos_get : ∀ {ι : List Nat} {i j : Nat},pos ι j = some i → hget ι i = some j
  | k :: ι,i,j,h=>by
    have h : (match Nat.beq k j with | true=>some 0 | false=>(match pos ι j with | some i=>some (i + 1) | none=>none)) = some i:=h
    cases e : Nat.beq k j with
    | true=>rw [e] at h; cases h; exact congrArg some (Nat.eq_of_beq_eq_true e)
    | false=>
      rw [e] at h
      cases q : pos ι j with
      | none=>rw [q] at h; cases h
      | some i'=>rw [q] at h; cases h; exact pos_get (ι:=ι) q
theorem pos_no : ∀ {ι : List Nat} {i j : Nat},pos ι j = none → hget ι i = some j → False
  | k :: ι,i,j,h,g=>by
    have h : (match Nat.beq k j with | true=>some 0 | false=>(match pos ι j with | some i=>some (i + 1) | none=>none)) = none:=h
    cases e : Nat.beq k j with
    | true=>rw [e] at h; cases h
    | false=>
      rw [e] at h
      cases q : pos ι j with
      | some i'=>rw [q] at h; cases h
      | none=>
        cases i with
        | zero=>obtain rfl:=Option.some.inj (show some k = some j from g); rw [Nat.beq_refl] at e; cases e
        | succ i=>exact pos_no (ι:=ι) q g
noncomputable def sb (ι : List Nat) (o : Nat → AV) (v : AV) : AV:=AV.rec (motive_1:=fun _=>AV) (motive_2:=fun _=>List AV) .none .any .bool .int .str .sym (fun _ r=>.tup r) (fun j=>match pos ι j with | some i=>.loc i | none=>o j) .bs .fn .bi [] (fun _ _ a b=>a :: b) v
noncomputable def sbL (ι : List Nat) (o : Nat → AV) (l : List AV) : List AV:=List.rec (motive:=fun _=>List AV) [] (fun v _ ih=>sb ι o v :: ih) l
noncomputable def sbO (ι : List Nat) (o : Nat → AV) (x : AO) : AO:=match x with
  | .list n r=>.list n (sbL ι o r)
  | .dict ks vs=>.dict ks (sbL ι o vs)
  | .ns ks vs=>.ns ks (sbL ι o vs)
  | .inst C d=>match pos ι d with | some i=>.inst C i | none=>.gone
  | .gone=>.gone
theorem sb_tup (ι : List Nat) (o : Nat → AV) (vs : List AV) : sb ι o (.tup vs) = .tup (sbL ι o vs):=by
  have : ∀ vs : List AV,(AV.rec_1 (motive_1:=fun _=>AV) (motive_2:=fun _=>List AV) .none .any .bool .int .str .sym (fun _ r=>.tup r) (fun j=>match pos ι j with | some i=>.loc i | none=>o j) .bs .fn .bi [] (fun _ _ a b=>a :: b) vs : List AV) = sbL ι o vs:=by
    intro vs
    induction vs with
    | nil=>rfl
    | cons v vs ih=>exact congrArg (sb ι o v :: ·) ih
  exact congrArg AV.tup (this vs)
theorem sbL_rev (ι : List Nat) (o : Nat → AV) : ∀ l,sbL ι o l.reverse = (sbL ι o l).reverse:=by
  have app : ∀ a b,sbL ι o (a ++ b) = sbL ι o a ++ sbL ι o b:=fun a b=>by
    induction a with
    | nil=>rfl
    | cons x a ih=>exact congrArg (sb ι o x :: ·) ih
  intro l
  induction l with
  | nil=>rfl
  | cons x l ih=>rw [List.reverse_cons,app,ih]; exact (List.reverse_cons ..).symm
theorem sbL_len (ι : List Nat) (o : Nat → AV) (l : List AV) : (sbL ι o l).length = l.length:=by
  induction l with
  | nil=>rfl
  | cons x l ih=>exact congrArg (· + 1) ih
noncomputable def sel (ι : List Nat) (ρ : List Addr) : List Addr:=List.rec (motive:=fun _=>List Addr) [] (fun j _ ih=>((hget ρ j).getD 0) :: ih) ι
theorem sel_len (ι : List Nat) (ρ : List Addr) : (sel ι ρ).length = ι.length:=by
  induction ι with
  | nil=>rfl
  | cons x l ih=>exact congrArg (· + 1) ih
theorem sel_get {ρ : List Addr} : ∀ {ι : List Nat} {i j : Nat} {a : Addr},hget ι i = some j → hget ρ j = some a → hget (sel ι ρ) i = some a
  | k :: ι,0,j,a,h,g=>by
    obtain rfl:=Option.some.inj (show some k = some j from h)
    show some ((hget ρ k).getD 0) = some a
    rw [g]; rfl
  | k :: ι,i + 1,j,a,h,g=>sel_get (ι:=ι) h g
theorem sel_un {ρ : List Addr} : ∀ {ι : List Nat} {i : Nat} {a : Addr},(∀ j ∈ ι,j < ρ.length) → hget (sel ι ρ) i = some a → ∃ j,hget ι i = some j ∧ hget ρ j = some a
  | k :: ι,0,a,hlt,h=>by
    obtain ⟨b,hb⟩:=hget_of_lt (hlt k (List.mem_cons_self ..))
    have h : some ((hget ρ k).getD 0) = some a:=h
    rw [hb] at h
    exact ⟨k,rfl,by rw [hb]; exact h⟩
  | k :: ι,i + 1,a,hlt,h=>sel_un (ι:=ι) (fun j m=>hlt j (List.mem_cons_of_mem _ m)) h
theorem get_of_mem {α : Type} {l : List α} {a : α} (m : a ∈ l) : ∃ i,hget l i = some a:=by
  obtain ⟨i,hi,e⟩:=List.mem_iff_getElem.mp m
  exact ⟨i,by rw [hget_eq,List.getElem?_eq_getElem hi,e]⟩
theorem sel_mem {ι : List Nat} {ρ : List Addr} {a : Addr} (hlt : ∀ j ∈ ι,j < ρ.length) (m : a ∈ sel ι ρ) : a ∈ ρ:=by
  obtain ⟨i,e⟩:=get_of_mem m
  obtain ⟨j,_,q⟩:=sel_un hlt e
  exact hget_mem q
theorem nodup_of_get {α : Type} {l : List α} (h : ∀ i j a,hget l i = some a → hget l j = some a → i = j) : l.Nodup:=by
  refine List.pairwise_iff_getElem.mpr fun i j hi hj hij e=>?_
  have:=h i j l[i] (by rw [hget_eq,List.getElem?_eq_getElem hi]) (by rw [hget_eq,List.getElem?_eq_getElem hj,e])
  omega
theorem sel_nodup {ι : List Nat} {ρ : List Addr} (hn : ι.Nodup) (hr : ρ.Nodup) (hlt : ∀ j ∈ ι,j < ρ.length) : (sel ι ρ).Nodup:=nodup_of_get fun i j a e f=>by
  obtain ⟨x,h1,h2⟩:=sel_un hlt e
  obtain ⟨y,g1,g2⟩:=sel_un hlt f
  obtain rfl:=hget_inj hr h2 g2
  exact hget_inj hn h1 g1
section
variable {c : Cx} {ι : List Nat} {o : Nat → AV} {ρ ρ0 : List Addr} {H H' H0 : Hs} {h h' : Heap} {v : AV} {u : Value} {vs : List AV} {us : List Value} {a : Addr} {x : AO} {n : Nat}
def OutR (c : Cx) (h : Heap) (ι : List Nat) (o : Nat → AV) (ρ ρ0 : List Addr) : Prop:=∀ j a,pos ι j = none → hget ρ j = some a → c.V h ρ0 (o j) (.ref a)
def SelR (ι : List Nat) (ρ ρ0 : List Addr) : Prop:=∀ i j,hget ι i = some j → hget ρ0 i = hget ρ j
theorem v_view (hi : SelR ι ρ ρ0) (ho : OutR c h ι o ρ ρ0) : ∀ {v : AV} {u : Value},c.V h ρ v u → c.V h ρ0 (sb ι o v) u:=fun {v}=>
  AV.ind (P:=fun v=>∀ {u : Value},c.V h ρ v u → c.V h ρ0 (sb ι o v) u) (fun v ih {u} e=>match v,ih,e with
    | .none,_,e=>e | .any,_,e=>e | .bool _,_,e=>e | .int _,_,e=>e | .str _,_,e=>e | .sym _,_,e=>e | .bs _,_,e=>e | .fn _,_,e=>e | .bi _,_,e=>e
    | .tup vs,ih,e=>by
      rw [sb_tup]
      refine un_tup (M:=fun u=>c.V h ρ0 (.tup (sbL ι o vs)) u) e fun a us t q=>v_tup t ?_
      clear e t
      induction vs generalizing us with
      | nil=>exact q
      | cons w ws ihw=>exact q.un (M:=fun us=>c.Vs h ρ0 (sb ι o w :: sbL ι o ws) us) fun u r e f=>.cons (ih _ rfl w (List.mem_cons_self ..) e) (ihw (fun vs' _ x m=>by
          intro u' e'
          exact ih (w :: ws) rfl x (List.mem_cons_of_mem _ (by injection ‹AV.tup ws = AV.tup vs'› with z; exact z ▸ m)) e') r f)
    | .loc j,_,e=>un_loc (M:=fun u=>c.V h ρ0 (sb ι o (.loc j)) u) e fun a q=>by
      show c.V h ρ0 (match pos ι j with | some i=>.loc i | none=>o j) (.ref a)
      cases p : pos ι j with
      | some i=>exact v_loc ((hi i j (pos_get p)).trans q)
      | none=>exact ho j a p q) v
theorem vs_view (hi : SelR ι ρ ρ0) (ho : OutR c h ι o ρ ρ0) : ∀ {vs : List AV} {us : List Value},c.Vs h ρ vs us → c.Vs h ρ0 (sbL ι o vs) us
  | [],us,e=>e
  | v :: vs,us,e=>e.un (M:=fun us=>c.Vs h ρ0 (sb ι o v :: sbL ι o vs) us) fun u r e f=>.cons (v_view hi ho e) (vs_view hi ho f)
theorem o_view (hi : SelR ι ρ ρ0) (ho : OutR c h ι o ρ ρ0) (r : ORel c h ρ ρ x a) : ORel c h ρ0 ρ0 (sbO ι o x) a:=match x,r with
  | .list n l,.mk us h1 h2 h3=>.mk us (by rw [sbL_len]; exact h1) h2 (by rw [← sbL_rev]; exact vs_view hi ho h3)
  | .dict ks vs,.mk us h0 h1 h2 h3=>.mk us h0 h1 h2 (vs_view hi ho h3)
  | .ns ks vs,.mk m us h1 h2 h3 h4=>.mk m us h1 h2 h3 (vs_view hi ho h4)
  | .inst C d,.mk dx h1 h2=>by
    show ORel c h ρ0 ρ0 (match pos ι d with | some i=>.inst C i | none=>.gone) a
    cases p : pos ι d with
    | none=>exact trivial
    | some i=>exact .mk dx h1 ((hi i d (pos_get p)).trans h2)
  | .gone,_=>trivial
structure ViewH (ι : List Nat) (o : Nat → AV) (H H0 : Hs) : Prop where
  nodup : ι.Nodup
  lt : ∀ j ∈ ι,j < H.length
  len : H0.length = ι.length
  get : ∀ i j x,hget ι i = some j → hget H j = some x → hget H0 i = some (sbO ι o x) ∨ hget H0 i = some .gone
theorem sel_in (hlt : ∀ j ∈ ι,j < ρ.length) : SelR ι ρ (sel ι ρ):=fun i j e=>by
  obtain ⟨a,ha⟩:=hget_of_lt (hlt j (hget_mem e))
  rw [ha]; exact sel_get e ha
theorem RelH.view (R : RelH c ρ H h) (W : ViewH ι o H H0) (ho : OutR c h ι o ρ (sel ι ρ)) : RelH c (sel ι ρ) H0 h:=by
  have hlt : ∀ j ∈ ι,j < ρ.length:=fun j m=>R.len.symm ▸ W.lt j m
  refine ⟨R.keep,by rw [sel_len,W.len],sel_nodup W.nodup R.nodup hlt,fun a m=>R.new a (sel_mem hlt m),fun i a x ea ex=>?_⟩
  obtain ⟨j,e1,e2⟩:=sel_un hlt ea
  obtain ⟨y,hy⟩:=hget_of_lt (W.lt j (hget_mem e1))
  rcases W.get i j y e1 hy with q | q
  · obtain rfl:=Option.some.inj (ex.symm.trans q)
    exact o_view (sel_in hlt) ho (R.obj j a y e2 hy)
  · obtain rfl:=Option.some.inj (ex.symm.trans q)
    exact trivial
theorem out_any : OutR c h ι (fun _=>.any) ρ ρ0:=fun _ _ _ _=>trivial
theorem RelV.view {env : Env} {kd : Kd} {V V0 : Vs} (R : RelV c env kd V ρ h) (hlt : ∀ j ∈ ι,j < ρ.length) (ho : OutR c h ι o ρ (sel ι ρ)) (hV : ∀ x v,Mine.look V0 x = some v → v = .any ∧ (∃ w,Mine.look V x = some w) ∨ ∃ w,Mine.look V x = some w ∧ v = sb ι o w) : RelV c env kd V0 (sel ι ρ) h:=by
  have key : ∀ x v,Mine.look V0 x = some v → ∃ w,Mine.look V x = some w ∧ ∀ u,c.V h ρ w u → c.V h (sel ι ρ) v u:=fun x v e=>(hV x v e).elim (fun q=>q.2.elim fun w z=>⟨w,z,fun u _=>q.1 ▸ trivial⟩) fun q=>q.elim fun w z=>⟨w,z.1,fun u q=>z.2 ▸ v_view (sel_in hlt) ho q⟩
  refine ⟨R.kind,R.names,R.glob,R.blt,?_,R.locNew,fun m=>R.locρ (sel_mem hlt m),fun x a e=>?_,R.apart,R.has,fun x v a e k f=>?_⟩
  · obtain ⟨m,hn,hv⟩:=R.loc
    refine .mk m hn fun x v e k=>?_
    obtain ⟨w,z1,z2⟩:=key x v e
    obtain ⟨u,u1,u2⟩:=hv x w z1 k
    exact ⟨u,u1,z2 u u2⟩
  · obtain ⟨v0,hB,hρ,hL,hc⟩:=R.cells x a e
    exact .mk v0 hB (fun m=>hρ (sel_mem hlt m)) hL hc
  · obtain ⟨w,z1,z2⟩:=key x v e
    obtain ⟨u,hc,hv⟩:=R.cvar x w a z1 k f
    exact .mk u hc (z2 u hv)
end
noncomputable def ndB (ι : List Nat) : Bool:=List.rec (motive:=fun _=>Bool) true (fun k r ih=>match pos r k with | none=>ih | some _=>false) ι
theorem nd_ok : ∀ {ι : List Nat},ndB ι = true → ι.Nodup
  | [],_=>List.nodup_nil
  | k :: r,h=>by
    have h : (match pos r k with | none=>ndB r | some _=>false) = true:=h
    cases e : pos r k with
    | some i=>rw [e] at h; cases h
    | none=>rw [e] at h; exact List.nodup_cons.mpr ⟨fun m=>(get_of_mem m).elim fun i q=>pos_no e q,nd_ok h⟩
noncomputable def kf {γ : Type} (f : List Bool) (x y : γ) : γ:=match f with | false :: _=>y | _=>x
noncomputable def vwL (ι0 : List Nat) (o : Nat → AV) (H : Hs) (ι : List Nat) : List Bool → Option Hs:=List.rec (motive:=fun _=>List Bool → Option Hs) (fun _=>some []) (fun j _ ih f=>bn1 (hget H j) fun x=>bn1 (ih f.tail) fun l=>some (kf f (sbO ι0 o x) .gone :: l)) ι
noncomputable def view (ι : List Nat) (f : List Bool) (o : Nat → AV) (H : Hs) : Option Hs:=grd (ndB ι) (vwL ι o H ι f)
theorem bn1_el {α γ : Type} {o : Option α} {k : α → Option γ} {y : γ} (h : bn1 o k = some y) {C : Prop} (K : ∀ x,o = some x → k x = some y → C) : C:=match o,h,K with | some x,h,K=>K x rfl h
theorem grd_el {γ : Type} {b : Bool} {x : Option γ} {y : γ} (h : grd b x = some y) {C : Prop} (K : b = true → x = some y → C) : C:=match b,h,K with | true,h,K=>K rfl h
theorem vwL_ok {ι0 : List Nat} {o : Nat → AV} {H : Hs} : ∀ {ι : List Nat} {f : List Bool} {H0 : Hs},vwL ι0 o H ι f = some H0 → H0.length = ι.length ∧ (∀ j ∈ ι,j < H.length) ∧ ∀ i j x,hget ι i = some j → hget H j = some x → hget H0 i = some (sbO ι0 o x) ∨ hget H0 i = some .gone
  | [],f,H0,h=>by cases h; exact ⟨rfl,fun _ m=>(nomatch m),fun i j x e=>(hget_no e).elim⟩
  | k :: ι,f,H0,h=>bn1_el (show bn1 (hget H k) (fun x=>bn1 (vwL ι0 o H ι f.tail) fun l=>some (kf f (sbO ι0 o x) .gone :: l)) = some H0 from h) fun x e h=>bn1_el h fun l e' h=>by
    cases h
    obtain ⟨h1,h2,h3⟩:=vwL_ok e'
    refine ⟨congrArg (· + 1) h1,fun j m=>(List.mem_cons.mp m).elim (fun q=>q ▸ hget_lt e) (h2 j),fun i j y ei ej=>?_⟩
    cases i with
    | succ i=>exact h3 i j y ei ej
    | zero=>
      obtain rfl:=Option.some.inj (show some k = some j from ei)
      obtain rfl:=Option.some.inj (e.symm.trans ej)
      match f with
      | false :: _=>exact .inr rfl
      | true :: _=>exact .inl rfl
      | []=>exact .inl rfl
theorem view_ok {ι : List Nat} {f : List Bool} {o : Nat → AV} {H H0 : Hs} (h : view ι f o H = some H0) : ViewH ι o H H0:=grd_el h fun a b=>have q:=vwL_ok b; ⟨nd_ok a,q.2.1,q.1,q.2.2⟩
noncomputable def preB (p : Nat) (ι : List Nat) : Nat → Bool:=List.rec (motive:=fun _=>Nat → Bool) (fun i=>Nat.ble p i) (fun k _ ih i=>match Nat.blt i p with | true=>b2 (Nat.beq k i) (ih (i + 1)) | false=>b2 (Nat.ble p k) (ih (i + 1))) ι
theorem pre_ok {p : Nat} : ∀ {ι : List Nat} {i : Nat},preB p ι i = true → (∀ k,i + k < p → hget ι k = some (i + k)) ∧ ∀ k j,p ≤ i + k → hget ι k = some j → p ≤ j
  | [],i,h=>⟨fun k hk=>absurd (Nat.le_of_ble_eq_true h) (by omega),fun k j _ e=>(hget_no e).elim⟩
  | x :: ι,i,h=>by
    have h : (match Nat.blt i p with | true=>b2 (Nat.beq x i) (preB p ι (i + 1)) | false=>b2 (Nat.ble p x) (preB p ι (i + 1))) = true:=h
    cases e : Nat.blt i p with
    | true=>
      rw [e] at h
      refine b2_el h fun h1 h2=>?_
      obtain ⟨k1,k2⟩:=pre_ok h2
      have:=Nat.blt_eq.mp e
      refine ⟨fun k hk=>match k,hk with
        | 0,_=>congrArg some (Nat.eq_of_beq_eq_true h1)
        | k + 1,hk=>(k1 k (by omega)).trans (congrArg some (by omega)),fun k j hk ej=>match k,hk,ej with
        | 0,hk,_=>absurd hk (by omega)
        | k + 1,hk,ej=>k2 k j (by omega) ej⟩
    | false=>
      rw [e] at h
      refine b2_el h fun h1 h2=>?_
      obtain ⟨k1,k2⟩:=pre_ok h2
      have : ¬ i < p:=fun q=>by rw [Nat.blt_eq.mpr q] at e; cases e
      refine ⟨fun k hk=>absurd hk (by omega),fun k j hk ej=>match k,hk,ej with
        | 0,_,ej=>Option.some.inj ej ▸ Nat.le_of_ble_eq_true h1
        | k + 1,_,ej=>k2 k j (by omega) ej⟩
theorem list_ext {α : Type} {l m : List α} (h : ∀ i,hget l i = hget m i) : l = m:=List.ext_getElem? fun i=>by rw [← hget_eq,← hget_eq,h i]
theorem hget_none {α : Type} {l : List α} {i : Nat} (h : l.length ≤ i) : hget l i = none:=by rw [hget_eq]; exact List.getElem?_eq_none h
theorem sel_pre {ρ t : List Addr} {ι : List Nat} (hp : preB ρ.length ι 0 = true) (hlt : ∀ j ∈ ι,j < (ρ ++ t).length) : ∃ t0,sel ι (ρ ++ t) = ρ ++ t0 ∧ ∀ a ∈ t0,a ∈ t:=by
  obtain ⟨k1,k2⟩:=pre_ok hp
  have hle : ρ.length ≤ ι.length:=Nat.not_lt.mp fun q=>by
    have:=k1 ι.length (by omega)
    rw [hget_none (Nat.le_refl _)] at this
    cases this
  refine ⟨(sel ι (ρ ++ t)).drop ρ.length,?_,fun a m=>?_⟩
  · conv=>lhs; rw [← List.take_append_drop ρ.length (sel ι (ρ ++ t))]
    congr 1
    refine list_ext fun i=>?_
    by_cases hi : i < ρ.length
    · obtain ⟨a,ha⟩:=hget_of_lt hi
      have e:=sel_get (k1 i (by omega)) (show hget (ρ ++ t) (0 + i) = some a by rw [Nat.zero_add]; exact hget_app ha)
      rw [ha,hget_eq,List.getElem?_take_of_lt hi,← hget_eq,e]
    · rw [hget_none (Nat.not_lt.mp hi),hget_none (by rw [List.length_take]; omega)]
  · obtain ⟨i,e⟩:=get_of_mem m
    rw [hget_eq,List.getElem?_drop,← hget_eq] at e
    obtain ⟨j,e1,e2⟩:=sel_un hlt e
    have:=k2 _ j (by omega) e1
    rw [hget_eq,List.getElem?_append_right this,← hget_eq] at e2
    exact hget_mem e2
noncomputable def sbF (ι : List Nat) (o : Nat → AV) (fl : Fl) : Fl:=match fl with | .next=>.next | .ret v=>.ret (sb ι o v)
noncomputable def vwV (ι : List Nat) (o : Nat → AV) (V : Vs) (xs : List Str) : Vs:=List.rec (motive:=fun _=>Vs) [] (fun x _ ih=>match Mine.look V x with | some v=>(x,sb ι o v) :: ih | none=>ih) xs
theorem vwV_ok {ι : List Nat} {o : Nat → AV} {V : Vs} : ∀ {xs : List Str} {x : Str} {v : AV},Mine.look (vwV ι o V xs) x = some v → ∃ w,Mine.look V x = some w ∧ v = sb ι o w
  | y :: xs,x,v,h=>by
    have h : Mine.look (match Mine.look V y with | some v=>(y,sb ι o v) :: vwV ι o V xs | none=>vwV ι o V xs) x = some v:=h
    cases e : Mine.look V y with
    | none=>rw [e] at h; exact vwV_ok h
    | some w=>
      rw [e] at h
      have h : iff (seqb y x) (some (sb ι o w)) (Mine.look (vwV ι o V xs) x) = some v:=h
      cases q : seqb y x with
      | true=>rw [q] at h; exact ⟨w,seqb_eq q ▸ e,(Option.some.inj h).symm⟩
      | false=>rw [q] at h; exact vwV_ok h
abbrev anyO : Nat → AV:=fun _=>.any
section
variable {c : Cx} {ι ι' : List Nat} {fs : List Bool} {ρ ρ0 ρ' : List Addr} {H H' H0 H1 H2 : Hs} {h h' : Heap} {v : AV} {u : Value} {vs as : List AV} {us : List Value} {a : Addr} {n : Nat} {s s' s0 : Shared} {env : Env} {kd : Kd} {V V1 : Vs} {fl : Fl} {f : AV} {fw : Flow} {X : Addr → Prop} {ts : List Stmt}
theorem Step.view (S : Step ρ X ρ' h h') (hp : preB ρ.length ι 0 = true) (hlt : ∀ j ∈ ι,j < ρ'.length) : Step ρ X (sel ι ρ') h h':=⟨S.keep,match S.pre with
  | .mk t e ht=>by subst e; exact (sel_pre hp hlt).elim fun t0 q=>.mk t0 q.1 fun a m=>ht a (q.2 a m),S.live⟩
theorem PE.view (p : PE c ρ s v H1 u s') (hp : preB ρ.length ι 0 = true) (hv : view ι fs anyO H1 = some H2) : PE c ρ s (sb ι anyO v) H2 u s':=match p with
  | .mk ρ' R V W=>by
    have q:=view_ok hv
    have hlt : ∀ j ∈ ι,j < ρ'.length:=fun j m=>R.len.symm ▸ q.lt j m
    exact .mk (sel ι ρ') (R.view q out_any) (v_view (sel_in hlt) out_any V) ⟨W.S.view hp hlt,W.M⟩
theorem tc_view (T : TC c n f as H v H1) (hp : preB (hlen H) ι 0 = true) (hv : view ι fs anyO H1 = some H2) : TC c n f as H (sb ι anyO v) H2:=fun A ρ s fv vals ak R hf hvs=>codeAny_mono (T A ρ s fv vals ak R hf hvs) fun r s' p=>match p with
  | .mk u e p=>.mk u e (p.view (by rw [R.len,← hlen_eq]; exact hp) hv)
theorem PS.view {xs : List Str} (p : PS c env kd ρ s fl V1 H1 fw s') (hp : preB ρ.length ι 0 = true) (hv : view ι fs anyO H1 = some H2) : PS c env kd ρ s (sbF ι anyO fl) (vwV ι anyO V1 xs) H2 fw s':=match p with
  | .mk ρ' R RV F S M=>by
    have q:=view_ok hv
    have hlt : ∀ j ∈ ι,j < ρ'.length:=fun j m=>R.len.symm ▸ q.lt j m
    refine .mk (sel ι ρ') (R.view q out_any) (RV.view hlt out_any fun x v e=>.inr (vwV_ok e)) ?_ (S.view hp hlt) M
    cases fl with
    | next=>exact F
    | ret v=>obtain ⟨u,hu⟩:=F; exact .mk u (v_view (sel_in hlt) out_any hu)
abbrev outA (α : Nat → Addr) : Nat → AV:=fun j=>.fn (α j)
theorem v_back {α : Nat → Addr} {N : Nat} (hi : SelR ι ρ ρ0) (hα : ∀ j a,pos ι j = none → hget ρ j = some a → α j = a) (hN : ρ.length = N) : ∀ v : AV,low N v = true → ∀ u,c.V h ρ0 (sb ι (outA α) v) u → c.V h ρ v u:=
  AV.rec (motive_1:=fun v=>low N v = true → ∀ u,c.V h ρ0 (sb ι (outA α) v) u → c.V h ρ v u) (motive_2:=fun vs=>lowL N vs = true → ∀ us,c.Vs h ρ0 (sbL ι (outA α) vs) us → c.Vs h ρ vs us)
    (fun _ _ e=>e) (fun _ _ e=>e) (fun _ _ _ e=>e) (fun _ _ _ e=>e) (fun _ _ _ e=>e) (fun _ _ _ e=>e)
    (fun vs ih l u e=>by
      rw [sb_tup] at e
      have l : lowL N vs = true:=by
        have key : ∀ vs : List AV,low N (.tup vs) = lowL N vs:=fun vs=>by
          show AV.rec_1 (motive_1:=fun _=>Bool) (motive_2:=fun _=>Bool) true true (fun _=>true) (fun _=>true) (fun _=>true) (fun _=>true) (fun _ ih=>ih) (fun i=>Nat.blt i N) (fun _=>true) (fun _=>true) (fun _=>true) true (fun _ _ a b=>match a with | true=>b | false=>false) vs = _
          induction vs with
          | nil=>rfl
          | cons v vs ih=>
            show (match low N v with | true=>_ | false=>false) = (match low N v with | true=>_ | false=>false)
            cases low N v with
            | true=>exact ih
            | false=>rfl
        exact key vs ▸ l
      exact un_tup (M:=fun u=>c.V h ρ (.tup vs) u) e fun a us t q=>v_tup t (ih l us q))
    (fun j l u e=>by
      have hj : j < ρ.length:=hN ▸ Nat.blt_eq.mp l
      obtain ⟨a,ha⟩:=hget_of_lt hj
      have e : c.V h ρ0 (match pos ι j with | some i=>.loc i | none=>.fn (α j)) u:=e
      cases p : pos ι j with
      | some i=>rw [p] at e; exact un_loc (M:=fun u=>c.V h ρ (.loc j) u) e fun b q=>v_loc ((hi i j (pos_get p)).symm.trans q)
      | none=>rw [p] at e; obtain rfl : u = .ref (α j):=e; exact v_loc (ha.trans (congrArg some (hα j a p ha).symm)))
    (fun _ _ _ e=>e) (fun _ _ _ e=>e) (fun _ _ _ e=>e) (fun _ _ e=>e)
    (fun v vs i1 i2 l us e=>Cx.Vs.un (vs:=sbL ι (outA α) vs) e (M:=fun us=>c.Vs h ρ (v :: vs) us) fun u r e1 e2=>by
      have l : (match low N v with | true=>lowL N vs | false=>false) = true:=l
      cases q : low N v with
      | true=>rw [q] at l; exact .cons (i1 q u e1) (i2 l r e2)
      | false=>rw [q] at l; cases l)
theorem vs_back {α : Nat → Addr} {N : Nat} (hi : SelR ι ρ ρ0) (hα : ∀ j a,pos ι j = none → hget ρ j = some a → α j = a) (hN : ρ.length = N) : ∀ {vs : List AV} {us : List Value},lowL N vs = true → c.Vs h ρ0 (sbL ι (outA α) vs) us → c.Vs h ρ vs us
  | [],us,_,e=>e
  | v :: vs,us,l,e=>Cx.Vs.un (vs:=sbL ι (outA α) vs) e (M:=fun us=>c.Vs h ρ (v :: vs) us) fun u r e1 e2=>by
      have l : (match low N v with | true=>lowL N vs | false=>false) = true:=l
      cases q : low N v with
      | true=>rw [q] at l; exact .cons (v_back hi hα hN v q u e1) (vs_back hi hα hN l e2)
      | false=>rw [q] at l; cases l
noncomputable def backO (ι : List Nat) (N : Nat) (x : AO) : Bool:=match x with
  | .inst C d=>(match pos ι d with | some _=>true | none=>false)
  | x=>lowO N x
theorem o_back {α : Nat → Addr} {N : Nat} {x : AO} (hi : SelR ι ρ ρ0) (hα : ∀ j a,pos ι j = none → hget ρ j = some a → α j = a) (hN : ρ.length = N) (l : backO ι N x = true) (r : ORel c h ρ0 ρ0 (sbO ι (outA α) x) a) : ORel c h ρ ρ x a:=match x,l,r with
  | .list n q,l,.mk us h1 h2 h3=>.mk us (by rw [sbL_len] at h1; exact h1) h2 (by
      rw [← sbL_rev] at h3
      refine vs_back hi hα hN ?_ h3
      have low_mem : ∀ l : List AV,lowL N l = true ↔ ∀ x ∈ l,low N x = true:=fun l=>by
        induction l with
        | nil=>exact ⟨fun _ _ m=>(nomatch m),fun _=>rfl⟩
        | cons y l ih=>
          have e : lowL N (y :: l) = (match low N y with | true=>lowL N l | false=>false):=rfl
          rw [e]
          cases q : low N y with
          | true=>exact ih.trans ⟨fun z x m=>(List.mem_cons.mp m).elim (fun e=>e ▸ q) (z x),fun z x m=>z x (List.mem_cons_of_mem _ m)⟩
          | false=>exact ⟨fun z=>(nomatch z),fun z=>(by have:=z y (List.mem_cons_self ..); rw [q] at this; cases this)⟩
      exact (low_mem _).mpr fun x m=>(low_mem _).mp l x (List.mem_reverse.mp m))
  | .dict ks vs,l,.mk us h0 h1 h2 h3=>.mk us h0 h1 h2 (vs_back hi hα hN l h3)
  | .ns ks vs,l,.mk m us h1 h2 h3 h4=>.mk m us h1 h2 h3 (vs_back hi hα hN l h4)
  | .inst C d,l,r=>by
    have l : (match pos ι d with | some _=>true | none=>false) = true:=l
    have r : ORel c h ρ0 ρ0 (match pos ι d with | some i=>.inst C i | none=>.gone) a:=r
    cases p : pos ι d with
    | none=>rw [p] at l; cases l
    | some i=>
      rw [p] at r
      obtain ⟨dx,h1,h2⟩:=r
      exact .mk dx h1 ((hi i d (pos_get p)).symm.trans h2)
  | .gone,_,_=>trivial
end
theorem vwL_all {ι0 : List Nat} {o : Nat → AV} {H : Hs} : ∀ {ι : List Nat} {H0 : Hs},vwL ι0 o H ι [] = some H0 → ∀ i j x,hget ι i = some j → hget H j = some x → hget H0 i = some (sbO ι0 o x)
  | [],H0,h=>fun i j x e=>(hget_no e).elim
  | k :: ι,H0,h=>bn1_el (show bn1 (hget H k) (fun x=>bn1 (vwL ι0 o H ι []) fun l=>some (sbO ι0 o x :: l)) = some H0 from h) fun x e h=>bn1_el h fun l e' h=>by
    cases h
    intro i j y ei ej
    cases i with
    | succ i=>exact vwL_all e' i j y ei ej
    | zero=>
      obtain rfl:=Option.some.inj (show some k = some j from ei)
      obtain rfl:=Option.some.inj (e.symm.trans ej)
      rfl
theorem view_all {ι : List Nat} {o : Nat → AV} {H H0 : Hs} (h : view ι [] o H = some H0) : ∀ i j x,hget ι i = some j → hget H j = some x → hget H0 i = some (sbO ι o x):=grd_el h fun _ b=>vwL_all b
theorem pos_app {ι κ : List Nat} {j : Nat} (h : pos (ι ++ κ) j = none) : pos ι j = none:=match e : pos ι j with
  | none=>rfl
  | some i=>(pos_no h (hget_app (pos_get e))).elim
inductive FrT (c : Cx) (n : Nat) (a : Addr) (ι ι' : List Nat) (as : List AV) (H : Hs) (v : AV) (H' : Hs) (α : Nat → Addr) : Prop
  | mk (H0 H0' : Hs) (e1 : view ι [] (outA α) H = some H0) (e2 : view ι' [] (outA α) H' = some H0') (T : TC c n (.fn a) (sbL ι (outA α) as) H0 (sb ι' (outA α) v) H0')
structure FrOk (ι κ : List Nat) (H H' : Hs) (v : AV) : Prop where
  len : H'.length = H.length + κ.length
  new : ∀ i j,hget κ i = some j → j = H.length + i
  back : ∀ j x,j ∈ ι ++ κ → hget H' j = some x → backO (ι ++ κ) H'.length x = true
  low : low H'.length v = true
  fr : ∀ j x,j < H.length → pos ι j = none → hget H' j = some x → hget H j = some x
section
variable {c : Cx} {ι κ : List Nat} {ρ ρ0 ρ' : List Addr} {H H' H0 H1 H2 : Hs} {h h' : Heap} {v : AV} {u : Value} {vs as : List AV} {us : List Value} {a : Addr} {n : Nat} {s s' s0 : Shared}
theorem tc_frame (Q : FrOk ι κ H H' v) (T : ∀ α,FrT c n a ι (ι ++ κ) as H v H' α) : TC c n (.fn a) as H v H':=fun A ρ s fv vals ak R hf hvs=>by
  have hα : ∀ j b,hget ρ j = some b → (hget ρ j).getD 0 = b:=fun j b e=>by rw [e]; rfl
  obtain ⟨H0,H0',e1,e2,T⟩:=T fun j=>(hget ρ j).getD 0
  have q1:=view_ok e1
  have q2:=view_ok e2
  have hlt : ∀ j ∈ ι,j < ρ.length:=fun j m=>R.len.symm ▸ q1.lt j m
  have hout : OutR c s.heap ι (outA fun j=>(hget ρ j).getD 0) ρ (sel ι ρ):=fun j b _ e=>congrArg Value.ref (hα j b e).symm
  have R0 : RelH c (sel ι ρ) H0 s.heap:=R.view q1 hout
  refine codeAny_mono (T A (sel ι ρ) s fv vals ak R0 hf (vs_view (sel_in hlt) hout hvs)) fun r s' p=>?_
  obtain ⟨u,e,ρ0',R',V',⟨S',M'⟩⟩:=p
  obtain ⟨t,rfl,ht⟩:=S'.pre
  have l0:=sel_len ι ρ
  have lt' : t.length = κ.length:=by
    have:=R'.len
    rw [q2.len,List.length_append,List.length_append,l0] at this
    omega
  have hi : SelR (ι ++ κ) (ρ ++ t) (sel ι ρ ++ t):=fun i j e=>by
    by_cases hi : i < ι.length
    · have e:=hget_old e hi
      obtain ⟨b,hb⟩:=hget_of_lt (hlt j (hget_mem e))
      rw [hget_app hb,hget_app (sel_get e hb)]
    · have hi:=Nat.not_lt.mp hi
      rw [hget_eq,List.getElem?_append_right hi,← hget_eq] at e
      have:=Q.new _ j e
      rw [hget_eq,hget_eq,List.getElem?_append_right (by rw [l0]; exact hi),List.getElem?_append_right (by rw [R.len]; omega),l0,R.len]
      congr 1
      omega
  have hin : ∀ j,pos (ι ++ κ) j = none → j < (ρ ++ t).length → j < ρ.length:=fun j hp hj=>Nat.not_le.mp fun hge=>by
    rw [List.length_append,lt',R.len] at hj
    rw [R.len] at hge
    obtain ⟨j',hj'⟩:=hget_of_lt (show j - H.length < κ.length by omega)
    obtain rfl : j' = j:=by have:=Q.new _ j' hj'; omega
    exact pos_no (i:=ι.length + (j' - H.length)) hp (by rw [hget_eq,List.getElem?_append_right (by omega),← hget_eq]; rw [show ι.length + (j' - H.length) - ι.length = j' - H.length by omega]; exact hj')
  have hα' : ∀ j b,pos (ι ++ κ) j = none → hget (ρ ++ t) j = some b → (hget ρ j).getD 0 = b:=fun j b hp e=>hα j b (hget_old e (hin j hp (hget_lt e)))
  have len' : (ρ ++ t).length = H'.length:=by rw [Q.len,List.length_append,lt',R.len]
  have old : ∀ a,a ∈ ρ → ∃ o,s.heap.get? a = some o:=fun a m=>match R.new a m with | .mk o _ e _=>⟨o,e⟩
  have R2 : RelH c (ρ ++ t) H' s'.heap:=by
    refine ⟨R'.keep,len',?_,fun a m=>?_,fun i a x ea ex=>?_⟩
    · refine List.nodup_append.mpr ⟨R.nodup,(List.nodup_append.mp R'.nodup).2.1,fun x hx y hy q=>?_⟩
      obtain ⟨o,e⟩:=old x hx
      subst q
      rw [ht x hy] at e
      cases e
    · rcases List.mem_append.mp m with m | m
      · by_cases m0 : a ∈ sel ι ρ
        · exact R'.new a (List.mem_append.mpr (.inl m0))
        · exact (R.new a m).keep fun o e=>S'.keep a o e m0 fun z=>z
      · exact R'.new a (List.mem_append.mpr (.inr m))
    · cases p : pos (ι ++ κ) i with
      | some k=>
        have g:=pos_get p
        exact o_back hi hα' len' (Q.back i x (hget_mem g) ex) (R'.obj k a _ ((hi k i g).trans ea) (view_all e2 k i x g ex))
      | none=>
        have hlt':=hin i p (hget_lt ea)
        have ea':=hget_old ea hlt'
        have p0:=pos_app p
        have ex':=Q.fr i x (R.len ▸ hlt') p0 ex
        have nin : a ∉ sel ι ρ:=fun m=>by
          obtain ⟨k,ek⟩:=get_of_mem m
          obtain ⟨j,z1,z2⟩:=sel_un hlt ek
          obtain rfl:=hget_inj R.nodup z2 ea'
          exact pos_no p0 z1
        exact (R.obj i a x ea' ex').mono (fun b us z=>S'.tup R0 noX_no z) (fun _ _ e=>hget_app e) (fun _ _ e=>hget_app e) fun o e=>S'.keep a o e nin fun z=>z
  exact .mk u e (.mk (ρ ++ t) R2 (v_back hi hα' len' v Q.low u V') ⟨⟨fun b o e nb _=>S'.keep b o e (fun m=>nb (sel_mem hlt m)) fun z=>z,.mk t rfl ht,S'.live⟩,M'⟩)
noncomputable def ds (σ : Nat → Str) (v : AV) : AV:=AV.rec (motive_1:=fun _=>AV) (motive_2:=fun _=>List AV) .none .any .bool .int .str (fun k=>.str (σ k)) (fun _ r=>.tup r) .loc .bs .fn .bi [] (fun _ _ a b=>a :: b) v
noncomputable def dsL (σ : Nat → Str) (l : List AV) : List AV:=List.rec (motive:=fun _=>List AV) [] (fun v _ ih=>ds σ v :: ih) l
noncomputable def dsO (σ : Nat → Str) (x : AO) : AO:=match x with
  | .list n r=>.list n (dsL σ r)
  | .dict ks vs=>.dict ks (dsL σ vs)
  | .ns ks vs=>.ns ks (dsL σ vs)
  | x=>x
noncomputable def dsH (σ : Nat → Str) (H : Hs) : Hs:=List.rec (motive:=fun _=>Hs) [] (fun x _ ih=>dsO σ x :: ih) H
noncomputable def dsF (σ : Nat → Str) (fl : Fl) : Fl:=match fl with | .next=>.next | .ret v=>.ret (ds σ v)
noncomputable def dsV (σ : Nat → Str) (V : Vs) : Vs:=List.rec (motive:=fun _=>Vs) [] (fun p _ ih=>(p.1,ds σ p.2) :: ih) V
structure CxE (c d : Cx) : Prop where
  prog : c.prog = d.prog
  w : c.w = d.w
  B : c.B = d.B
  F : c.F = d.F
end
section
variable {c d : Cx} {ρ ρ' ix : List Addr} {H H' : Hs} {h : Heap} {v : AV} {u : Value} {vs as : List AV} {us : List Value} {a : Addr} {n : Nat} {s s' : Shared} {x : AO}
theorem ds_V (E : CxE c d) : ∀ v : AV,c.V h ρ v = d.V h ρ (ds c.σ v):=
  AV.rec (motive_1:=fun v=>c.V h ρ v = d.V h ρ (ds c.σ v)) (motive_2:=fun vs=>c.V h ρ (.tup vs) = d.V h ρ (ds c.σ (.tup vs)) ∧ c.Vs h ρ vs = d.Vs h ρ (dsL c.σ vs))
    rfl rfl (fun _=>rfl) (fun _=>rfl) (fun _=>rfl) (fun _=>rfl) (fun vs ih=>ih.1) (fun _=>rfl)
    (fun i=>by show LocR c.F i = LocR d.F i; rw [E.F]) (fun _=>rfl) (fun _=>rfl)
    ⟨rfl,rfl⟩ fun v vs i1 i2=>by
      have key : ∀ vs : List AV,ds c.σ (.tup vs) = .tup (dsL c.σ vs):=fun vs=>by
        show AV.tup _ = _
        congr 1
        induction vs with
        | nil=>rfl
        | cons v vs ih=>exact congrArg (ds c.σ v :: ·) ih
      have e : c.Vs h ρ (v :: vs) = d.Vs h ρ (dsL c.σ (v :: vs)):=by
        show ConsR (c.V h ρ v) (c.Vs h ρ vs) = ConsR (d.V h ρ (ds c.σ v)) (d.Vs h ρ (dsL c.σ vs))
        rw [i1,i2.2]
      refine ⟨?_,e⟩
      rw [key]
      show TupR h (c.Vs h ρ (v :: vs)) = TupR h (d.Vs h ρ (dsL c.σ (v :: vs)))
      rw [e]
theorem ds_Vs (E : CxE c d) : ∀ vs : List AV,c.Vs h ρ vs = d.Vs h ρ (dsL c.σ vs)
  | []=>rfl
  | v :: vs=>by
    show ConsR (c.V h ρ v) (c.Vs h ρ vs) = ConsR (d.V h ρ (ds c.σ v)) (d.Vs h ρ (dsL c.σ vs))
    rw [ds_V E,ds_Vs E vs]
theorem dsL_rev (σ : Nat → Str) : ∀ l,dsL σ l.reverse = (dsL σ l).reverse:=by
  have app : ∀ a b,dsL σ (a ++ b) = dsL σ a ++ dsL σ b:=fun a b=>by
    induction a with
    | nil=>rfl
    | cons x a ih=>exact congrArg (ds σ x :: ·) ih
  intro l
  induction l with
  | nil=>rfl
  | cons x l ih=>rw [List.reverse_cons,app,ih]; exact (List.reverse_cons ..).symm
theorem dsL_len (σ : Nat → Str) (l : List AV) : (dsL σ l).length = l.length:=by
  induction l with
  | nil=>rfl
  | cons x l ih=>exact congrArg (· + 1) ih
theorem ds_O (E : CxE c d) : ORel c h ρ ix x a ↔ ORel d h ρ ix (dsO c.σ x) a:=by
  cases x with
  | list n r=>exact ⟨fun ⟨us,h1,h2,h3⟩=>⟨us,by rw [dsL_len]; exact h1,h2,by rw [← dsL_rev,← ds_Vs E]; exact h3⟩,fun ⟨us,h1,h2,h3⟩=>⟨us,by rw [dsL_len] at h1; exact h1,h2,by rw [← dsL_rev,← ds_Vs E] at h3; exact h3⟩⟩
  | dict ks vs=>exact ⟨fun ⟨us,h0,h1,h2,h3⟩=>⟨us,h0,by rw [← E.prog,← E.w]; exact h1,h2,by rw [← ds_Vs E]; exact h3⟩,fun ⟨us,h0,h1,h2,h3⟩=>⟨us,h0,by rw [E.prog,E.w]; exact h1,h2,by rw [ds_Vs E]; exact h3⟩⟩
  | ns ks vs=>exact ⟨fun ⟨m,us,h1,h2,h3,h4⟩=>⟨m,us,h1,h2,h3,by rw [← ds_Vs E]; exact h4⟩,fun ⟨m,us,h1,h2,h3,h4⟩=>⟨m,us,h1,h2,h3,by rw [ds_Vs E]; exact h4⟩⟩
  | inst C d=>exact Iff.rfl
  | gone=>exact Iff.rfl
theorem dsH_get (σ : Nat → Str) : ∀ (H : Hs) (i : Nat),hget (dsH σ H) i = (hget H i).map (dsO σ)
  | [],i=>rfl
  | x :: H,0=>rfl
  | x :: H,i + 1=>dsH_get σ H i
theorem dsH_len (σ : Nat → Str) (H : Hs) : (dsH σ H).length = H.length:=by
  induction H with
  | nil=>rfl
  | cons x l ih=>exact congrArg (· + 1) ih
theorem ds_H (E : CxE c d) : RelH c ρ H h ↔ RelH d ρ (dsH c.σ H) h:=by
  have key : ∀ i a,(∀ o,hget ρ i = some a → hget H i = some o → ORel c h ρ ρ o a) ↔ (∀ o,hget ρ i = some a → hget (dsH c.σ H) i = some o → ORel d h ρ ρ o a):=fun i a=>by
    rw [dsH_get]
    cases hget H i with
    | none=>exact ⟨fun _ _ _ e=>(nomatch e),fun _ _ _ e=>(nomatch e)⟩
    | some o=>exact Iff.intro (fun k o' e1 e2=>Option.some.inj (show some (dsO c.σ o) = some o' from e2) ▸ (ds_O E).mp (k o e1 rfl)) (fun k o' e1 e2=>(show o = o' from Option.some.inj e2) ▸ (ds_O E).mpr (k _ e1 rfl))
  constructor
  · intro R
    exact ⟨fun a o e=>R.keep a o (E.B.symm ▸ e),by rw [dsH_len]; exact R.len,R.nodup,fun a m=>match R.new a m with | .mk o hB e ht=>.mk o (E.B ▸ hB) e ht,fun i a o=>(key i a).mp (fun o=>R.obj i a o) o⟩
  · intro R
    exact ⟨fun a o e=>R.keep a o (E.B ▸ e),R.len.trans (dsH_len ..),R.nodup,fun a m=>match R.new a m with | .mk o hB e ht=>.mk o (E.B.symm ▸ hB) e ht,fun i a o=>(key i a).mpr (fun o=>R.obj i a o) o⟩
theorem ds_TC (E : CxE c d) : TC c n (.fn a) as H v H' ↔ TC d n (.fn a) (dsL c.σ as) (dsH c.σ H) (ds c.σ v) (dsH c.σ H'):=by
  have key : ∀ (ρ : List Addr) (s : Shared) r s',PC c ρ s v H' r s' ↔ PC d ρ s (ds c.σ v) (dsH c.σ H') r s':=fun ρ s r s'=>⟨fun ⟨u,e,⟨ρ',R,V,W⟩⟩=>⟨u,e,⟨ρ',(ds_H E).mp R,by rw [← ds_V E]; exact V,W⟩⟩,fun ⟨u,e,⟨ρ',R,V,W⟩⟩=>⟨u,e,⟨ρ',(ds_H E).mpr R,by rw [ds_V E]; exact V,W⟩⟩⟩
  constructor
  · intro T A ρ s fv vals ak R hf hv
    rw [← E.prog,← E.w]
    exact codeAny_mono (T A ρ s fv vals ak ((ds_H E).mpr R) hf (by rw [ds_Vs E]; exact hv)) fun r s' p=>(key ρ s r s').mp p
  · intro T A ρ s fv vals ak R hf hv
    rw [E.prog,E.w]
    exact codeAny_mono (T A ρ s fv vals ak ((ds_H E).mp R) hf (by rw [← ds_Vs E]; exact hv)) fun r s' p=>(key ρ s r s').mpr p
end
noncomputable def sN (l : List Str) : List Str → Bool:=List.rec (motive:=fun _=>List Str → Bool) (fun b=>l0 b) (fun x _ ih b=>match b with | y :: q=>b2 (seqb x y) (ih q) | []=>false) l
noncomputable def sV (v : AV) : AV → Bool:=AV.rec (motive_1:=fun _=>AV → Bool) (motive_2:=fun _=>List AV → Bool)
  (fun b=>match b with | .none=>true | _=>false) (fun b=>match b with | .any=>true | _=>false) (fun x b=>match b with | .bool y=>beqb x y | _=>false) (fun x b=>match b with | .int y=>ieqA x y | _=>false)
  (fun x b=>match b with | .str y=>seqb x y | _=>false) (fun x b=>match b with | .sym y=>Nat.beq x y | _=>false) (fun _ r b=>match b with | .tup y=>r y | _=>false) (fun x b=>match b with | .loc y=>Nat.beq x y | _=>false)
  (fun x b=>match b with | .bs y=>Nat.beq x y | _=>false) (fun x b=>match b with | .fn y=>Nat.beq x y | _=>false) (fun _ _=>false)
  (fun b=>l0 b) (fun _ _ f r b=>match b with | y :: q=>b2 (f y) (r q) | []=>false) v
noncomputable def sVs (l : List AV) : List AV → Bool:=List.rec (motive:=fun _=>List AV → Bool) (fun b=>l0 b) (fun x _ ih b=>match b with | y :: q=>b2 (sV x y) (ih q) | []=>false) l
theorem sN_eq : ∀ {a b : List Str},sN a b = true → a = b
  | [],[],_=>rfl
  | x :: r,y :: q,h=>b2_el (show b2 (seqb x y) (sN r q) = true from h) fun h1 h2=>by rw [seqb_eq h1,sN_eq h2]
theorem beqb_e {a b : Bool} (h : beqb a b = true) : a = b:=by cases a <;> cases b <;> first | rfl | cases h
theorem ieqA_e {a b : Int} (h : ieqA a b = true) : a = b:=match a,b,h with
  | .ofNat m,.ofNat n,h=>congrArg Int.ofNat (Nat.eq_of_beq_eq_true h)
  | .negSucc m,.negSucc n,h=>congrArg Int.negSucc (Nat.eq_of_beq_eq_true h)
theorem sV_eq : ∀ (a : AV) (b : AV),sV a b = true → a = b:=AV.rec (motive_1:=fun a=>∀ b,sV a b = true → a = b) (motive_2:=fun a=>∀ b,sV (.tup a) (.tup b) = true → a = b)
  (fun b=>by cases b <;> first | exact fun h=>rfl | exact fun h=>absurd h Bool.false_ne_true) (fun b=>by cases b <;> first | exact fun h=>rfl | exact fun h=>absurd h Bool.false_ne_true) (fun x b=>by cases b <;> first | exact fun h=>congrArg AV.bool (beqb_e h) | exact fun h=>absurd h Bool.false_ne_true) (fun x b=>by cases b <;> first | exact fun h=>congrArg AV.int (ieqA_e h) | exact fun h=>absurd h Bool.false_ne_true)
  (fun x b=>by cases b <;> first | exact fun h=>congrArg AV.str (seqb_eq h) | exact fun h=>absurd h Bool.false_ne_true) (fun x b=>by cases b <;> first | exact fun h=>congrArg AV.sym (Nat.eq_of_beq_eq_true h) | exact fun h=>absurd h Bool.false_ne_true) (fun x ih b=>by cases b <;> first | exact fun h=>congrArg AV.tup (ih _ h) | exact fun h=>absurd h Bool.false_ne_true) (fun x b=>by cases b <;> first | exact fun h=>congrArg AV.loc (Nat.eq_of_beq_eq_true h) | exact fun h=>absurd h Bool.false_ne_true)
  (fun x b=>by cases b <;> first | exact fun h=>congrArg AV.bs (Nat.eq_of_beq_eq_true h) | exact fun h=>absurd h Bool.false_ne_true) (fun x b=>by cases b <;> first | exact fun h=>congrArg AV.fn (Nat.eq_of_beq_eq_true h) | exact fun h=>absurd h Bool.false_ne_true) (fun x b h=>nomatch h)
  (fun b h=>match b,h with | [],_=>rfl) (fun x r i1 i2 b h=>match b,h with | y :: q,h=>b2_el (show b2 (sV x y) (sV (.tup r) (.tup q)) = true from h) fun h1 h2=>by rw [i1 y h1,i2 q h2])
theorem sVs_eq : ∀ {a b : List AV},sVs a b = true → a = b
  | [],[],_=>rfl
  | x :: r,y :: q,h=>b2_el (show b2 (sV x y) (sVs r q) = true from h) fun h1 h2=>by rw [sV_eq x y h1,sVs_eq h2]
noncomputable def sO (a b : AO) : Bool:=match a,b with
  | .list n r,.list m q=>b2 (Nat.beq n m) (sVs r q)
  | .dict k r,.dict j q=>b2 (sN k j) (sVs r q)
  | .ns k r,.ns j q=>b2 (sN k j) (sVs r q)
  | .inst C d,.inst E e=>b2 (Nat.beq C E) (Nat.beq d e)
  | .gone,.gone=>true
  | _,_=>false
theorem sO_eq {a b : AO} (h : sO a b = true) : a = b:=match a,b,h with
  | .list n r,.list m q,h=>b2_el (show b2 (Nat.beq n m) (sVs r q) = true from h) fun h1 h2=>by rw [Nat.eq_of_beq_eq_true h1,sVs_eq h2]
  | .dict n r,.dict m q,h=>b2_el (show b2 (sN n m) (sVs r q) = true from h) fun h1 h2=>by rw [sN_eq h1,sVs_eq h2]
  | .ns n r,.ns m q,h=>b2_el (show b2 (sN n m) (sVs r q) = true from h) fun h1 h2=>by rw [sN_eq h1,sVs_eq h2]
  | .inst n r,.inst m q,h=>b2_el (show b2 (Nat.beq n m) (Nat.beq r q) = true from h) fun h1 h2=>by rw [Nat.eq_of_beq_eq_true h1,Nat.eq_of_beq_eq_true h2]
  | .gone,.gone,_=>rfl
noncomputable def sH (l : Hs) : Hs → Bool:=List.rec (motive:=fun _=>Hs → Bool) (fun b=>l0 b) (fun x _ ih b=>match b with | y :: q=>b2 (sO x y) (ih q) | []=>false) l
theorem sH_eq : ∀ {a b : Hs},sH a b = true → a = b
  | [],[],_=>rfl
  | x :: r,y :: q,h=>b2_el (show b2 (sO x y) (sH r q) = true from h) fun h1 h2=>by rw [sO_eq h1,sH_eq h2]
inductive Tr (α : Type) where
  | leaf (a : Nat) (v : α) | node (k : Nat) (l r : Tr α)
noncomputable def tget {α : Type} (t : Tr α) (a : Nat) : Option α:=Tr.rec (motive:=fun _=>Option α) (fun b v=>iff (Nat.beq a b) (some v) none) (fun k _ _ l r=>iff (Nat.ble a k) l r) t
noncomputable def tall {α : Type} (p : Nat → α → Bool) (t : Tr α) : Bool:=Tr.rec (motive:=fun _=>Bool) (fun b v=>p b v) (fun _ _ _ l r=>b2 l r) t
theorem tall_ok {α : Type} {p : Nat → α → Bool} {a : Nat} {v : α} : ∀ {t : Tr α},tall p t = true → tget t a = some v → p a v = true
  | .leaf b w,h,g=>by
    have g : iff (Nat.beq a b) (some w) none = some v:=g
    cases e : Nat.beq a b with
    | true=>rw [e] at g; obtain rfl:=Option.some.inj g; obtain rfl:=Nat.eq_of_beq_eq_true e; exact h
    | false=>rw [e] at g; cases g
  | .node k l r,h,g=>b2_el (show b2 (tall p l) (tall p r) = true from h) fun h1 h2=>by
    have g : iff (Nat.ble a k) (tget l a) (tget r a) = some v:=g
    cases e : Nat.ble a k with
    | true=>rw [e] at g; exact tall_ok h1 g
    | false=>rw [e] at g; exact tall_ok h2 g
section
variable {c : Cx} {G : Pg} {K : Frag} {D n lf k : Nat} {a : Addr} {as : List AV} {H H' : Hs} {v : AV} {ι : List Nat} {fs : List Bool} {xs : List Str} {fl : Fl} {V V' : Vs} {kd : Kd} {ts : List Stmt} {cs : List CS} {R : Rec}
theorem xok (Bs : Base c K G D) (CO : CaOk c K n R.call) : XOk c G n R:=fun cs kd ts V H ok=>exs_ok (ex_ok Bs (ev_ok Bs CO)) cs kd ts V H ok
end
def hole1 (h : Heap) (a : Addr) : Heap:=h.update a fun o=>{ o with data:=.freed }
theorem hole1_get (h : Heap) (a b : Addr) : (hole1 h a).get? b = if b = a then none else h.get? b:=by
  obtain ⟨objs,l⟩:=h
  unfold hole1 Heap.update Heap.get?
  by_cases e : b = a
  · rw [if_pos e,e,Array.getElem?_modify,if_pos rfl]
    cases objs[a]? <;> rfl
  · rw [if_neg e,Array.getElem?_modify,if_neg fun q=>e q.symm]
def holes : List Addr → Heap → Heap
  | [],h=>h
  | a :: l,h=>hole1 (holes l h) a
theorem holes_get (h : Heap) (b : Addr) : ∀ l,(holes l h).get? b = if b ∈ l then none else h.get? b
  | []=>by rw [if_neg (fun m=>nomatch m)]; rfl
  | a :: l=>by
    show (hole1 (holes l h) a).get? b = _
    rw [hole1_get,holes_get h b l]
    by_cases e : b = a
    · rw [if_pos e,if_pos (e ▸ List.mem_cons_self ..)]
    · rw [if_neg e]
      by_cases m : b ∈ l
      · rw [if_pos m,if_pos (List.mem_cons_of_mem _ m)]
      · rw [if_neg m,if_neg fun z=>(List.mem_cons.mp z).elim e m]
theorem holes_none {h : Heap} {b : Addr} {l : List Addr} (m : b ∈ l) : (holes l h).get? b = none:=by rw [holes_get,if_pos m]
theorem holes_some {h : Heap} {b : Addr} {l : List Addr} (m : b ∉ l) : (holes l h).get? b = h.get? b:=by rw [holes_get,if_neg m]
def ownL (env : Env) : List Addr:=env.locals :: (env.cells.map (·.1)).filterMap fun x=>env.cells.lookup x
theorem own_cell {env : Env} {x : Str} {a : Addr} (e : env.cells.lookup x = some a) : a ∈ ownL env:=List.mem_cons_of_mem _ (List.mem_filterMap.mpr ⟨x,List.mem_map.mpr ⟨(x,a),mem_of_lookup e,rfl⟩,e⟩)
noncomputable def fz (N : Nat) (v : AV) : AV:=AV.rec (motive_1:=fun _=>AV) (motive_2:=fun _=>List AV) .none .any .bool .int .str .sym (fun _ r=>.tup r) (fun j=>.bs (N + j)) .bs .fn .bi [] (fun _ _ a b=>a :: b) v
noncomputable def fzL (N : Nat) (l : List AV) : List AV:=List.rec (motive:=fun _=>List AV) [] (fun v _ ih=>fz N v :: ih) l
noncomputable def fzO (N : Nat) (x : AO) : AO:=match x with
  | .list n r=>.list n (fzL N r)
  | .dict ks vs=>.dict ks (fzL N vs)
  | .ns ks vs=>.ns ks (fzL N vs)
  | .inst C d=>.inst C (N + d)
  | .gone=>.gone
noncomputable def fzV (N : Nat) (V : Vs) : Vs:=List.rec (motive:=fun _=>Vs) [] (fun p _ ih=>(p.1,fz N p.2) :: ih) V
noncomputable def fzH (N : Nat) (H : Hs) : Hs:=List.rec (motive:=fun _=>Hs) [] (fun x _ ih=>fzO N x :: ih) H
theorem fzL_rev (N : Nat) : ∀ l,fzL N l.reverse = (fzL N l).reverse:=by
  have app : ∀ a b,fzL N (a ++ b) = fzL N a ++ fzL N b:=fun a b=>by
    induction a with
    | nil=>rfl
    | cons x a ih=>exact congrArg (fz N x :: ·) ih
  intro l
  induction l with
  | nil=>rfl
  | cons x l ih=>rw [List.reverse_cons,app,ih]; exact (List.reverse_cons ..).symm
theorem fzL_len (N : Nat) (l : List AV) : (fzL N l).length = l.length:=by
  induction l with
  | nil=>rfl
  | cons x l ih=>exact congrArg (· + 1) ih
theorem fzH_get (N : Nat) : ∀ (H : Hs) (i : Nat),hget (fzH N H) i = (hget H i).map (fzO N)
  | [],i=>rfl
  | x :: H,0=>rfl
  | x :: H,i + 1=>fzH_get N H i
theorem fzV_look (N : Nat) : ∀ (V : Vs) (x : Str),look (fzV N V) x = (look V x).map (fz N)
  | [],x=>rfl
  | p :: V,x=>by
    show iff (seqb p.1 x) (some (fz N p.2)) (look (fzV N V) x) = (iff (seqb p.1 x) (some p.2) (look V x)).map (fz N)
    cases seqb p.1 x with
    | true=>rfl
    | false=>exact fzV_look N V x
noncomputable def noSy (v : AV) : Bool:=AV.rec (motive_1:=fun _=>Bool) (motive_2:=fun _=>Bool) true true (fun _=>true) (fun _=>true) (fun _=>true) (fun _=>false) (fun _ r=>r) (fun _=>true) (fun _=>true) (fun _=>true) (fun _=>true) true (fun _ _ a b=>b2 a b) v
noncomputable def noSyL (l : List AV) : Bool:=List.rec (motive:=fun _=>Bool) true (fun v _ ih=>b2 (noSy v) ih) l
noncomputable def noSyH (H : Hs) : Bool:=List.rec (motive:=fun _=>Bool) true (fun x _ ih=>b2 (match x with | .list _ r=>noSyL r | .dict _ vs=>noSyL vs | .ns _ vs=>noSyL vs | _=>true) ih) H
noncomputable def noSyO (x : AO) : Bool:=match x with | .list _ r=>noSyL r | .dict _ vs=>noSyL vs | .ns _ vs=>noSyL vs | _=>true
section
variable {c d : Cx} {ρ ix : List Addr} {FA : List Addr} {H : Hs} {h h' : Heap} {v : AV} {u : Value} {vs : List AV} {us : List Value} {a : Addr} {x : AO} {env : Env} {kd : Kd} {V : Vs}
structure Frz (c d : Cx) (FA ρ : List Addr) (h h' : Heap) : Prop where
  cF : c.F = FA
  dF : d.F = FA ++ ρ
  ht : ∀ a us,h.IsTuple a us → h'.IsTuple a us
theorem fz_V (E : Frz c d FA ρ h h') : ∀ v : AV,noSy v = true → ∀ u,c.V h ρ v u → d.V h' [] (fz FA.length v) u:=
  AV.rec (motive_1:=fun v=>noSy v = true → ∀ u,c.V h ρ v u → d.V h' [] (fz FA.length v) u) (motive_2:=fun vs=>(noSy (.tup vs) = true → ∀ u,c.V h ρ (.tup vs) u → d.V h' [] (fz FA.length (.tup vs)) u) ∧ (noSyL vs = true → ∀ us,c.Vs h ρ vs us → d.Vs h' [] (fzL FA.length vs) us))
    (fun _ _ e=>e) (fun _ _ e=>e) (fun _ _ _ e=>e) (fun _ _ _ e=>e) (fun _ _ _ e=>e) (fun _ l=>nomatch l) (fun vs ih=>ih.1)
    (fun j _ u e=>match u,(show LocR ρ j u from e) with | _,.mk a q=>(show LocR d.F (FA.length + j) (.ref a) from .mk a (by rw [E.dF,hget_eq,List.getElem?_append_right (Nat.le_add_right ..),Nat.add_sub_cancel_left,← hget_eq]; exact q)))
    (fun i _ u e=>match u,(show LocR c.F i u from e) with | _,.mk a q=>(show LocR d.F i (.ref a) from .mk a (by rw [E.dF]; exact hget_app (E.cF ▸ q))))
    (fun _ _ _ e=>e) (fun _ _ _ e=>e)
    ⟨fun _ u e=>un_tup (M:=fun u=>d.V h' [] (.tup []) u) e fun a us t q=>v_tup (E.ht _ _ t) q,fun _ us e=>e⟩ fun v vs i1 i2=>by
      have e1 : noSyL (v :: vs) = true → ∀ us,c.Vs h ρ (v :: vs) us → d.Vs h' [] (fzL FA.length (v :: vs)) us:=fun l us e=>b2_el (show b2 (noSy v) (noSyL vs) = true from l) fun l1 l2=>e.un (M:=fun us=>d.Vs h' [] (fz FA.length v :: fzL FA.length vs) us) fun u r a b=>.cons (i1 l1 u a) (i2.2 l2 r b)
      have k1 : ∀ vs : List AV,noSy (.tup vs) = noSyL vs:=fun vs=>by
        show (AV.rec_1 (motive_1:=fun _=>Bool) (motive_2:=fun _=>Bool) true true (fun _=>true) (fun _=>true) (fun _=>true) (fun _=>false) (fun _ r=>r) (fun _=>true) (fun _=>true) (fun _=>true) (fun _=>true) true (fun _ _ a b=>b2 a b) vs : Bool) = _
        induction vs with
        | nil=>rfl
        | cons v vs ih=>exact congrArg (b2 (noSy v)) ih
      have k2 : ∀ vs : List AV,fz FA.length (.tup vs) = .tup (fzL FA.length vs):=fun vs=>by
        show AV.tup _ = _
        congr 1
        induction vs with
        | nil=>rfl
        | cons v vs ih=>exact congrArg (fz FA.length v :: ·) ih
      exact ⟨fun l u e=>by rw [k2]; rw [k1] at l; exact un_tup (M:=fun u=>d.V h' [] (.tup (fzL FA.length (v :: vs))) u) e fun a us t q=>v_tup (E.ht _ _ t) (e1 l us q),e1⟩
theorem fz_Vs (E : Frz c d FA ρ h h') : ∀ {vs : List AV} {us : List Value},noSyL vs = true → c.Vs h ρ vs us → d.Vs h' [] (fzL FA.length vs) us
  | [],us,_,e=>e
  | v :: vs,us,l,e=>b2_el (show b2 (noSy v) (noSyL vs) = true from l) fun l1 l2=>e.un (M:=fun us=>d.Vs h' [] (fz FA.length v :: fzL FA.length vs) us) fun u r a b=>.cons (fz_V E v l1 u a) (fz_Vs E l2 b)
theorem noSyL_rev {l : List AV} (h : noSyL l = true) : noSyL l.reverse = true:=by
  have mem : ∀ l : List AV,noSyL l = true ↔ ∀ x ∈ l,noSy x = true:=fun l=>by
    induction l with
    | nil=>exact ⟨fun _ _ m=>(nomatch m),fun _=>rfl⟩
    | cons y l ih=>
      constructor
      · intro h; exact b2_el (show b2 (noSy y) (noSyL l) = true from h) fun h1 h2 x m=>(List.mem_cons.mp m).elim (fun e=>e ▸ h1) (ih.mp h2 x)
      · intro h
        show b2 (noSy y) (noSyL l) = true
        rw [h y (List.mem_cons_self ..)]
        exact ih.mpr fun x m=>h x (List.mem_cons_of_mem _ m)
  exact (mem _).mpr fun x m=>(mem _).mp h x (List.mem_reverse.mp m)
theorem fz_O (E : Frz c d FA ρ h h') (hp : c.prog = d.prog) (hw : c.w = d.w) (hk : ∀ o,h.get? a = some o → h'.get? a = some o) (l : noSyO x = true) (r : ORel c h ρ ρ x a) : ORel d h' [] d.F (fzO FA.length x) a:=match x,l,r with
  | .list n q,l,.mk us h1 h2 h3=>.mk us (by rw [fzL_len]; exact h1) (h2.at hk) (by rw [← fzL_rev]; exact fz_Vs E (noSyL_rev l) h3)
  | .dict ks vs,l,.mk us h0 h1 h2 h3=>.mk us h0 (by rw [← hp,← hw]; exact h1.elim fun o q=>q.elim fun es q=>q.elim fun ep q=>⟨o,es,ep,hk o q.1,q.2⟩) h2 (fz_Vs E l h3)
  | .ns ks vs,l,.mk m us h1 h2 h3 h4=>.mk m us (h1.at hk) h2 h3 (fz_Vs E l h4)
  | .inst C k,l,.mk dx h1 h2=>.mk dx (hk _ h1) (by rw [E.dF,hget_eq,List.getElem?_append_right (Nat.le_add_right ..),Nat.add_sub_cancel_left,← hget_eq]; exact h2)
  | .gone,_,_=>trivial
structure FrzR (c d : Cx) (FA ρ : List Addr) (H : Hs) (V : Vs) (env : Env) (kd : Kd) (h : Heap) : Prop where
  up : ∀ a o,c.B.get? a = some o → d.B.get? a = some o
  bF : ∀ i a o,hget ρ i = some a → hget (fzH FA.length H) i = some o → ORel d d.B [] d.F o a
  R : RelH d [] [] h
  RV : RelV d env kd (fzV FA.length V) [] h
theorem freeze (R : RelH c ρ H h) (RV : RelV c env kd V ρ h) (hF : c.F = FA) (hp : c.prog = d.prog) (hw : c.w = d.w) (hB : d.B = holes (ownL env) h) (hdF : d.F = FA ++ ρ) (hH : noSyH H = true) (hV : ∀ x v,look V x = some v → noSy v = true) : FrzR c d FA ρ H V env kd h:=by
  have own : ∀ a,a ∈ ownL env → c.B.get? a = none ∧ a ∉ ρ ∧ ∀ us,¬ h.IsTuple a us:=fun a m=>(List.mem_cons.mp m).elim (fun e=>e ▸ ⟨RV.locNew,RV.locρ,match RV.loc with | .mk m hn _=>ns_notTup hn⟩) fun m=>by
    obtain ⟨y,_,hy⟩:=List.mem_filterMap.mp m
    exact match RV.cells y a hy with | .mk v0 h1 h2 _ hc=>⟨h1,h2,cell_notTup hc⟩
  have hk : ∀ a o,a ∉ ownL env → h.get? a = some o → d.B.get? a = some o:=fun a o m e=>by rw [hB,holes_some m]; exact e
  have E : Frz c d FA ρ h d.B:=⟨hF,hdF,fun a us t=>tup_keep (fun o e=>hk a o (fun m=>(own a m).2.2 us t) e) t⟩
  have Eh : Frz c d FA ρ h h:=⟨hF,hdF,fun a us t=>t⟩
  have dn : ∀ a,a ∈ ownL env → d.B.get? a = none:=fun a m=>by rw [hB]; exact holes_none m
  refine ⟨fun a o e=>hk a o (fun m=>nomatch e.symm.trans (own a m).1) (R.keep a o e),fun i a o ei eo=>?_,⟨fun a o e=>?_,rfl,.nil,fun _ m=>(nomatch m),fun i a o e=>(hget_no e).elim⟩,?_⟩
  · rw [fzH_get] at eo
    cases q : hget H i with
    | none=>rw [q] at eo; cases eo
    | some x=>
      rw [q] at eo
      obtain rfl:=Option.some.inj (show some (fzO FA.length x) = some o from eo)
      have hx : noSyO x = true:=by
        have : ∀ (H : Hs) (i : Nat) (x : AO),noSyH H = true → hget H i = some x → noSyO x = true:=fun H=>by
          induction H with
          | nil=>exact fun i x _ e=>(hget_no e).elim
          | cons y H ih=>exact fun i x hh e=>b2_el (show b2 (noSyO y) (noSyH H) = true from hh) fun h1 h2=>match i,e with
            | 0,e=>(Option.some.inj (show some y = some x from e)) ▸ h1
            | i + 1,e=>ih i x h2 e
        exact this H i x hH q
      exact fz_O E hp hw (hk a · fun m=>(own a m).2.1 (hget_mem ei)) hx (R.obj i a x ei q)
  · rw [hB,holes_get] at e
    by_cases m : a ∈ ownL env
    · rw [if_pos m] at e; cases e
    · rw [if_neg m] at e; exact e
  · have key : ∀ x v,look (fzV FA.length V) x = some v → ∃ w,look V x = some w ∧ ∀ u,c.V h ρ w u → d.V h [] v u:=fun x v e=>by
      rw [fzV_look] at e
      cases q : look V x with
      | none=>rw [q] at e; cases e
      | some w=>rw [q] at e; obtain rfl:=Option.some.inj (show some (fz FA.length w) = some v from e); exact ⟨w,rfl,fun u z=>fz_V Eh w (hV x w q) u z⟩
    refine ⟨RV.kind,RV.names,RV.glob,RV.blt,?_,dn _ (List.mem_cons_self ..),fun m=>(nomatch m),fun x a e=>?_,RV.apart,RV.has,fun x v a e k f=>?_⟩
    · obtain ⟨m,hn,hv⟩:=RV.loc
      refine .mk m hn fun x v e k=>?_
      obtain ⟨w,z1,z2⟩:=key x v e
      obtain ⟨u,u1,u2⟩:=hv x w z1 k
      exact ⟨u,u1,z2 u u2⟩
    · obtain ⟨v0,_,_,hL,hc⟩:=RV.cells x a e
      exact .mk v0 (dn a (own_cell e)) (fun m=>nomatch m) hL hc
    · obtain ⟨w,z1,z2⟩:=key x v e
      obtain ⟨u,hc,hv⟩:=RV.cvar x w a z1 k f
      exact .mk u hc (z2 u hv)
end
end Mine
namespace Mine
open PySem
noncomputable section
noncomputable def z_tuple : Str:=⟨#[116,117,112,108,101]⟩
noncomputable def z_list : Str:=⟨#[108,105,115,116]⟩
noncomputable def z_len : Str:=⟨#[108,101,110]⟩
noncomputable def z_union_of : Str:=⟨#[117,110,105,111,110,95,111,102]⟩
noncomputable def z_substituted_binder : Str:=⟨#[115,117,98,115,116,105,116,117,116,101,100,95,98,105,110,100,101,114]⟩
noncomputable def z_parts_of_kind : Str:=⟨#[112,97,114,116,115,95,111,102,95,107,105,110,100]⟩
noncomputable def z_rebuilt_kind : Str:=⟨#[114,101,98,117,105,108,116,95,107,105,110,100]⟩
noncomputable def z_substituted : Str:=⟨#[115,117,98,115,116,105,116,117,116,101,100]⟩
noncomputable def z_free_vars : Str:=⟨#[102,114,101,101,95,118,97,114,115]⟩
noncomputable def z_max : Str:=⟨#[109,97,120]⟩
noncomputable def z_Side : Str:=⟨#[83,105,100,101]⟩
noncomputable def z_str : Str:=⟨#[115,116,114]⟩
noncomputable def z_BOTTOM : Str:=⟨#[66,79,84,84,79,77]⟩
noncomputable def z_bottom : Str:=⟨#[98,111,116,116,111,109]⟩
noncomputable def z_ANY : Str:=⟨#[65,78,89]⟩
noncomputable def z_name : Str:=⟨#[110,97,109,101]⟩
noncomputable def z_Any : Str:=⟨#[65,110,121]⟩
noncomputable def z_is_diagonal : Str:=⟨#[105,115,95,100,105,97,103,111,110,97,108]⟩
noncomputable def z_occurrences : Str:=⟨#[111,99,99,117,114,114,101,110,99,101,115]⟩
noncomputable def z_min : Str:=⟨#[109,105,110]⟩
noncomputable def z_sum : Str:=⟨#[115,117,109]⟩
noncomputable def z_bound_occurrences : Str:=⟨#[98,111,117,110,100,95,111,99,99,117,114,114,101,110,99,101,115]⟩
noncomputable def z_bound_cases : Str:=⟨#[98,111,117,110,100,95,99,97,115,101,115]⟩
noncomputable def z_tuple_cases : Str:=⟨#[116,117,112,108,101,95,99,97,115,101,115]⟩
noncomputable def z_MOST_CASES : Str:=⟨#[77,79,83,84,95,67,65,83,69,83]⟩
noncomputable def z_left_cases : Str:=⟨#[108,101,102,116,95,99,97,115,101,115]⟩
noncomputable def z_tuple_of : Str:=⟨#[116,117,112,108,101,95,111,102]⟩
noncomputable def z_is_empty : Str:=⟨#[105,115,95,101,109,112,116,121]⟩
noncomputable def z_same_ways : Str:=⟨#[115,97,109,101,95,119,97,121,115]⟩
noncomputable def z_widened : Str:=⟨#[119,105,100,101,110,101,100]⟩
noncomputable def z_TYPE : Str:=⟨#[84,89,80,69]⟩
noncomputable def z_Type : Str:=⟨#[84,121,112,101]⟩
noncomputable def z_is_any_type : Str:=⟨#[105,115,95,97,110,121,95,116,121,112,101]⟩
noncomputable def z_tuple_ways : Str:=⟨#[116,117,112,108,101,95,119,97,121,115]⟩
noncomputable def z_FUNCTION : Str:=⟨#[70,85,78,67,84,73,79,78]⟩
noncomputable def z_Function : Str:=⟨#[70,117,110,99,116,105,111,110]⟩
noncomputable def z_sorted : Str:=⟨#[115,111,114,116,101,100]⟩
noncomputable def z_same_kind : Str:=⟨#[115,97,109,101,95,107,105,110,100]⟩
noncomputable def z_has_within : Str:=⟨#[104,97,115,95,119,105,116,104,105,110]⟩
noncomputable def z_depth_of_kind : Str:=⟨#[100,101,112,116,104,95,111,102,95,107,105,110,100]⟩
noncomputable def z_MOST_DEPTH : Str:=⟨#[77,79,83,84,95,68,69,80,84,72]⟩
noncomputable def z_tail_of : Str:=⟨#[116,97,105,108,95,111,102]⟩
noncomputable def z_is_too_deep : Str:=⟨#[105,115,95,116,111,111,95,100,101,101,112]⟩
noncomputable def z_Search : Str:=⟨#[83,101,97,114,99,104]⟩
noncomputable def z_size_of_kind : Str:=⟨#[115,105,122,101,95,111,102,95,107,105,110,100]⟩
noncomputable def z_Sides : Str:=⟨#[83,105,100,101,115]⟩
noncomputable def z_is_subtype : Str:=⟨#[105,115,95,115,117,98,116,121,112,101]⟩
noncomputable def z_opened : Str:=⟨#[111,112,101,110,101,100]⟩
noncomputable def z_closed : Str:=⟨#[99,108,111,115,101,100]⟩
noncomputable def z_stretched : Str:=⟨#[115,116,114,101,116,99,104,101,100]⟩
noncomputable def z_binders_many : Str:=⟨#[98,105,110,100,101,114,115,95,109,97,110,121]⟩
noncomputable def z_dict : Str:=⟨#[100,105,99,116]⟩
noncomputable def z_MOST_SIZE : Str:=⟨#[77,79,83,84,95,83,73,90,69]⟩
noncomputable def z_Decl : Str:=⟨#[68,101,99,108]⟩
noncomputable def z_is_too_large : Str:=⟨#[105,115,95,116,111,111,95,108,97,114,103,101]⟩
noncomputable def z_Kinds : Str:=⟨#[75,105,110,100,115]⟩
noncomputable def z_nominal : Str:=⟨#[110,111,109,105,110,97,108]⟩
noncomputable def z_named : Str:=⟨#[110,97,109,101,100]⟩
noncomputable def z_SIGNED : Str:=⟨#[83,73,71,78,69,68]⟩
noncomputable def z_Int8 : Str:=⟨#[73,110,116,56]⟩
noncomputable def z_Int16 : Str:=⟨#[73,110,116,49,54]⟩
noncomputable def z_Int32 : Str:=⟨#[73,110,116,51,50]⟩
noncomputable def z_Int64 : Str:=⟨#[73,110,116,54,52]⟩
noncomputable def z_BigInt : Str:=⟨#[66,105,103,73,110,116]⟩
noncomputable def z_UNSIGNED : Str:=⟨#[85,78,83,73,71,78,69,68]⟩
noncomputable def z_UInt8 : Str:=⟨#[85,73,110,116,56]⟩
noncomputable def z_UInt16 : Str:=⟨#[85,73,110,116,49,54]⟩
noncomputable def z_UInt32 : Str:=⟨#[85,73,110,116,51,50]⟩
noncomputable def z_UInt64 : Str:=⟨#[85,73,110,116,54,52]⟩
noncomputable def z_start_errors : Str:=⟨#[115,116,97,114,116,95,101,114,114,111,114,115]⟩
noncomputable def z_start_rows : Str:=⟨#[115,116,97,114,116,95,114,111,119,115]⟩
noncomputable def z_PLAIN_ERRORS : Str:=⟨#[80,76,65,73,78,95,69,82,82,79,82,83]⟩
noncomputable def z_DivideError : Str:=⟨#[68,105,118,105,100,101,69,114,114,111,114]⟩
noncomputable def z_StackOverflowError : Str:=⟨#[83,116,97,99,107,79,118,101,114,102,108,111,119,69,114,114,111,114]⟩
noncomputable def z_TEXT_ERRORS : Str:=⟨#[84,69,88,84,95,69,82,82,79,82,83]⟩
noncomputable def z_ArgumentError : Str:=⟨#[65,114,103,117,109,101,110,116,69,114,114,111,114]⟩
noncomputable def z_OverflowError : Str:=⟨#[79,118,101,114,102,108,111,119,69,114,114,111,114]⟩
noncomputable def z_DimensionMismatch : Str:=⟨#[68,105,109,101,110,115,105,111,110,77,105,115,109,97,116,99,104]⟩
noncomputable def z_ErrorException : Str:=⟨#[69,114,114,111,114,69,120,99,101,112,116,105,111,110]⟩
noncomputable def z_CALL_ERRORS : Str:=⟨#[67,65,76,76,95,69,82,82,79,82,83]⟩
noncomputable def z_MethodError : Str:=⟨#[77,101,116,104,111,100,69,114,114,111,114]⟩
noncomputable def z_AmbiguousError : Str:=⟨#[65,109,98,105,103,117,111,117,115,69,114,114,111,114]⟩
noncomputable def z_abs : Str:=⟨#[97,98,115]⟩
noncomputable def z__95_108_97_119_95_107_105_110_100 : Str:=⟨#[95,108,97,119,95,107,105,110,100]⟩
noncomputable def z__95_108_97_119_95_99_104_97_105_110 : Str:=⟨#[95,108,97,119,95,99,104,97,105,110]⟩
noncomputable def z_start_kinds : Str:=⟨#[115,116,97,114,116,95,107,105,110,100,115]⟩
noncomputable def z__95_108_97_119_95_115_105_103 : Str:=⟨#[95,108,97,119,95,115,105,103]⟩
noncomputable def z_is_more_specific : Str:=⟨#[105,115,95,109,111,114,101,95,115,112,101,99,105,102,105,99]⟩
noncomputable def z__95_108_97_119_95_112_97_105_108 : Str:=⟨#[95,108,97,119,95,112,97,105,108]⟩
noncomputable def z__95_108_97_119_95_110_97_109_101_115 : Str:=⟨#[95,108,97,119,95,110,97,109,101,115]⟩
noncomputable def z__95_108_97_119_95_100_114_97_119 : Str:=⟨#[95,108,97,119,95,100,114,97,119]⟩
noncomputable def z__95_108_97_119_95_102_105_116_115 : Str:=⟨#[95,108,97,119,95,102,105,116,115]⟩
noncomputable def z_Integer : Str:=⟨#[73,110,116,101,103,101,114]⟩
noncomputable def z_Real : Str:=⟨#[82,101,97,108]⟩
noncomputable def z_String : Str:=⟨#[83,116,114,105,110,103]⟩
noncomputable def z_params : Str:=⟨#[112,97,114,97,109,115]⟩
noncomputable def z_kinds : Str:=⟨#[107,105,110,100,115]⟩
noncomputable def z_rest : Str:=⟨#[114,101,115,116]⟩
noncomputable def z_kind : Str:=⟨#[107,105,110,100]⟩
noncomputable def z_word : Str:=⟨#[119,111,114,100]⟩
noncomputable def z_union : Str:=⟨#[117,110,105,111,110]⟩
noncomputable def z_all : Str:=⟨#[97,108,108]⟩
noncomputable def z_typeof : Str:=⟨#[116,121,112,101,111,102]⟩
noncomputable def z_parts : Str:=⟨#[112,97,114,116,115]⟩
noncomputable def z_many : Str:=⟨#[109,97,110,121]⟩
noncomputable def z_table : Str:=⟨#[116,97,98,108,101]⟩
noncomputable def z_var : Str:=⟨#[118,97,114]⟩
noncomputable def z_get : Str:=⟨#[103,101,116]⟩
noncomputable def z_part : Str:=⟨#[112,97,114,116]⟩
noncomputable def z_found : Str:=⟨#[102,111,117,110,100]⟩
noncomputable def z_left : Str:=⟨#[108,101,102,116]⟩
noncomputable def z_here : Str:=⟨#[104,101,114,101]⟩
noncomputable def z_bound : Str:=⟨#[98,111,117,110,100]⟩
noncomputable def z_pop : Str:=⟨#[112,111,112]⟩
noncomputable def z_append : Str:=⟨#[97,112,112,101,110,100]⟩
noncomputable def z_extend : Str:=⟨#[101,120,116,101,110,100]⟩
noncomputable def z_binders : Str:=⟨#[98,105,110,100,101,114,115]⟩
noncomputable def z_body : Str:=⟨#[98,111,100,121]⟩
noncomputable def z_lower : Str:=⟨#[108,111,119,101,114]⟩
noncomputable def z_upper : Str:=⟨#[117,112,112,101,114]⟩
noncomputable def z_deepest : Str:=⟨#[100,101,101,112,101,115,116]⟩
noncomputable def z_depth : Str:=⟨#[100,101,112,116,104]⟩
noncomputable def z_self : Str:=⟨#[115,101,108,102]⟩
noncomputable def z_is_asked : Str:=⟨#[105,115,95,97,115,107,101,100]⟩
noncomputable def z_order : Str:=⟨#[111,114,100,101,114]⟩
noncomputable def z_lowers : Str:=⟨#[108,111,119,101,114,115]⟩
noncomputable def z_uppers : Str:=⟨#[117,112,112,101,114,115]⟩
noncomputable def z_floor : Str:=⟨#[102,108,111,111,114]⟩
noncomputable def z_rows : Str:=⟨#[114,111,119,115]⟩
noncomputable def z_fresh : Str:=⟨#[102,114,101,115,104]⟩
noncomputable def z_split : Str:=⟨#[115,112,108,105,116]⟩
noncomputable def z__33 : Str:=⟨#[33]⟩
noncomputable def z_side : Str:=⟨#[115,105,100,101]⟩
noncomputable def z_with_lower : Str:=⟨#[119,105,116,104,95,108,111,119,101,114]⟩
noncomputable def z_other : Str:=⟨#[111,116,104,101,114]⟩
noncomputable def z_row : Str:=⟨#[114,111,119]⟩
noncomputable def z_is_within : Str:=⟨#[105,115,95,119,105,116,104,105,110]⟩
noncomputable def z_cases : Str:=⟨#[99,97,115,101,115]⟩
noncomputable def z_case : Str:=⟨#[99,97,115,101]⟩
noncomputable def z_some : Str:=⟨#[115,111,109,101]⟩
noncomputable def z_fuel : Str:=⟨#[102,117,101,108]⟩
noncomputable def z_known : Str:=⟨#[107,110,111,119,110]⟩
noncomputable def z_goals : Str:=⟨#[103,111,97,108,115]⟩
noncomputable def z_sides : Str:=⟨#[115,105,100,101,115]⟩
noncomputable def z_waiting : Str:=⟨#[119,97,105,116,105,110,103]⟩
noncomputable def z_settled : Str:=⟨#[115,101,116,116,108,101,100]⟩
noncomputable def z_goal : Str:=⟨#[103,111,97,108]⟩
noncomputable def z_ways : Str:=⟨#[119,97,121,115]⟩
noncomputable def z_way : Str:=⟨#[119,97,121]⟩
noncomputable def z_step : Str:=⟨#[115,116,101,112]⟩
noncomputable def z_has_asked : Str:=⟨#[104,97,115,95,97,115,107,101,100]⟩
noncomputable def z_holds : Str:=⟨#[104,111,108,100,115]⟩
noncomputable def z_copied : Str:=⟨#[99,111,112,105,101,100]⟩
noncomputable def z_are_concrete : Str:=⟨#[97,114,101,95,99,111,110,99,114,101,116,101]⟩
noncomputable def z_one : Str:=⟨#[111,110,101]⟩
noncomputable def z_n : Str:=⟨#[110]⟩
noncomputable def z_numbers : Str:=⟨#[110,117,109,98,101,114,115]⟩
noncomputable def z_same : Str:=⟨#[115,97,109,101]⟩
noncomputable def z_below : Str:=⟨#[98,101,108,111,119]⟩
noncomputable def z_above : Str:=⟨#[97,98,111,118,101]⟩
noncomputable def z_by_form : Str:=⟨#[98,121,95,102,111,114,109]⟩
noncomputable def z_add_lower : Str:=⟨#[97,100,100,95,108,111,119,101,114]⟩
noncomputable def z_sub : Str:=⟨#[115,117,98]⟩
noncomputable def z_by_cases : Str:=⟨#[98,121,95,99,97,115,101,115]⟩
noncomputable def z_chosen : Str:=⟨#[99,104,111,115,101,110]⟩
noncomputable def z_plain : Str:=⟨#[112,108,97,105,110]⟩
noncomputable def z_words : Str:=⟨#[119,111,114,100,115]⟩
noncomputable def z_fn : Str:=⟨#[102,110]⟩
noncomputable def z_zip : Str:=⟨#[122,105,112]⟩
noncomputable def z_supers : Str:=⟨#[115,117,112,101,114,115]⟩
noncomputable def z_param : Str:=⟨#[112,97,114,97,109]⟩
noncomputable def z_wanted : Str:=⟨#[119,97,110,116,101,100]⟩
noncomputable def z_is_single : Str:=⟨#[105,115,95,115,105,110,103,108,101]⟩
noncomputable def z_is_one : Str:=⟨#[105,115,95,111,110,101]⟩
noncomputable def z_is_leaf : Str:=⟨#[105,115,95,108,101,97,102]⟩
noncomputable def z_is_declared : Str:=⟨#[105,115,95,100,101,99,108,97,114,101,100]⟩
noncomputable def z_decl : Str:=⟨#[100,101,99,108]⟩
noncomputable def z_is_abstract : Str:=⟨#[105,115,95,97,98,115,116,114,97,99,116]⟩
noncomputable def z_met : Str:=⟨#[109,101,116]⟩
noncomputable def z_lowers_of : Str:=⟨#[108,111,119,101,114,115,95,111,102]⟩
noncomputable def z_later : Str:=⟨#[108,97,116,101,114]⟩
noncomputable def z_last : Str:=⟨#[108,97,115,116]⟩
noncomputable def z_later_ones : Str:=⟨#[108,97,116,101,114,95,111,110,101,115]⟩
noncomputable def z_tail : Str:=⟨#[116,97,105,108]⟩
noncomputable def z_range : Str:=⟨#[114,97,110,103,101]⟩
noncomputable def z_at : Str:=⟨#[97,116]⟩
noncomputable def z_search : Str:=⟨#[115,101,97,114,99,104]⟩
noncomputable def z_run : Str:=⟨#[114,117,110]⟩
noncomputable def z_sig : Str:=⟨#[115,105,103]⟩
noncomputable def z_is_mutable : Str:=⟨#[105,115,95,109,117,116,97,98,108,101]⟩
noncomputable def z_fields : Str:=⟨#[102,105,101,108,100,115]⟩
noncomputable def z_super : Str:=⟨#[115,117,112,101,114]⟩
noncomputable def z_decls : Str:=⟨#[100,101,99,108,115]⟩
noncomputable def z_own : Str:=⟨#[111,119,110]⟩
noncomputable def z_wild : Str:=⟨#[119,105,108,100]⟩
noncomputable def z_variable : Str:=⟨#[118,97,114,105,97,98,108,101]⟩
noncomputable def z_KindFault : Str:=⟨#[75,105,110,100,70,97,117,108,116]⟩
noncomputable def z_kind_text : Str:=⟨#[107,105,110,100,95,116,101,120,116]⟩
noncomputable def z_table_for : Str:=⟨#[116,97,98,108,101,95,102,111,114]⟩
noncomputable def z_super_of : Str:=⟨#[115,117,112,101,114,95,111,102]⟩
noncomputable def z_declare : Str:=⟨#[100,101,99,108,97,114,101]⟩
noncomputable def z_Number : Str:=⟨#[78,117,109,98,101,114]⟩
noncomputable def z_AbstractChar : Str:=⟨#[65,98,115,116,114,97,99,116,67,104,97,114]⟩
noncomputable def z_AbstractString : Str:=⟨#[65,98,115,116,114,97,99,116,83,116,114,105,110,103]⟩
noncomputable def z_Exception : Str:=⟨#[69,120,99,101,112,116,105,111,110]⟩
noncomputable def z_Signed : Str:=⟨#[83,105,103,110,101,100]⟩
noncomputable def z_Unsigned : Str:=⟨#[85,110,115,105,103,110,101,100]⟩
noncomputable def z_Bool : Str:=⟨#[66,111,111,108]⟩
noncomputable def z_Char : Str:=⟨#[67,104,97,114]⟩
noncomputable def z_Symbol : Str:=⟨#[83,121,109,98,111,108]⟩
noncomputable def z_Nothing : Str:=⟨#[78,111,116,104,105,110,103]⟩
noncomputable def z_Expr : Str:=⟨#[69,120,112,114]⟩
noncomputable def z_head : Str:=⟨#[104,101,97,100]⟩
noncomputable def z_args : Str:=⟨#[97,114,103,115]⟩
noncomputable def z_msg : Str:=⟨#[109,115,103]⟩
noncomputable def z_f : Str:=⟨#[102]⟩
noncomputable def z_TypeError : Str:=⟨#[84,121,112,101,69,114,114,111,114]⟩
noncomputable def z_func : Str:=⟨#[102,117,110,99]⟩
noncomputable def z_expected : Str:=⟨#[101,120,112,101,99,116,101,100]⟩
noncomputable def z_got : Str:=⟨#[103,111,116]⟩
noncomputable def z_InexactError : Str:=⟨#[73,110,101,120,97,99,116,69,114,114,111,114]⟩
noncomputable def z_T : Str:=⟨#[84]⟩
noncomputable def z_val : Str:=⟨#[118,97,108]⟩
noncomputable def z_UndefVarError : Str:=⟨#[85,110,100,101,102,86,97,114,69,114,114,111,114]⟩
noncomputable def z_BoundsError : Str:=⟨#[66,111,117,110,100,115,69,114,114,111,114]⟩
noncomputable def z_a : Str:=⟨#[97]⟩
noncomputable def z_i : Str:=⟨#[105]⟩
noncomputable def z_anything : Str:=⟨#[97,110,121,116,104,105,110,103]⟩
noncomputable def z_item : Str:=⟨#[105,116,101,109]⟩
noncomputable def z_rank : Str:=⟨#[114,97,110,107]⟩
noncomputable def z_whole : Str:=⟨#[119,104,111,108,101]⟩
noncomputable def z__84_46_48 : Str:=⟨#[84,46,48]⟩
noncomputable def z__78_46_48 : Str:=⟨#[78,46,48]⟩
noncomputable def z_AbstractArray : Str:=⟨#[65,98,115,116,114,97,99,116,65,114,114,97,121]⟩
noncomputable def z_Array : Str:=⟨#[65,114,114,97,121]⟩
noncomputable def z_SubArray : Str:=⟨#[83,117,98,65,114,114,97,121]⟩
noncomputable def z_AbstractRange : Str:=⟨#[65,98,115,116,114,97,99,116,82,97,110,103,101]⟩
noncomputable def z_UnitRange : Str:=⟨#[85,110,105,116,82,97,110,103,101]⟩
noncomputable def z_start : Str:=⟨#[115,116,97,114,116]⟩
noncomputable def z_stop : Str:=⟨#[115,116,111,112]⟩
noncomputable def z_StepRange : Str:=⟨#[83,116,101,112,82,97,110,103,101]⟩
noncomputable def z_Ref : Str:=⟨#[82,101,102]⟩
noncomputable def z_x : Str:=⟨#[120]⟩
noncomputable def z_Rational : Str:=⟨#[82,97,116,105,111,110,97,108]⟩
noncomputable def z_num : Str:=⟨#[110,117,109]⟩
noncomputable def z_den : Str:=⟨#[100,101,110]⟩
noncomputable def z_script : Str:=⟨#[115,99,114,105,112,116]⟩
noncomputable def z_k : Str:=⟨#[107]⟩
noncomputable def z_number : Str:=⟨#[110,117,109,98,101,114]⟩
noncomputable def z_pail : Str:=⟨#[112,97,105,108]⟩
noncomputable def z__84_46_50 : Str:=⟨#[84,46,50]⟩
noncomputable def z_picked_ones : Str:=⟨#[112,105,99,107,101,100,95,111,110,101,115]⟩
noncomputable def z_turn : Str:=⟨#[116,117,114,110]⟩
noncomputable def z_ahead : Str:=⟨#[97,104,101,97,100]⟩
noncomputable def z_open_one : Str:=⟨#[111,112,101,110,95,111,110,101]⟩
noncomputable def z_with_upper : Str:=⟨#[119,105,116,104,95,117,112,112,101,114]⟩
noncomputable def z_add_upper : Str:=⟨#[97,100,100,95,117,112,112,101,114]⟩
noncomputable def z_field_kinds : Str:=⟨#[102,105,101,108,100,95,107,105,110,100,115]⟩
noncomputable def z_under : Str:=⟨#[117,110,100,101,114]⟩
noncomputable def z_applied : Str:=⟨#[97,112,112,108,105,101,100]⟩
noncomputable def z_is_concrete : Str:=⟨#[105,115,95,99,111,110,99,114,101,116,101]⟩
noncomputable def F1 : Hs:=[(.dict [z_Int64,z_Integer,z_Real,z_Any,z_String] [(.bs 1),(.bs 2),(.bs 3),(.bs 4),(.bs 5)]),(.list 4 [(.str z_Any),(.str z_Real),(.str z_Integer),(.str z_Int64)]),(.list 3 [(.str z_Any),(.str z_Real),(.str z_Integer)]),(.list 2 [(.str z_Any),(.str z_Real)]),(.list 1 [(.str z_Any)]),(.list 2 [(.str z_Any),(.str z_String)]),(.list 5 [(.str z_String),(.str z_Any),(.str z_Real),(.str z_Integer),(.str z_Int64)])]
noncomputable def FA1 : List Addr:=[729,730,731,732,733,734,728]
noncomputable def gl1 : List (Str × AV):=[(z_tuple,(.bi .tuple)),
  (z_list,(.bi .list)),
  (z_len,(.bi .len)),
  (z_union_of,(.fn 48)),
  (z_substituted_binder,(.fn 72)),
  (z_parts_of_kind,(.fn 55)),
  (z_rebuilt_kind,(.fn 62)),
  (z_substituted,(.fn 67)),
  (z_free_vars,(.fn 77)),
  (z_max,(.bi .max)),
  (z_Side,(.fn 187)),
  (z_str,(.bi .str)),
  (z_BOTTOM,(.tup [(.str z_bottom)])),
  (z_ANY,(.tup [(.str z_name),(.str z_Any),(.tup [])])),
  (z_is_diagonal,(.fn 286)),
  (z_occurrences,(.fn 272)),
  (z_min,(.bi .min)),
  (z_sum,(.bi .sum)),
  (z_bound_occurrences,(.fn 279)),
  (z_bound_cases,(.fn 296)),
  (z_tuple_cases,(.fn 301)),
  (z_MOST_CASES,(.int (.ofNat 64))),
  (z_left_cases,(.fn 291)),
  (z_tuple_of,(.fn 41)),
  (z_is_empty,(.fn 306)),
  (z_same_ways,(.fn 469)),
  (z_widened,(.fn 457)),
  (z_TYPE,(.tup [(.str z_name),(.str z_Type),(.tup [])])),
  (z_is_any_type,(.fn 476)),
  (z_tuple_ways,(.fn 488)),
  (z_FUNCTION,(.tup [(.str z_name),(.str z_Function),(.tup [])])),
  (z_sorted,(.bi .sorted)),
  (z_same_kind,(.fn 503)),
  (z_has_within,(.fn 464)),
  (z_depth_of_kind,(.fn 134)),
  (z_MOST_DEPTH,(.int (.ofNat 60))),
  (z_tail_of,(.fn 313)),
  (z_is_too_deep,(.fn 483)),
  (z_Search,(.fn 439)),
  (z_size_of_kind,(.fn 141)),
  (z_Sides,(.fn 263)),
  (z_is_subtype,(.fn 496)),
  (z_opened,(.fn 84)),
  (z_closed,(.fn 91)),
  (z_stretched,(.fn 517)),
  (z_binders_many,(.fn 510)),
  (z_dict,(.bi .dict)),
  (z_MOST_SIZE,(.int (.ofNat 4000))),
  (z_Decl,(.fn 598)),
  (z_is_too_large,(.fn 609)),
  (z_Kinds,(.fn 694)),
  (z_nominal,(.fn 706)),
  (z_named,(.fn 33)),
  (z_SIGNED,(.tup [(.str z_Int8),(.str z_Int16),(.str z_Int32),(.str z_Int64),(.str z_BigInt)])),
  (z_UNSIGNED,(.tup [(.str z_UInt8),(.str z_UInt16),(.str z_UInt32),(.str z_UInt64)])),
  (z_start_errors,(.fn 720)),
  (z_start_rows,(.fn 727)),
  (z_PLAIN_ERRORS,(.tup [(.str z_DivideError),(.str z_StackOverflowError)])),
  (z_TEXT_ERRORS,(.tup [(.str z_ArgumentError),(.str z_OverflowError),(.str z_DimensionMismatch),(.str z_ErrorException)])),
  (z_CALL_ERRORS,(.tup [(.str z_MethodError),(.str z_AmbiguousError)])),
  (z_abs,(.bi .abs)),
  (z__95_108_97_119_95_107_105_110_100,(.fn 755)),
  (z__95_108_97_119_95_99_104_97_105_110,(.bs 0)),
  (z_start_kinds,(.fn 713)),
  (z__95_108_97_119_95_115_105_103,(.fn 760)),
  (z_is_more_specific,(.fn 524)),
  (z__95_108_97_119_95_112_97_105_108,(.fn 741)),
  (z__95_108_97_119_95_110_97_109_101_115,(.bs 6)),
  (z__95_108_97_119_95_100_114_97_119,(.fn 748)),
  (z__95_108_97_119_95_102_105_116_115,(.fn 765))]
noncomputable def f_33 : Fn:=⟨[z_name,z_params],[(.tup [])],[(z_name,.local),(z_params,.local),(z_tuple,.globalImplicit)],[.ret (.tup [(.con (.str z_name)),(.var z_name),(.call (.gv 0) [(.var z_params)])])]⟩
noncomputable def f_41 : Fn:=⟨[z_kinds,z_rest],[.none],[(z_kinds,.local),(z_rest,.local),(z_tuple,.globalImplicit)],[.ret (.tup [(.con (.str z_tuple)),(.call (.gv 0) [(.var z_kinds)]),(.var z_rest)])]⟩
noncomputable def f_55 : Fn:=⟨[z_kind],[],[(z_kind,.local),(z_word,.local),(z_list,.globalImplicit)],[.asg (.nm z_word) (.sub (.var z_kind) (.con (.int (.ofNat 0)))),
  .ite (.cmp .Eq (.var z_word) (.con (.str z_name))) [.ret (.call (.gv 1) [(.sub (.var z_kind) (.con (.int (.ofNat 2))))])] [],
  .ite (.cmp .Eq (.var z_word) (.con (.str z_tuple))) [.ret (.bin .Add (.call (.gv 1) [(.sub (.var z_kind) (.con (.int (.ofNat 1))))]) (.ite (.cmp .Is (.sub (.var z_kind) (.con (.int (.ofNat 2)))) (.con .none)) (.lst []) (.lst [(.sub (.var z_kind) (.con (.int (.ofNat 2))))])))] [],
  .ite (.cmp .Eq (.var z_word) (.con (.str z_union))) [.ret (.call (.gv 1) [(.sub (.var z_kind) (.con (.int (.ofNat 1))))])] [],
  .ite (.cmp .Eq (.var z_word) (.con (.str z_all))) [.ret (.lst [(.sub (.var z_kind) (.con (.int (.ofNat 2)))),(.sub (.var z_kind) (.con (.int (.ofNat 3)))),(.sub (.var z_kind) (.con (.int (.ofNat 4))))])] [],
  .ret (.ite (.cmp .Eq (.var z_word) (.con (.str z_typeof))) (.lst [(.sub (.var z_kind) (.con (.int (.ofNat 1))))]) (.lst []))]⟩
noncomputable def f_62 : Fn:=⟨[z_kind,z_parts],[],[(z_kind,.local),(z_parts,.local),(z_word,.local),(z_many,.local),(z_tuple,.globalImplicit),(z_len,.globalImplicit),(z_union_of,.globalImplicit)],[.asg (.nm z_word) (.sub (.var z_kind) (.con (.int (.ofNat 0)))),
  .ite (.cmp .Eq (.var z_word) (.con (.str z_name))) [.ret (.tup [(.con (.str z_name)),(.sub (.var z_kind) (.con (.int (.ofNat 1)))),(.call (.gv 0) [(.var z_parts)])])] [],
  .ite (.cmp .Eq (.var z_word) (.con (.str z_tuple))) [.asg (.nm z_many) (.call (.gv 2) [(.sub (.var z_kind) (.con (.int (.ofNat 1))))]),.ret (.tup [(.con (.str z_tuple)),(.call (.gv 0) [(.cut (.var z_parts) (.var z_many))]),(.ite (.cmp .Is (.sub (.var z_kind) (.con (.int (.ofNat 2)))) (.con .none)) (.con .none) (.sub (.var z_parts) (.var z_many)))])] [],
  .ite (.cmp .Eq (.var z_word) (.con (.str z_union))) [.ret (.call (.gv 3) [(.var z_parts)])] [],
  .ite (.cmp .Eq (.var z_word) (.con (.str z_all))) [.ret (.tup [(.con (.str z_all)),(.sub (.var z_kind) (.con (.int (.ofNat 1)))),(.sub (.var z_parts) (.con (.int (.ofNat 0)))),(.sub (.var z_parts) (.con (.int (.ofNat 1)))),(.sub (.var z_parts) (.con (.int (.ofNat 2))))])] [],
  .ret (.ite (.cmp .Eq (.var z_word) (.con (.str z_typeof))) (.tup [(.con (.str z_typeof)),(.sub (.var z_parts) (.con (.int (.ofNat 0))))]) (.var z_kind))]⟩
noncomputable def f_67 : Fn:=⟨[z_kind,z_table],[],[(z_kind,.local),(z_table,.cell),(z_parts,.local),(z_substituted_binder,.globalImplicit),(z_parts_of_kind,.globalImplicit),(z_rebuilt_kind,.globalImplicit)],[.ite (.cmp .Eq (.sub (.var z_kind) (.con (.int (.ofNat 0)))) (.con (.str z_var))) [.ret (.meth (.var z_table) z_get [(.sub (.var z_kind) (.con (.int (.ofNat 1)))),(.var z_kind)])] [],
  .ite (.cmp .Eq (.sub (.var z_kind) (.con (.int (.ofNat 0)))) (.con (.str z_all))) [.ret (.call (.gv 4) [(.var z_kind),(.var z_table)])] [],
  .asg (.nm z_parts) (.call (.gv 5) [(.var z_kind)]),
  .ret (.ite (.cmp .Eq (.var z_parts) (.lst [])) (.var z_kind) (.call (.gv 6) [(.var z_kind),(.comp 0 (.call (.gv 7) [(.var z_part),(.var z_table)]) (.nm z_part) [(.var z_parts)] [] [z_table])]))]⟩
noncomputable def f_77 : Fn:=⟨[z_kind],[],[(z_kind,.local),(z_found,.local),(z_left,.local),(z_here,.local),(z_bound,.cell),(z_parts_of_kind,.globalImplicit)],[.asg (.tp [z_found,z_left]) (.tup [(.lst []),(.lst [(.tup [(.var z_kind),(.tup [])])])]),
  .whl (.cmp .NotEq (.var z_left) (.lst [])) [.asg (.tp [z_here,z_bound]) (.meth (.var z_left) z_pop []),.ite (.cmp .Eq (.sub (.var z_here) (.con (.int (.ofNat 0)))) (.con (.str z_var))) [.ite (.andl [(.cmp .NotIn (.sub (.var z_here) (.con (.int (.ofNat 1)))) (.var z_bound)),(.cmp .NotIn (.sub (.var z_here) (.con (.int (.ofNat 1)))) (.var z_found))]) [.ex (.meth (.var z_found) z_append [(.sub (.var z_here) (.con (.int (.ofNat 1))))])] []] [.ite (.cmp .Eq (.sub (.var z_here) (.con (.int (.ofNat 0)))) (.con (.str z_all))) [.ex (.meth (.var z_left) z_append [(.tup [(.sub (.var z_here) (.con (.int (.ofNat 4)))),(.bin .Add (.var z_bound) (.tup [(.sub (.var z_here) (.con (.int (.ofNat 1))))]))])]),.ex (.meth (.var z_left) z_extend [(.lst [(.tup [(.sub (.var z_here) (.con (.int (.ofNat 3)))),(.var z_bound)]),(.tup [(.sub (.var z_here) (.con (.int (.ofNat 2)))),(.var z_bound)])])])] [.ex (.meth (.var z_left) z_extend [(.comp 0 (.tup [(.var z_part),(.var z_bound)]) (.nm z_part) [(.rev (.call (.gv 5) [(.var z_here)]))] [] [z_bound])])]]],
  .ret (.var z_found)]⟩
noncomputable def f_84 : Fn:=⟨[z_kind],[],[(z_kind,.local),(z_found,.local)],[.asg (.nm z_found) (.lst []),
  .whl (.cmp .Eq (.sub (.var z_kind) (.con (.int (.ofNat 0)))) (.con (.str z_all))) [.ex (.meth (.var z_found) z_append [(.tup [(.sub (.var z_kind) (.con (.int (.ofNat 1)))),(.sub (.var z_kind) (.con (.int (.ofNat 2)))),(.sub (.var z_kind) (.con (.int (.ofNat 3))))])]),.asg (.nm z_kind) (.sub (.var z_kind) (.con (.int (.ofNat 4))))],
  .ret (.tup [(.var z_found),(.var z_kind)])]⟩
noncomputable def f_91 : Fn:=⟨[z_binders,z_body],[],[(z_binders,.local),(z_body,.local),(z_name,.local),(z_lower,.local),(z_upper,.local),(z_free_vars,.globalImplicit)],[.for 0 (.tp [z_name,z_lower,z_upper]) [(.rev (.var z_binders))] [.ite (.cmp .In (.var z_name) (.call (.gv 8) [(.var z_body)])) [.asg (.nm z_body) (.tup [(.con (.str z_all)),(.var z_name),(.var z_lower),(.var z_upper),(.var z_body)])] []],
  .ret (.var z_body)]⟩
noncomputable def f_134 : Fn:=⟨[z_kind],[],[(z_kind,.local),(z_deepest,.local),(z_left,.local),(z_here,.local),(z_depth,.cell),(z_max,.globalImplicit),(z_parts_of_kind,.globalImplicit)],[.asg (.tp [z_deepest,z_left]) (.tup [(.con (.int (.ofNat 0))),(.lst [(.tup [(.var z_kind),(.con (.int (.ofNat 1)))])])]),
  .whl (.cmp .NotEq (.var z_left) (.lst [])) [.asg (.tp [z_here,z_depth]) (.meth (.var z_left) z_pop []),.asg (.nm z_deepest) (.call (.gv 9) [(.var z_deepest),(.var z_depth)]),.ex (.meth (.var z_left) z_extend [(.comp 0 (.tup [(.var z_part),(.bin .Add (.var z_depth) (.con (.int (.ofNat 1))))]) (.nm z_part) [(.call (.gv 5) [(.var z_here)])] [] [z_depth])])],
  .ret (.var z_deepest)]⟩
noncomputable def f_141 : Fn:=⟨[z_kind],[],[(z_kind,.local),(z_many,.local),(z_left,.local),(z_parts_of_kind,.globalImplicit)],[.asg (.tp [z_many,z_left]) (.tup [(.con (.int (.ofNat 0))),(.lst [(.var z_kind)])]),
  .whl (.cmp .NotEq (.var z_left) (.lst [])) [.asg (.nm z_many) (.bin .Add (.var z_many) (.con (.int (.ofNat 1)))),.ex (.meth (.var z_left) z_extend [(.call (.gv 5) [(.meth (.var z_left) z_pop [])])])],
  .ret (.var z_many)]⟩
noncomputable def f_156 : Fn:=⟨[z_self,z_is_asked,z_order,z_lowers,z_uppers,z_is_diagonal,z_floor],[(.tup [(.str z_bottom)])],[(z_self,.local),(z_is_asked,.local),(z_order,.local),(z_lowers,.local),(z_uppers,.local),(z_is_diagonal,.local),(z_floor,.local)],[.asg (.attr (.var z_self) z_is_asked) (.var z_is_asked),
  .asg (.attr (.var z_self) z_order) (.var z_order),
  .asg (.attr (.var z_self) z_lowers) (.var z_lowers),
  .asg (.attr (.var z_self) z_uppers) (.var z_uppers),
  .asg (.attr (.var z_self) z_is_diagonal) (.var z_is_diagonal),
  .asg (.attr (.var z_self) z_floor) (.var z_floor)]⟩
noncomputable def f_163 : Fn:=⟨[z_self,z_kind],[],[(z_self,.local),(z_kind,.local),(z_Side,.globalImplicit)],[.ret (.call (.gv 10) [(.attr (.var z_self) z_is_asked),(.attr (.var z_self) z_order),(.bin .Add (.attr (.var z_self) z_lowers) (.tup [(.var z_kind)])),(.attr (.var z_self) z_uppers),(.attr (.var z_self) z_is_diagonal),(.attr (.var z_self) z_floor)])]⟩
noncomputable def f_206 : Fn:=⟨[z_self,z_rows,z_many],[.none,(.int (.ofNat 0))],[(z_self,.local),(z_rows,.local),(z_many,.local)],[.asg (.attr (.var z_self) z_rows) (.ite (.cmp .Is (.var z_rows) (.con .none)) .dct0 (.var z_rows)),
  .asg (.attr (.var z_self) z_many) (.var z_many)]⟩
noncomputable def f_220 : Fn:=⟨[z_self,z_kind,z_is_asked],[],[(z_self,.local),(z_kind,.local),(z_is_asked,.local),(z_word,.local),(z_name,.local),(z_lower,.local),(z_upper,.local),(z_body,.local),(z_fresh,.local),(z_lowers,.local),(z_uppers,.local),(z_str,.globalImplicit),(z_BOTTOM,.globalImplicit),(z_ANY,.globalImplicit),(z_Side,.globalImplicit),(z_is_diagonal,.globalImplicit),(z_substituted,.globalImplicit)],[.asg (.tp [z_word,z_name,z_lower,z_upper,z_body]) (.var z_kind),
  .asg (.attr (.var z_self) z_many) (.bin .Add (.attr (.var z_self) z_many) (.con (.int (.ofNat 1)))),
  .asg (.nm z_fresh) (.bin .Add (.bin .Add (.sub (.meth (.var z_name) z_split [(.con (.str z__33))]) (.con (.int (.ofNat 0)))) (.con (.str z__33))) (.call (.gv 11) [(.attr (.var z_self) z_many)])),
  .asg (.nm z_lowers) (.ite (.cmp .Eq (.var z_lower) (.gv 12)) (.tup []) (.tup [(.var z_lower)])),
  .asg (.nm z_uppers) (.ite (.cmp .Eq (.var z_upper) (.gv 13)) (.tup []) (.tup [(.var z_upper)])),
  .asg (.sub (.attr (.var z_self) z_rows) (.var z_fresh)) (.call (.gv 10) [(.var z_is_asked),(.attr (.var z_self) z_many),(.var z_lowers),(.var z_uppers),(.call (.gv 14) [(.var z_body),(.var z_name)]),(.var z_lower)]),
  .ret (.tup [(.var z_fresh),(.call (.gv 7) [(.var z_body),(.dct1 (.var z_name) (.tup [(.con (.str z_var)),(.var z_fresh)]))])])]⟩
noncomputable def f_227 : Fn:=⟨[z_self,z_name],[],[(z_self,.local),(z_name,.local),(z_Side,.globalImplicit)],[.ret (.meth (.attr (.var z_self) z_rows) z_get [(.var z_name),(.call (.gv 10) [(.con (.bool false)),(.con (.int (.ofNat 0))),(.tup []),(.tup []),(.con (.bool false))])])]⟩
noncomputable def f_234 : Fn:=⟨[z_self,z_kind],[],[(z_self,.local),(z_kind,.local)],[.ret (.andl [(.cmp .Eq (.sub (.var z_kind) (.con (.int (.ofNat 0)))) (.con (.str z_var))),(.attr (.meth (.var z_self) z_side [(.sub (.var z_kind) (.con (.int (.ofNat 1))))]) z_is_asked)])]⟩
noncomputable def f_246 : Fn:=⟨[z_self,z_name,z_kind],[],[(z_self,.local),(z_name,.local),(z_kind,.local)],[.asg (.sub (.attr (.var z_self) z_rows) (.var z_name)) (.meth (.sub (.attr (.var z_self) z_rows) (.var z_name)) z_with_lower [(.var z_kind)])]⟩
noncomputable def f_260 : Fn:=⟨[z_self,z_kind,z_name],[],[(z_self,.local),(z_kind,.local),(z_name,.local),(z_order,.local),(z_found,.local),(z_other,.local),(z_free_vars,.globalImplicit)],[.asg (.nm z_order) (.attr (.meth (.var z_self) z_side [(.var z_name)]) z_order),
  .asg (.nm z_found) (.lst []),
  .for 0 (.nm z_other) [(.call (.gv 8) [(.var z_kind)])] [.ite (.andl [(.nt (.attr (.meth (.var z_self) z_side [(.var z_other)]) z_is_asked)),(.cmp .Gt (.attr (.meth (.var z_self) z_side [(.var z_other)]) z_order) (.var z_order))]) [.ex (.meth (.var z_found) z_append [(.var z_other)])] []],
  .ret (.var z_found)]⟩
noncomputable def f_272 : Fn:=⟨[z_kind,z_name],[],[(z_kind,.local),(z_name,.cell),(z_word,.local),(z_rows,.local),(z_max,.globalImplicit),(z_occurrences,.globalImplicit),(z_min,.globalImplicit),(z_sum,.globalImplicit),(z_bound_occurrences,.globalImplicit),(z_free_vars,.globalImplicit)],[.asg (.nm z_word) (.sub (.var z_kind) (.con (.int (.ofNat 0)))),
  .ite (.cmp .Eq (.var z_word) (.con (.str z_var))) [.ret (.tup [(.ite (.cmp .Eq (.sub (.var z_kind) (.con (.int (.ofNat 1)))) (.var z_name)) (.con (.int (.ofNat 1))) (.con (.int (.ofNat 0)))),(.con (.bool false))])] [],
  .ite (.cmp .Eq (.var z_word) (.con (.str z_union))) [.asgc z_rows (.comp 0 (.call (.gv 15) [(.var z_part),(.var z_name)]) (.nm z_part) [(.sub (.var z_kind) (.con (.int (.ofNat 1))))] [] [z_name]),.ret (.tup [(.call (.gv 9) [(.comp 0 (.sub (.var z_row) (.con (.int (.ofNat 0)))) (.nm z_row) [(.var z_rows)] [] [])]),(.cmp .In (.con (.bool true)) (.comp 0 (.sub (.var z_row) (.con (.int (.ofNat 1)))) (.nm z_row) [(.var z_rows)] [] []))])] [],
  .ite (.cmp .Eq (.var z_word) (.con (.str z_tuple))) [.asgc z_rows (.comp 0 (.call (.gv 15) [(.var z_part),(.var z_name)]) (.nm z_part) [(.sub (.var z_kind) (.con (.int (.ofNat 1))))] [] [z_name]),.ite (.cmp .IsNot (.sub (.var z_kind) (.con (.int (.ofNat 2)))) (.con .none)) [.asg (.nm z_rows) (.bin .Add (.var z_rows) (.bin .Mult (.lst [(.call (.gv 15) [(.sub (.var z_kind) (.con (.int (.ofNat 2)))),(.var z_name)])]) (.con (.int (.ofNat 2)))))] [],.ret (.tup [(.call (.gv 16) [(.con (.int (.ofNat 2))),(.call (.gv 17) [(.comp 0 (.sub (.var z_row) (.con (.int (.ofNat 0)))) (.nm z_row) [(.var z_rows)] [] [])])]),(.cmp .In (.con (.bool true)) (.comp 0 (.sub (.var z_row) (.con (.int (.ofNat 1)))) (.nm z_row) [(.var z_rows)] [] []))])] [],
  .ite (.cmp .Eq (.var z_word) (.con (.str z_all))) [.ret (.call (.gv 18) [(.var z_kind),(.var z_name)])] [],
  .ret (.tup [(.con (.int (.ofNat 0))),(.cmp .In (.var z_name) (.call (.gv 8) [(.var z_kind)]))])]⟩
noncomputable def f_286 : Fn:=⟨[z_body,z_name],[],[(z_body,.local),(z_name,.local),(z_many,.local),(z_is_within,.local),(z_occurrences,.globalImplicit)],[.asg (.tp [z_many,z_is_within]) (.call (.gv 15) [(.var z_body),(.var z_name)]),
  .ret (.andl [(.cmp .Gt (.var z_many) (.con (.int (.ofNat 1)))),(.nt (.var z_is_within))])]⟩
noncomputable def f_291 : Fn:=⟨[z_kind],[],[(z_kind,.local),(z_word,.local),(z_found,.local),(z_bound_cases,.globalImplicit),(z_tuple_cases,.globalImplicit),(z_len,.globalImplicit),(z_MOST_CASES,.globalImplicit)],[.asg (.nm z_word) (.sub (.var z_kind) (.con (.int (.ofNat 0)))),
  .ite (.cmp .Eq (.var z_word) (.con (.str z_union))) [.bad] [.ite (.cmp .Eq (.var z_word) (.con (.str z_all))) [.asg (.nm z_found) (.call (.gv 19) [(.var z_kind)])] [.ite (.cmp .Eq (.var z_word) (.con (.str z_tuple))) [.asg (.nm z_found) (.call (.gv 20) [(.var z_kind)])] [.asg (.nm z_found) (.lst [(.var z_kind)])]]],
  .ret (.ite (.cmp .LtE (.call (.gv 2) [(.var z_found)]) (.gv 21)) (.var z_found) (.lst [(.var z_kind)]))]⟩
noncomputable def f_296 : Fn:=⟨[z_kind],[],[(z_kind,.cell),(z_many,.local),(z_is_within,.local),(z_cases,.local),(z_occurrences,.globalImplicit),(z_left_cases,.globalImplicit),(z_substituted,.globalImplicit)],[.asg (.tp [z_many,z_is_within]) (.call (.gv 15) [(.sub (.var z_kind) (.con (.int (.ofNat 4)))),(.sub (.var z_kind) (.con (.int (.ofNat 1))))]),
  .ite (.andl [(.cmp .Lt (.var z_many) (.con (.int (.ofNat 2)))),(.nt (.var z_is_within))]) [.ret (.call (.gv 22) [(.call (.gv 7) [(.sub (.var z_kind) (.con (.int (.ofNat 4)))),(.dct1 (.sub (.var z_kind) (.con (.int (.ofNat 1)))) (.sub (.var z_kind) (.con (.int (.ofNat 3)))))])])] [],
  .asg (.nm z_cases) (.ite (.var z_is_within) (.call (.gv 22) [(.sub (.var z_kind) (.con (.int (.ofNat 4))))]) (.lst [(.sub (.var z_kind) (.con (.int (.ofNat 4))))])),
  .ite (.cmp .In (.con (.bool true)) (.comp 0 (.call (.gv 14) [(.var z_case),(.sub (.var z_kind) (.con (.int (.ofNat 1))))]) (.nm z_case) [(.var z_cases)] [] [z_kind])) [.ret (.lst [(.var z_kind)])] [],
  .ret (.comp 0 (.bin .Add (.cut (.var z_kind) (.con (.int (.ofNat 4)))) (.tup [(.var z_case)])) (.nm z_case) [(.var z_cases)] [] [z_kind])]⟩
noncomputable def f_301 : Fn:=⟨[z_kind],[],[(z_kind,.cell),(z_some,.local),(z_many,.local),(z_part,.local),(z_rows,.local),(z_cases,.cell),(z_row,.local),(z_left_cases,.globalImplicit),(z_len,.globalImplicit),(z_MOST_CASES,.globalImplicit)],[.asg (.tp [z_some,z_many]) (.tup [(.lst []),(.con (.int (.ofNat 1)))]),
  .for 0 (.nm z_part) [(.sub (.var z_kind) (.con (.int (.ofNat 1))))] [.ex (.meth (.var z_some) z_append [(.call (.gv 22) [(.var z_part)])]),.asg (.nm z_many) (.bin .Mult (.var z_many) (.call (.gv 2) [(.sub (.var z_some) (.con (.int (.negSucc 0))))])),.ite (.cmp .Gt (.var z_many) (.gv 21)) [.ret (.lst [(.var z_kind)])] []],
  .asg (.nm z_rows) (.lst [(.lst [])]),
  .for 0 (.nm z_cases) [(.var z_some)] [.ite (.cmp .Eq (.call (.gv 2) [(.var z_cases)]) (.con (.int (.ofNat 1)))) [.for 0 (.nm z_row) [(.var z_rows)] [.ex (.meth (.var z_row) z_append [(.sub (.var z_cases) (.con (.int (.ofNat 0))))])]] [.bad]],
  .ret (.comp 0 (.call (.gv 23) [(.var z_row),(.sub (.var z_kind) (.con (.int (.ofNat 2))))]) (.nm z_row) [(.var z_rows)] [] [z_kind])]⟩
noncomputable def f_306 : Fn:=⟨[z_kind],[],[(z_kind,.local),(z_is_empty,.globalImplicit),(z_BOTTOM,.globalImplicit)],[.ite (.cmp .Eq (.sub (.var z_kind) (.con (.int (.ofNat 0)))) (.con (.str z_tuple))) [.ret (.cmp .In (.con (.bool true)) (.comp 0 (.call (.gv 24) [(.var z_part)]) (.nm z_part) [(.sub (.var z_kind) (.con (.int (.ofNat 1))))] [] []))] [],
  .ite (.cmp .Eq (.sub (.var z_kind) (.con (.int (.ofNat 0)))) (.con (.str z_all))) [.ret (.call (.gv 24) [(.sub (.var z_kind) (.con (.int (.ofNat 4))))])] [],
  .ret (.cmp .Eq (.var z_kind) (.gv 12))]⟩
noncomputable def f_313 : Fn:=⟨[z_kind],[],[(z_kind,.local),(z_is_empty,.globalImplicit)],[.ret (.ite (.andl [(.cmp .IsNot (.sub (.var z_kind) (.con (.int (.ofNat 2)))) (.con .none)),(.call (.gv 24) [(.sub (.var z_kind) (.con (.int (.ofNat 2))))])]) (.con .none) (.sub (.var z_kind) (.con (.int (.ofNat 2)))))]⟩
noncomputable def f_331 : Fn:=⟨[z_self,z_kinds,z_fuel],[],[(z_self,.local),(z_kinds,.local),(z_fuel,.local)],[.asg (.attr (.var z_self) z_kinds) (.var z_kinds),
  .asg (.attr (.var z_self) z_fuel) (.var z_fuel),
  .asg (.attr (.var z_self) z_known) .dct0]⟩
noncomputable def f_338 : Fn:=⟨[z_self,z_goals,z_sides],[],[(z_self,.local),(z_goals,.local),(z_sides,.local),(z_waiting,.local),(z_left,.local),(z_here,.local),(z_found,.local),(z_list,.globalImplicit)],[.asg (.nm z_waiting) (.lst [(.tup [(.call (.gv 1) [(.var z_goals)]),(.var z_sides)])]),
  .whl (.andl [(.cmp .NotEq (.var z_waiting) (.lst [])),(.cmp .Gt (.attr (.var z_self) z_fuel) (.con (.int (.ofNat 0))))]) [.asg (.tp [z_left,z_here]) (.meth (.var z_waiting) z_pop []),.asg (.nm z_found) (.meth (.var z_self) z_settled [(.var z_left),(.var z_here),(.var z_waiting)]),.ite (.cmp .IsNot (.var z_found) (.con .none)) [.ret (.var z_found)] []],
  .ret (.con .none)]⟩
noncomputable def f_345 : Fn:=⟨[z_self,z_left,z_sides,z_waiting],[],[(z_self,.local),(z_left,.local),(z_sides,.local),(z_waiting,.local),(z_goal,.local),(z_ways,.local),(z_way,.local),(z_len,.globalImplicit)],[.whl (.cmp .NotEq (.var z_left) (.lst [])) [.asg (.attr (.var z_self) z_fuel) (.bin .Sub (.attr (.var z_self) z_fuel) (.con (.int (.ofNat 1)))),.asg (.nm z_goal) (.meth (.var z_left) z_pop []),.asg (.nm z_ways) (.ite (.cmp .GtE (.attr (.var z_self) z_fuel) (.con (.int (.ofNat 0)))) (.meth (.var z_self) z_step [(.var z_goal),(.var z_sides)]) (.lst [])),.ite (.andl [(.cmp .Gt (.call (.gv 2) [(.var z_ways)]) (.con (.int (.ofNat 1)))),(.nt (.meth (.var z_sides) z_has_asked [(.drop1 (.var z_goal))]))]) [.asg (.nm z_ways) (.ite (.meth (.var z_self) z_holds [(.var z_goal),(.var z_ways),(.var z_sides)]) (.lst [(.lst [])]) (.lst []))] [],.ite (.cmp .Eq (.var z_ways) (.lst [])) [.ret (.con .none)] [],.for 0 (.nm z_way) [(.cut0r (.var z_ways))] [.ex (.meth (.var z_waiting) z_append [(.tup [(.bin .Add (.var z_left) (.var z_way)),(.meth (.var z_sides) z_copied [])])])],.ex (.meth (.var z_left) z_extend [(.sub (.var z_ways) (.con (.int (.ofNat 0))))])],
  .ret (.ite (.meth (.var z_self) z_are_concrete [(.var z_sides)]) (.var z_sides) (.con .none))]⟩
noncomputable def f_359 : Fn:=⟨[z_self,z_goal,z_sides],[],[(z_self,.local),(z_goal,.local),(z_sides,.local),(z_word,.local),(z_one,.local),(z_other,.local),(z_same_ways,.globalImplicit),(z_is_empty,.globalImplicit),(z_ANY,.globalImplicit)],[.asg (.tp [z_word,z_one,z_other]) (.var z_goal),
  .ite (.cmp .Eq (.var z_one) (.var z_other)) [.ret (.lst [(.lst [])])] [],
  .ite (.cmp .In (.con (.str z_n)) (.tup [(.sub (.var z_one) (.con (.int (.ofNat 0)))),(.sub (.var z_other) (.con (.int (.ofNat 0))))])) [.ret (.meth (.var z_self) z_numbers [(.var z_word),(.var z_one),(.var z_other),(.var z_sides)])] [],
  .ite (.cmp .Eq (.var z_word) (.con (.str z_same))) [.ret (.call (.gv 25) [(.var z_one),(.var z_other)])] [],
  .ite (.orl [(.call (.gv 24) [(.var z_one)]),(.cmp .Eq (.var z_other) (.gv 13))]) [.ret (.lst [(.lst [])])] [],
  .ite (.meth (.var z_sides) z_is_asked [(.var z_one)]) [.ret (.meth (.var z_self) z_below [(.sub (.var z_one) (.con (.int (.ofNat 1)))),(.var z_other),(.var z_sides)])] [],
  .ite (.meth (.var z_sides) z_is_asked [(.var z_other)]) [.ret (.meth (.var z_self) z_above [(.sub (.var z_other) (.con (.int (.ofNat 1)))),(.var z_one),(.var z_sides)])] [],
  .ret (.meth (.var z_self) z_by_form [(.var z_one),(.var z_other),(.var z_sides)])]⟩
noncomputable def f_376 : Fn:=⟨[z_self,z_name,z_kind,z_sides],[],[(z_self,.local),(z_name,.local),(z_kind,.cell),(z_sides,.local),(z_widened,.globalImplicit)],[.asg (.nm z_kind) (.call (.gv 26) [(.var z_name),(.var z_kind),(.var z_sides)]),
  .ite (.orl [(.cmp .Is (.var z_kind) (.con .none)),(.cmp .In (.var z_kind) (.attr (.meth (.var z_sides) z_side [(.var z_name)]) z_lowers))]) [.ret (.ite (.cmp .Is (.var z_kind) (.con .none)) (.lst []) (.lst [(.lst [])]))] [],
  .ex (.meth (.var z_sides) z_add_lower [(.var z_name),(.var z_kind)]),
  .ret (.lst [(.comp 0 (.tup [(.con (.str z_sub)),(.var z_kind),(.var z_upper)]) (.nm z_upper) [(.attr (.meth (.var z_sides) z_side [(.var z_name)]) z_uppers)] [] [z_kind])])]⟩
noncomputable def f_381 : Fn:=⟨[z_self,z_one,z_other,z_sides],[],[(z_self,.local),(z_one,.cell),(z_other,.cell),(z_sides,.cell),(z_cases,.local),(z_parts,.local),(z_ways,.local),(z_upper,.local),(z_lower,.local),(z_left_cases,.globalImplicit),(z_TYPE,.globalImplicit),(z_is_any_type,.globalImplicit),(z_ANY,.globalImplicit),(z_BOTTOM,.globalImplicit)],[.ite (.cmp .Eq (.sub (.var z_one) (.con (.int (.ofNat 0)))) (.con (.str z_union))) [.ret (.lst [(.comp 0 (.tup [(.con (.str z_sub)),(.var z_part),(.var z_other)]) (.nm z_part) [(.sub (.var z_one) (.con (.int (.ofNat 1))))] [] [z_other])])] [],
  .asg (.nm z_cases) (.ite (.andl [(.cmp .In (.sub (.var z_one) (.con (.int (.ofNat 0)))) (.tup [(.con (.str z_tuple)),(.con (.str z_all))])),(.cmp .In (.sub (.var z_other) (.con (.int (.ofNat 0)))) (.tup [(.con (.str z_union)),(.con (.str z_all))]))]) (.call (.gv 22) [(.var z_one)]) (.lst [(.var z_one)])),
  .ite (.cmp .NotEq (.var z_cases) (.lst [(.var z_one)])) [.ret (.meth (.var z_self) z_by_cases [(.var z_cases),(.var z_other),(.var z_sides)])] [],
  .ite (.cmp .Eq (.sub (.var z_one) (.con (.int (.ofNat 0)))) (.con (.str z_all))) [.ret (.lst [(.lst [(.tup [(.con (.str z_sub)),(.sub (.meth (.var z_sides) z_opened [(.var z_one),(.con (.bool false))]) (.con (.int (.ofNat 1)))),(.var z_other)])])])] [],
  .ite (.cmp .Eq (.sub (.var z_other) (.con (.int (.ofNat 0)))) (.con (.str z_union))) [.asg (.nm z_parts) (.bin .Add (.comp 0 (.var z_part) (.nm z_part) [(.sub (.var z_other) (.con (.int (.ofNat 1))))] [(.nt (.meth (.var z_sides) z_is_asked [(.var z_part)]))] [z_sides]) (.comp 0 (.var z_part) (.nm z_part) [(.sub (.var z_other) (.con (.int (.ofNat 1))))] [(.meth (.var z_sides) z_is_asked [(.var z_part)])] [z_sides])),.asgc z_ways (.comp 0 (.lst [(.tup [(.con (.str z_sub)),(.var z_one),(.var z_part)])]) (.nm z_part) [(.var z_parts)] [] [z_one]),.ret (.bin .Add (.var z_ways) (.ite (.cmp .Eq (.sub (.var z_one) (.con (.int (.ofNat 0)))) (.con (.str z_var))) (.lst [(.lst [(.tup [(.con (.str z_sub)),(.meth (.meth (.var z_sides) z_side [(.sub (.var z_one) (.con (.int (.ofNat 1))))]) z_upper []),(.var z_other)])])]) (.lst [])))] [],
  .ite (.cmp .Eq (.sub (.var z_other) (.con (.int (.ofNat 0)))) (.con (.str z_all))) [.asg (.nm z_ways) (.ite (.andl [(.cmp .Eq (.var z_one) (.gv 27)),(.call (.gv 28) [(.var z_other)])]) (.lst [(.lst [])]) (.lst [(.meth (.var z_self) z_chosen [(.var z_one),(.var z_other),(.var z_sides)])])),.ret (.bin .Add (.var z_ways) (.ite (.cmp .Eq (.sub (.var z_one) (.con (.int (.ofNat 0)))) (.con (.str z_var))) (.lst [(.lst [(.tup [(.con (.str z_sub)),(.meth (.meth (.var z_sides) z_side [(.sub (.var z_one) (.con (.int (.ofNat 1))))]) z_upper []),(.var z_other)])])]) (.lst [])))] [],
  .ite (.cmp .Eq (.sub (.var z_one) (.con (.int (.ofNat 0)))) (.con (.str z_var))) [.asg (.nm z_upper) (.meth (.meth (.var z_sides) z_side [(.sub (.var z_one) (.con (.int (.ofNat 1))))]) z_upper []),.asg (.nm z_ways) (.ite (.cmp .Eq (.var z_upper) (.gv 13)) (.lst []) (.lst [(.lst [(.tup [(.con (.str z_sub)),(.var z_upper),(.var z_other)])])])),.ret (.bin .Add (.var z_ways) (.ite (.cmp .Eq (.sub (.var z_other) (.con (.int (.ofNat 0)))) (.con (.str z_var))) (.lst [(.lst [(.tup [(.con (.str z_sub)),(.var z_one),(.meth (.meth (.var z_sides) z_side [(.sub (.var z_other) (.con (.int (.ofNat 1))))]) z_lower [])])])]) (.lst [])))] [],
  .ite (.cmp .Eq (.sub (.var z_other) (.con (.int (.ofNat 0)))) (.con (.str z_var))) [.asg (.nm z_lower) (.meth (.meth (.var z_sides) z_side [(.sub (.var z_other) (.con (.int (.ofNat 1))))]) z_lower []),.ret (.ite (.cmp .Eq (.var z_lower) (.gv 12)) (.lst []) (.lst [(.lst [(.tup [(.con (.str z_sub)),(.var z_one),(.var z_lower)])])]))] [],
  .ret (.meth (.var z_self) z_plain [(.var z_one),(.var z_other)])]⟩
noncomputable def f_391 : Fn:=⟨[z_self,z_one,z_other,z_sides],[],[(z_self,.local),(z_one,.local),(z_other,.local),(z_sides,.local),(z_fresh,.local),(z_body,.local),(z_side,.cell)],[.asg (.tp [z_fresh,z_body]) (.meth (.var z_sides) z_opened [(.var z_other),(.con (.bool true))]),
  .asg (.nm z_side) (.meth (.var z_sides) z_side [(.var z_fresh)]),
  .ret (.bin .Add (.ecomp (.attr (.var z_side) z_lowers)) (.lst [(.tup [(.con (.str z_sub)),(.var z_one),(.var z_body)])]))]⟩
noncomputable def f_398 : Fn:=⟨[z_self,z_one,z_other],[],[(z_self,.local),(z_one,.local),(z_other,.local),(z_words,.local),(z_tuple_ways,.globalImplicit),(z_TYPE,.globalImplicit),(z_FUNCTION,.globalImplicit)],[.asg (.nm z_words) (.tup [(.sub (.var z_one) (.con (.int (.ofNat 0)))),(.sub (.var z_other) (.con (.int (.ofNat 0))))]),
  .ite (.cmp .Eq (.var z_words) (.tup [(.con (.str z_name)),(.con (.str z_name))])) [.ret (.meth (.var z_self) z_nominal [(.var z_one),(.var z_other)])] [],
  .ite (.cmp .Eq (.var z_words) (.tup [(.con (.str z_tuple)),(.con (.str z_tuple))])) [.ret (.call (.gv 29) [(.var z_one),(.var z_other)])] [],
  .ite (.cmp .Eq (.var z_words) (.tup [(.con (.str z_typeof)),(.con (.str z_typeof))])) [.ret (.lst [(.lst [(.tup [(.con (.str z_same)),(.sub (.var z_one) (.con (.int (.ofNat 1)))),(.sub (.var z_other) (.con (.int (.ofNat 1))))])])])] [],
  .ite (.orl [(.andl [(.cmp .Eq (.sub (.var z_one) (.con (.int (.ofNat 0)))) (.con (.str z_typeof))),(.cmp .Eq (.var z_other) (.gv 27))]),(.andl [(.cmp .Eq (.sub (.var z_one) (.con (.int (.ofNat 0)))) (.con (.str z_fn))),(.cmp .Eq (.var z_other) (.gv 30))])]) [.ret (.lst [(.lst [])])] [],
  .ret (.lst [])]⟩
noncomputable def f_403 : Fn:=⟨[z_self,z_one,z_other],[],[(z_self,.local),(z_one,.local),(z_other,.local),(z_above,.local),(z_zip,.globalImplicit)],[.for 0 (.nm z_above) [(.meth (.attr (.var z_self) z_kinds) z_supers [(.var z_one)])] [.ite (.cmp .Eq (.sub (.var z_above) (.con (.int (.ofNat 1)))) (.sub (.var z_other) (.con (.int (.ofNat 1))))) [.ret (.lst [(.comp 2 (.tup [(.con (.str z_same)),(.var z_param),(.var z_wanted)]) (.tp [z_param,z_wanted]) [(.sub (.var z_above) (.con (.int (.ofNat 2)))),(.sub (.var z_other) (.con (.int (.ofNat 2))))] [] [])])] []],
  .ret (.lst [])]⟩
noncomputable def f_410 : Fn:=⟨[z_self,z_sides],[],[(z_self,.local),(z_sides,.local),(z_name,.local),(z_side,.local),(z_sorted,.globalImplicit)],[.for 0 (.nm z_name) [(.call (.gv 31) [(.attr (.var z_sides) z_rows)])] [.asg (.nm z_side) (.sub (.attr (.var z_sides) z_rows) (.var z_name)),.ite (.andl [(.attr (.var z_side) z_is_asked),(.meth (.var z_self) z_is_single [(.var z_side),(.var z_sides)]),(.nt (.meth (.var z_self) z_is_one [(.var z_side),(.var z_sides)]))]) [.ret (.con (.bool false))] []],
  .ret (.con (.bool true))]⟩
noncomputable def f_417 : Fn:=⟨[z_self,z_side,z_sides],[],[(z_self,.local),(z_side,.local),(z_sides,.local),(z_BOTTOM,.globalImplicit)],[.ret (.andl [(.attr (.var z_side) z_is_diagonal),(.orl [(.cmp .Eq (.attr (.var z_side) z_floor) (.gv 12)),(.cmp .Eq (.sub (.attr (.var z_side) z_floor) (.con (.int (.ofNat 0)))) (.con (.str z_var))),(.meth (.var z_self) z_is_leaf [(.attr (.var z_side) z_floor),(.var z_sides)])])])]⟩
noncomputable def f_422 : Fn:=⟨[z_self,z_kind,z_sides],[],[(z_self,.cell),(z_kind,.local),(z_sides,.cell)],[.ite (.cmp .Eq (.sub (.var z_kind) (.con (.int (.ofNat 0)))) (.con (.str z_var))) [.ret (.meth (.var z_self) z_is_single [(.meth (.var z_sides) z_side [(.sub (.var z_kind) (.con (.int (.ofNat 1))))]),(.var z_sides)])] [],
  .ite (.cmp .Eq (.sub (.var z_kind) (.con (.int (.ofNat 0)))) (.con (.str z_tuple))) [.ret (.andl [(.cmp .Is (.sub (.var z_kind) (.con (.int (.ofNat 2)))) (.con .none)),(.cmp .NotIn (.con (.bool false)) (.comp 0 (.meth (.var z_self) z_is_leaf [(.var z_part),(.var z_sides)]) (.nm z_part) [(.sub (.var z_kind) (.con (.int (.ofNat 1))))] [] [z_self,z_sides]))])] [],
  .ite (.cmp .Eq (.sub (.var z_kind) (.con (.int (.ofNat 0)))) (.con (.str z_name))) [.ret (.andl [(.meth (.attr (.var z_self) z_kinds) z_is_declared [(.sub (.var z_kind) (.con (.int (.ofNat 1))))]),(.nt (.attr (.meth (.attr (.var z_self) z_kinds) z_decl [(.sub (.var z_kind) (.con (.int (.ofNat 1))))]) z_is_abstract))])] [],
  .ret (.cmp .In (.sub (.var z_kind) (.con (.int (.ofNat 0)))) (.tup [(.con (.str z_fn)),(.con (.str z_typeof))]))]⟩
noncomputable def f_429 : Fn:=⟨[z_self,z_side,z_sides],[],[(z_self,.local),(z_side,.local),(z_sides,.local),(z_found,.local),(z_met,.local),(z_left,.local),(z_kind,.local),(z_here,.local),(z_list,.globalImplicit),(z_BOTTOM,.globalImplicit)],[.asg (.tp [z_found,z_met,z_left]) (.tup [(.lst []),(.lst []),(.rev (.call (.gv 1) [(.attr (.var z_side) z_lowers)]))]),
  .whl (.cmp .NotEq (.var z_left) (.lst [])) [.asg (.nm z_kind) (.meth (.var z_left) z_pop []),.asg (.nm z_here) (.ite (.cmp .Eq (.sub (.var z_kind) (.con (.int (.ofNat 0)))) (.con (.str z_var))) (.meth (.var z_sides) z_side [(.sub (.var z_kind) (.con (.int (.ofNat 1))))]) (.con .none)),.ite (.orl [(.cmp .Is (.var z_here) (.con .none)),(.andl [(.nt (.attr (.var z_here) z_is_asked)),(.orl [(.cmp .Eq (.meth (.var z_here) z_lower []) (.gv 12)),(.nt (.meth (.var z_self) z_is_single [(.var z_here),(.var z_sides)]))])])]) [.ex (.meth (.var z_found) z_append [(.var z_kind)])] [.ite (.cmp .NotIn (.var z_kind) (.var z_met)) [.ex (.meth (.var z_met) z_append [(.var z_kind)]),.ex (.meth (.var z_left) z_extend [(.attr (.var z_here) z_lowers)])] []]],
  .ret (.var z_found)]⟩
noncomputable def f_436 : Fn:=⟨[z_self,z_side,z_sides],[],[(z_self,.local),(z_side,.local),(z_sides,.local),(z_lowers,.local),(z_other,.local),(z_kind,.local),(z_same_kind,.globalImplicit)],[.asg (.nm z_lowers) (.meth (.var z_self) z_lowers_of [(.var z_side),(.var z_sides)]),
  .for 0 (.nm z_other) [(.drop1 (.var z_lowers))] [.asg (.nm z_kind) (.sub (.var z_lowers) (.con (.int (.ofNat 0)))),.ite (.andl [(.cmp .NotEq (.var z_other) (.var z_kind)),(.orl [(.cmp .In (.con (.str z_var)) (.tup [(.sub (.var z_kind) (.con (.int (.ofNat 0)))),(.sub (.var z_other) (.con (.int (.ofNat 0))))])),(.nt (.call (.gv 32) [(.attr (.var z_self) z_kinds),(.var z_kind),(.var z_other)]))])]) [.ret (.con (.bool false))] []],
  .ret (.orl [(.cmp .Eq (.var z_lowers) (.lst [])),(.meth (.var z_self) z_is_leaf [(.sub (.var z_lowers) (.con (.int (.ofNat 0)))),(.var z_sides)])])]⟩
noncomputable def f_457 : Fn:=⟨[z_name,z_kind,z_sides],[],[(z_name,.local),(z_kind,.local),(z_sides,.local),(z_later,.local),(z_last,.local),(z_other,.local),(z_side,.local),(z_has_within,.globalImplicit),(z_widened,.globalImplicit)],[.asg (.nm z_later) (.meth (.var z_sides) z_later_ones [(.var z_kind),(.var z_name)]),
  .ite (.cmp .Eq (.var z_later) (.lst [])) [.ret (.ite (.call (.gv 33) [(.var z_name),(.var z_kind)]) (.con .none) (.var z_kind))] [],
  .ite (.cmp .Eq (.sub (.var z_kind) (.con (.int (.ofNat 0)))) (.con (.str z_var))) [.ret (.call (.gv 26) [(.var z_name),(.meth (.meth (.var z_sides) z_side [(.sub (.var z_kind) (.con (.int (.ofNat 1))))]) z_upper []),(.var z_sides)])] [],
  .asg (.nm z_last) (.sub (.var z_later) (.con (.int (.ofNat 0)))),
  .for 0 (.nm z_other) [(.var z_later)] [.asg (.nm z_last) (.ite (.cmp .Gt (.attr (.meth (.var z_sides) z_side [(.var z_other)]) z_order) (.attr (.meth (.var z_sides) z_side [(.var z_last)]) z_order)) (.var z_other) (.var z_last))],
  .asg (.nm z_side) (.meth (.var z_sides) z_side [(.var z_last)]),
  .ret (.call (.gv 26) [(.var z_name),(.tup [(.con (.str z_all)),(.var z_last),(.meth (.var z_side) z_lower []),(.meth (.var z_side) z_upper []),(.var z_kind)]),(.var z_sides)])]⟩
noncomputable def f_464 : Fn:=⟨[z_name,z_kind],[],[(z_name,.local),(z_kind,.local),(z_free_vars,.globalImplicit)],[.ret (.andl [(.cmp .NotEq (.var z_kind) (.tup [(.con (.str z_var)),(.var z_name)])),(.cmp .In (.var z_name) (.call (.gv 8) [(.var z_kind)]))])]⟩
noncomputable def f_483 : Fn:=⟨[z_one,z_other],[],[(z_one,.local),(z_other,.local),(z_depth_of_kind,.globalImplicit),(z_MOST_DEPTH,.globalImplicit)],[.ret (.orl [(.cmp .Gt (.call (.gv 34) [(.var z_one)]) (.gv 35)),(.cmp .Gt (.call (.gv 34) [(.var z_other)]) (.gv 35))])]⟩
noncomputable def f_488 : Fn:=⟨[z_one,z_other],[],[(z_one,.local),(z_other,.local),(z_some,.cell),(z_tail,.local),(z_wanted,.cell),(z_rest,.cell),(z_goals,.local),(z_tail_of,.globalImplicit),(z_len,.globalImplicit),(z_range,.globalImplicit)],[.asg (.tp [z_some,z_tail]) (.tup [(.sub (.var z_one) (.con (.int (.ofNat 1)))),(.call (.gv 36) [(.var z_one)])]),
  .asg (.tp [z_wanted,z_rest]) (.tup [(.sub (.var z_other) (.con (.int (.ofNat 1)))),(.call (.gv 36) [(.var z_other)])]),
  .ite (.orl [(.cmp .Lt (.call (.gv 2) [(.var z_some)]) (.call (.gv 2) [(.var z_wanted)])),(.andl [(.cmp .Is (.var z_rest) (.con .none)),(.orl [(.cmp .IsNot (.var z_tail) (.con .none)),(.cmp .Gt (.call (.gv 2) [(.var z_some)]) (.call (.gv 2) [(.var z_wanted)]))])])]) [.ret (.lst [])] [],
  .asgc z_goals (.comp 1 (.tup [(.con (.str z_sub)),(.sub (.var z_some) (.var z_at)),(.ite (.cmp .Lt (.var z_at) (.call (.gv 2) [(.var z_wanted)])) (.sub (.var z_wanted) (.var z_at)) (.var z_rest))]) (.nm z_at) [(.call (.gv 2) [(.var z_some)])] [] [z_rest,z_some,z_wanted]),
  .ret (.lst [(.bin .Add (.var z_goals) (.ite (.cmp .Is (.var z_tail) (.con .none)) (.lst []) (.lst [(.tup [(.con (.str z_sub)),(.var z_tail),(.var z_rest)])])))])]⟩
noncomputable def f_496 : Fn:=⟨[z_kinds,z_one,z_other,z_fuel],[(.int (.ofNat 4000))],[(z_kinds,.local),(z_one,.local),(z_other,.local),(z_fuel,.local),(z_case,.local),(z_search,.local),(z_ANY,.globalImplicit),(z_is_too_deep,.globalImplicit),(z_left_cases,.globalImplicit),(z_Search,.globalImplicit),(z_size_of_kind,.globalImplicit),(z_Sides,.globalImplicit)],[.ite (.orl [(.cmp .Eq (.var z_one) (.var z_other)),(.cmp .Eq (.var z_other) (.gv 13))]) [.ret (.con (.bool true))] [],
  .ite (.call (.gv 37) [(.var z_one),(.var z_other)]) [.ret (.con (.bool false))] [],
  .for 0 (.nm z_case) [(.call (.gv 22) [(.var z_one)])] [.asg (.nm z_search) (.call (.gv 38) [(.var z_kinds),(.bin .Add (.var z_fuel) (.bin .Mult (.con (.int (.ofNat 4))) (.bin .Add (.call (.gv 39) [(.var z_case)]) (.call (.gv 39) [(.var z_other)]))))]),.ite (.cmp .Is (.meth (.var z_search) z_run [(.lst [(.tup [(.con (.str z_sub)),(.var z_case),(.var z_other)])]),(.call (.gv 40) [])]) (.con .none)) [.ret (.con (.bool false))] []],
  .ret (.con (.bool true))]⟩
noncomputable def f_503 : Fn:=⟨[z_kinds,z_one,z_other],[],[(z_kinds,.local),(z_one,.local),(z_other,.local),(z_is_subtype,.globalImplicit)],[.ret (.orl [(.cmp .Eq (.var z_one) (.var z_other)),(.andl [(.call (.gv 41) [(.var z_kinds),(.var z_one),(.var z_other)]),(.call (.gv 41) [(.var z_kinds),(.var z_other),(.var z_one)])])])]⟩
noncomputable def f_517 : Fn:=⟨[z_sig,z_many],[],[(z_sig,.local),(z_many,.local),(z_binders,.local),(z_body,.local),(z_opened,.globalImplicit),(z_len,.globalImplicit),(z_closed,.globalImplicit),(z_tuple_of,.globalImplicit)],[.asg (.tp [z_binders,z_body]) (.call (.gv 42) [(.var z_sig)]),
  .ite (.orl [(.cmp .NotEq (.sub (.var z_body) (.con (.int (.ofNat 0)))) (.con (.str z_tuple))),(.cmp .Is (.sub (.var z_body) (.con (.int (.ofNat 2)))) (.con .none)),(.cmp .Gt (.call (.gv 2) [(.sub (.var z_body) (.con (.int (.ofNat 1))))]) (.var z_many))]) [.ret (.var z_sig)] [],
  .ret (.call (.gv 43) [(.var z_binders),(.call (.gv 23) [(.bin .Add (.sub (.var z_body) (.con (.int (.ofNat 1)))) (.bin .Mult (.tup [(.sub (.var z_body) (.con (.int (.ofNat 2))))]) (.bin .Sub (.var z_many) (.call (.gv 2) [(.sub (.var z_body) (.con (.int (.ofNat 1))))]))))])])]⟩
noncomputable def f_524 : Fn:=⟨[z_kinds,z_one,z_other],[],[(z_kinds,.local),(z_one,.local),(z_other,.local),(z_body,.local),(z_wanted,.local),(z_is_subtype,.globalImplicit),(z_opened,.globalImplicit),(z_stretched,.globalImplicit),(z_len,.globalImplicit),(z_binders_many,.globalImplicit)],[.ite (.nt (.call (.gv 41) [(.var z_kinds),(.var z_one),(.var z_other)])) [.asg (.nm z_body) (.sub (.call (.gv 42) [(.var z_one)]) (.con (.int (.ofNat 1)))),.ite (.orl [(.cmp .NotEq (.sub (.var z_body) (.con (.int (.ofNat 0)))) (.con (.str z_tuple))),(.cmp .IsNot (.sub (.var z_body) (.con (.int (.ofNat 2)))) (.con .none))]) [.ret (.con (.bool false))] [],.asg (.nm z_wanted) (.call (.gv 44) [(.var z_other),(.call (.gv 2) [(.sub (.var z_body) (.con (.int (.ofNat 1))))])]),.ret (.andl [(.cmp .NotEq (.var z_wanted) (.var z_other)),(.call (.gv 41) [(.var z_kinds),(.var z_one),(.var z_wanted)])])] [],
  .ite (.nt (.call (.gv 41) [(.var z_kinds),(.var z_other),(.var z_one)])) [.ret (.con (.bool true))] [],
  .ret (.cmp .Lt (.call (.gv 45) [(.var z_one)]) (.call (.gv 45) [(.var z_other)]))]⟩
noncomputable def f_578 : Fn:=⟨[z_self,z_name,z_params,z_above,z_is_abstract,z_is_mutable,z_fields],[(.bool false),(.tup [])],[(z_self,.local),(z_name,.local),(z_params,.local),(z_above,.local),(z_is_abstract,.local),(z_is_mutable,.local),(z_fields,.local),(z_list,.globalImplicit)],[.asg (.attr (.var z_self) z_name) (.var z_name),
  .asg (.attr (.var z_self) z_params) (.call (.gv 1) [(.var z_params)]),
  .asg (.attr (.var z_self) z_super) (.var z_above),
  .asg (.attr (.var z_self) z_is_abstract) (.var z_is_abstract),
  .asg (.attr (.var z_self) z_is_mutable) (.var z_is_mutable),
  .asg (.attr (.var z_self) z_fields) (.call (.gv 1) [(.var z_fields)])]⟩
noncomputable def f_583 : Fn:=⟨[z_self,z_params],[],[(z_self,.local),(z_params,.local),(z_dict,.globalImplicit),(z_zip,.globalImplicit)],[.ret (.call (.gv 46) [(.comp 2 (.tup [(.sub (.var z_row) (.con (.int (.ofNat 0)))),(.var z_param)]) (.tp [z_row,z_param]) [(.attr (.var z_self) z_params),(.var z_params)] [] [])])]⟩
noncomputable def f_609 : Fn:=⟨[z_kind],[],[(z_kind,.local),(z_many,.local),(z_left,.local),(z_MOST_SIZE,.globalImplicit),(z_parts_of_kind,.globalImplicit)],[.asg (.tp [z_many,z_left]) (.tup [(.con (.int (.ofNat 0))),(.lst [(.var z_kind)])]),
  .whl (.andl [(.cmp .NotEq (.var z_left) (.lst [])),(.cmp .LtE (.var z_many) (.gv 47))]) [.asg (.nm z_many) (.bin .Add (.var z_many) (.con (.int (.ofNat 1)))),.ex (.meth (.var z_left) z_extend [(.call (.gv 5) [(.meth (.var z_left) z_pop [])])])],
  .ret (.cmp .Gt (.var z_many) (.gv 47))]⟩
noncomputable def f_623 : Fn:=⟨[z_self],[],[(z_self,.local),(z_Decl,.globalImplicit)],[.asg (.attr (.var z_self) z_decls) (.dct1 (.con (.str z_Any)) (.call (.gv 48) [(.con (.str z_Any)),(.lst []),(.con .none),(.con (.bool true))]))]⟩
noncomputable def f_628 : Fn:=⟨[z_self,z_decl],[],[(z_self,.local),(z_decl,.local),(z_above,.local),(z_own,.cell),(z_wild,.local),(z_variable,.local),(z_lower,.local),(z_upper,.local),(z_name,.local),(z_kind,.local),(z_KindFault,.globalImplicit),(z_kind_text,.globalImplicit),(z_TYPE,.globalImplicit),(z_len,.globalImplicit),(z_free_vars,.globalImplicit),(z_dict,.globalImplicit)],[.ite (.cmp .In (.attr (.var z_decl) z_name) (.attr (.var z_self) z_decls)) [.bad] [],
  .asg (.nm z_above) (.attr (.var z_decl) z_super),
  .ite (.orl [(.cmp .NotEq (.sub (.var z_above) (.con (.int (.ofNat 0)))) (.con (.str z_name))),(.cmp .NotIn (.sub (.var z_above) (.con (.int (.ofNat 1)))) (.attr (.var z_self) z_decls)),(.nt (.attr (.sub (.attr (.var z_self) z_decls) (.sub (.var z_above) (.con (.int (.ofNat 1))))) z_is_abstract))]) [.bad] [],
  .ite (.orl [(.cmp .Eq (.var z_above) (.gv 27)),(.cmp .NotEq (.call (.gv 2) [(.sub (.var z_above) (.con (.int (.ofNat 2))))]) (.call (.gv 2) [(.attr (.sub (.attr (.var z_self) z_decls) (.sub (.var z_above) (.con (.int (.ofNat 1))))) z_params)]))]) [.bad] [],
  .asg (.tp [z_own,z_wild]) (.tup [(.lst []),(.lst [])]),
  .for 0 (.tp [z_variable,z_lower,z_upper]) [(.attr (.var z_decl) z_params)] [.asg (.nm z_wild) (.bin .Add (.var z_wild) (.comp 0 (.var z_name) (.nm z_name) [(.bin .Add (.call (.gv 8) [(.var z_lower)]) (.call (.gv 8) [(.var z_upper)]))] [(.cmp .NotIn (.var z_name) (.var z_own))] [z_own])),.asg (.nm z_wild) (.bin .Add (.var z_wild) (.ite (.cmp .In (.var z_variable) (.var z_own)) (.lst [(.var z_variable)]) (.lst []))),.ex (.meth (.var z_own) z_append [(.var z_variable)])],
  .asg (.nm z_wild) (.bin .Add (.var z_wild) (.comp 0 (.var z_name) (.nm z_name) [(.call (.gv 8) [(.var z_above)])] [(.cmp .NotIn (.var z_name) (.var z_own))] [z_own])),
  .for 0 (.tp [z_name,z_kind]) [(.attr (.var z_decl) z_fields)] [.asg (.nm z_wild) (.bin .Add (.var z_wild) (.comp 0 (.var z_one) (.nm z_one) [(.call (.gv 8) [(.var z_kind)])] [(.cmp .NotIn (.var z_one) (.var z_own))] [z_own]))],
  .ite (.orl [(.cmp .NotEq (.var z_wild) (.lst [])),(.cmp .NotEq (.call (.gv 2) [(.call (.gv 46) [(.attr (.var z_decl) z_fields)])]) (.call (.gv 2) [(.attr (.var z_decl) z_fields)]))]) [.bad] [],
  .asg (.sub (.attr (.var z_self) z_decls) (.attr (.var z_decl) z_name)) (.var z_decl)]⟩
noncomputable def f_635 : Fn:=⟨[z_self,z_name],[],[(z_self,.local),(z_name,.local)],[.ret (.cmp .In (.var z_name) (.attr (.var z_self) z_decls))]⟩
noncomputable def f_642 : Fn:=⟨[z_self,z_name],[],[(z_self,.local),(z_name,.local),(z_KindFault,.globalImplicit)],[.ite (.cmp .NotIn (.var z_name) (.attr (.var z_self) z_decls)) [.bad] [],
  .ret (.sub (.attr (.var z_self) z_decls) (.var z_name))]⟩
noncomputable def f_649 : Fn:=⟨[z_self,z_kind],[],[(z_self,.local),(z_kind,.local),(z_decl,.local),(z_found,.local),(z_TYPE,.globalImplicit),(z_FUNCTION,.globalImplicit),(z_ANY,.globalImplicit),(z_substituted,.globalImplicit),(z_is_too_large,.globalImplicit),(z_KindFault,.globalImplicit)],[.ite (.cmp .Eq (.sub (.var z_kind) (.con (.int (.ofNat 0)))) (.con (.str z_typeof))) [.ret (.gv 27)] [],
  .ite (.cmp .Eq (.sub (.var z_kind) (.con (.int (.ofNat 0)))) (.con (.str z_fn))) [.ret (.gv 30)] [],
  .ite (.orl [(.cmp .NotEq (.sub (.var z_kind) (.con (.int (.ofNat 0)))) (.con (.str z_name))),(.cmp .Eq (.var z_kind) (.gv 13)),(.nt (.meth (.var z_self) z_is_declared [(.sub (.var z_kind) (.con (.int (.ofNat 1))))]))]) [.ret (.gv 13)] [],
  .asg (.nm z_decl) (.meth (.var z_self) z_decl [(.sub (.var z_kind) (.con (.int (.ofNat 1))))]),
  .asg (.nm z_found) (.call (.gv 7) [(.attr (.var z_decl) z_super),(.meth (.var z_decl) z_table_for [(.sub (.var z_kind) (.con (.int (.ofNat 2))))])]),
  .ite (.call (.gv 49) [(.var z_found)]) [.bad] [],
  .ret (.var z_found)]⟩
noncomputable def f_656 : Fn:=⟨[z_self,z_kind],[],[(z_self,.local),(z_kind,.local),(z_found,.local),(z_ANY,.globalImplicit)],[.asg (.nm z_found) (.lst [(.var z_kind)]),
  .whl (.cmp .NotEq (.sub (.var z_found) (.con (.int (.negSucc 0)))) (.gv 13)) [.ex (.meth (.var z_found) z_append [(.meth (.var z_self) z_super_of [(.sub (.var z_found) (.con (.int (.negSucc 0))))])])],
  .ret (.var z_found)]⟩
noncomputable def f_706 : Fn:=⟨[z_kinds,z_name,z_above,z_is_abstract],[(.bool false)],[(z_kinds,.local),(z_name,.local),(z_above,.local),(z_is_abstract,.local),(z_Decl,.globalImplicit)],[.ex (.meth (.var z_kinds) z_declare [(.call (.gv 48) [(.var z_name),(.lst []),(.var z_above),(.var z_is_abstract)])])]⟩
noncomputable def f_713 : Fn:=⟨[],[],[(z_kinds,.local),(z_name,.local),(z_above,.local),(z_Kinds,.globalImplicit),(z_nominal,.globalImplicit),(z_ANY,.globalImplicit),(z_named,.globalImplicit),(z_SIGNED,.globalImplicit),(z_UNSIGNED,.globalImplicit),(z_Decl,.globalImplicit),(z_start_errors,.globalImplicit),(z_start_rows,.globalImplicit)],[.asg (.nm z_kinds) (.call (.gv 50) []),
  .for 0 (.nm z_name) [(.tup [(.con (.str z_Type)),(.con (.str z_Function)),(.con (.str z_Number)),(.con (.str z_AbstractChar)),(.con (.str z_AbstractString)),(.con (.str z_Exception))])] [.ex (.call (.gv 51) [(.var z_kinds),(.var z_name),(.gv 13),(.con (.bool true))])],
  .ex (.call (.gv 51) [(.var z_kinds),(.con (.str z_Real)),(.call (.gv 52) [(.con (.str z_Number))]),(.con (.bool true))]),
  .ex (.call (.gv 51) [(.var z_kinds),(.con (.str z_Integer)),(.call (.gv 52) [(.con (.str z_Real))]),(.con (.bool true))]),
  .ex (.call (.gv 51) [(.var z_kinds),(.con (.str z_Signed)),(.call (.gv 52) [(.con (.str z_Integer))]),(.con (.bool true))]),
  .ex (.call (.gv 51) [(.var z_kinds),(.con (.str z_Unsigned)),(.call (.gv 52) [(.con (.str z_Integer))]),(.con (.bool true))]),
  .for 0 (.nm z_name) [(.gv 53)] [.ex (.call (.gv 51) [(.var z_kinds),(.var z_name),(.call (.gv 52) [(.con (.str z_Signed))])])],
  .for 0 (.nm z_name) [(.gv 54)] [.ex (.call (.gv 51) [(.var z_kinds),(.var z_name),(.call (.gv 52) [(.con (.str z_Unsigned))])])],
  .for 0 (.tp [z_name,z_above]) [(.tup [(.tup [(.con (.str z_Bool)),(.con (.str z_Integer))]),(.tup [(.con (.str z_Char)),(.con (.str z_AbstractChar))]),(.tup [(.con (.str z_String)),(.con (.str z_AbstractString))])])] [.ex (.call (.gv 51) [(.var z_kinds),(.var z_name),(.call (.gv 52) [(.var z_above)])])],
  .ex (.call (.gv 51) [(.var z_kinds),(.con (.str z_Symbol)),(.gv 13)]),
  .ex (.call (.gv 51) [(.var z_kinds),(.con (.str z_Nothing)),(.gv 13)]),
  .ex (.meth (.var z_kinds) z_declare [(.call (.gv 48) [(.con (.str z_Expr)),(.lst []),(.gv 13),(.con (.bool false)),(.con (.bool true)),(.lst [(.tup [(.con (.str z_head)),(.call (.gv 52) [(.con (.str z_Symbol))])]),(.tup [(.con (.str z_args)),(.gv 13)])])])]),
  .ex (.call (.gv 55) [(.var z_kinds)]),
  .ex (.call (.gv 56) [(.var z_kinds)]),
  .ret (.var z_kinds)]⟩
noncomputable def f_720 : Fn:=⟨[z_kinds],[],[(z_kinds,.local),(z_above,.local),(z_name,.local),(z_named,.globalImplicit),(z_PLAIN_ERRORS,.globalImplicit),(z_nominal,.globalImplicit),(z_TEXT_ERRORS,.globalImplicit),(z_Decl,.globalImplicit),(z_ANY,.globalImplicit),(z_CALL_ERRORS,.globalImplicit)],[.asg (.nm z_above) (.call (.gv 52) [(.con (.str z_Exception))]),
  .for 0 (.nm z_name) [(.gv 57)] [.ex (.call (.gv 51) [(.var z_kinds),(.var z_name),(.var z_above)])],
  .for 0 (.nm z_name) [(.gv 58)] [.ex (.meth (.var z_kinds) z_declare [(.call (.gv 48) [(.var z_name),(.lst []),(.var z_above),(.con (.bool false)),(.con (.bool false)),(.lst [(.tup [(.con (.str z_msg)),(.gv 13)])])])])],
  .for 0 (.nm z_name) [(.gv 59)] [.ex (.meth (.var z_kinds) z_declare [(.call (.gv 48) [(.var z_name),(.lst []),(.var z_above),(.con (.bool false)),(.con (.bool false)),(.lst [(.tup [(.con (.str z_f)),(.gv 13)]),(.tup [(.con (.str z_args)),(.gv 13)])])])])],
  .ex (.meth (.var z_kinds) z_declare [(.call (.gv 48) [(.con (.str z_TypeError)),(.lst []),(.var z_above),(.con (.bool false)),(.con (.bool false)),(.lst [(.tup [(.con (.str z_func)),(.gv 13)]),(.tup [(.con (.str z_expected)),(.gv 13)]),(.tup [(.con (.str z_got)),(.gv 13)])])])]),
  .ex (.meth (.var z_kinds) z_declare [(.call (.gv 48) [(.con (.str z_InexactError)),(.lst []),(.var z_above),(.con (.bool false)),(.con (.bool false)),(.lst [(.tup [(.con (.str z_func)),(.gv 13)]),(.tup [(.con (.str z_T)),(.gv 13)]),(.tup [(.con (.str z_val)),(.gv 13)])])])]),
  .ex (.meth (.var z_kinds) z_declare [(.call (.gv 48) [(.con (.str z_UndefVarError)),(.lst []),(.var z_above),(.con (.bool false)),(.con (.bool false)),(.lst [(.tup [(.con (.str z_var)),(.gv 13)])])])]),
  .ex (.meth (.var z_kinds) z_declare [(.call (.gv 48) [(.con (.str z_BoundsError)),(.lst []),(.var z_above),(.con (.bool false)),(.con (.bool false)),(.lst [(.tup [(.con (.str z_a)),(.gv 13)]),(.tup [(.con (.str z_i)),(.gv 13)])])])])]⟩
noncomputable def f_727 : Fn:=⟨[z_kinds],[],[(z_kinds,.local),(z_anything,.local),(z_item,.local),(z_rank,.local),(z_name,.local),(z_one,.local),(z_above,.local),(z_whole,.local),(z_BOTTOM,.globalImplicit),(z_ANY,.globalImplicit),(z_Decl,.globalImplicit),(z_named,.globalImplicit)],[.asg (.nm z_anything) (.lst [(.tup [(.con (.str z__84_46_48)),(.gv 12),(.gv 13)]),(.tup [(.con (.str z__78_46_48)),(.gv 12),(.gv 13)])]),
  .asg (.tp [z_item,z_rank]) (.tup [(.tup [(.con (.str z_var)),(.con (.str z__84_46_48))]),(.tup [(.con (.str z_var)),(.con (.str z__78_46_48))])]),
  .ex (.meth (.var z_kinds) z_declare [(.call (.gv 48) [(.con (.str z_AbstractArray)),(.var z_anything),(.gv 13),(.con (.bool true))])]),
  .for 0 (.nm z_name) [(.tup [(.con (.str z_Array)),(.con (.str z_SubArray))])] [.ex (.meth (.var z_kinds) z_declare [(.call (.gv 48) [(.var z_name),(.var z_anything),(.call (.gv 52) [(.con (.str z_AbstractArray)),(.tup [(.var z_item),(.var z_rank)])]),(.con (.bool false)),(.con (.bool true))])])],
  .asg (.nm z_one) (.lst [(.tup [(.con (.str z__84_46_48)),(.gv 12),(.gv 13)])]),
  .ex (.meth (.var z_kinds) z_declare [(.call (.gv 48) [(.con (.str z_AbstractRange)),(.var z_one),(.call (.gv 52) [(.con (.str z_AbstractArray)),(.tup [(.var z_item),(.tup [(.con (.str z_n)),(.con (.int (.ofNat 1)))])])]),(.con (.bool true))])]),
  .asg (.nm z_above) (.call (.gv 52) [(.con (.str z_AbstractRange)),(.tup [(.var z_item)])]),
  .ex (.meth (.var z_kinds) z_declare [(.call (.gv 48) [(.con (.str z_UnitRange)),(.var z_one),(.var z_above),(.con (.bool false)),(.con (.bool false)),(.lst [(.tup [(.con (.str z_start)),(.var z_item)]),(.tup [(.con (.str z_stop)),(.var z_item)])])])]),
  .ex (.meth (.var z_kinds) z_declare [(.call (.gv 48) [(.con (.str z_StepRange)),(.var z_one),(.var z_above),(.con (.bool false)),(.con (.bool false)),(.lst [(.tup [(.con (.str z_start)),(.var z_item)]),(.tup [(.con (.str z_step)),(.var z_item)]),(.tup [(.con (.str z_stop)),(.var z_item)])])])]),
  .ex (.meth (.var z_kinds) z_declare [(.call (.gv 48) [(.con (.str z_Ref)),(.var z_one),(.gv 13),(.con (.bool false)),(.con (.bool true)),(.lst [(.tup [(.con (.str z_x)),(.var z_item)])])])]),
  .asg (.nm z_whole) (.lst [(.tup [(.con (.str z__84_46_48)),(.gv 12),(.call (.gv 52) [(.con (.str z_Integer))])])]),
  .ex (.meth (.var z_kinds) z_declare [(.call (.gv 48) [(.con (.str z_Rational)),(.var z_whole),(.call (.gv 52) [(.con (.str z_Real))]),(.con (.bool false)),(.con (.bool false)),(.lst [(.tup [(.con (.str z_num)),(.var z_item)]),(.tup [(.con (.str z_den)),(.var z_item)])])])])]⟩
noncomputable def f_741 : Fn:=⟨[z_script,z_k],[],[(z_script,.local),(z_k,.local),(z_number,.local),(z_len,.globalImplicit),(z_abs,.globalImplicit)],[.asg (.nm z_number) (.ite (.cmp .Lt (.var z_k) (.call (.gv 2) [(.var z_script)])) (.bin .Mod (.call (.gv 60) [(.sub (.var z_script) (.var z_k))]) (.bin .Pow (.con (.int (.ofNat 10))) (.con (.int (.ofNat 40))))) (.con (.int (.ofNat 0)))),
  .ret (.lst [(.var z_number),(.bin .Mod (.bin .Mult (.bin .Add (.bin .Add (.bin .Mod (.var z_number) (.con (.int (.ofNat 1000667)))) (.bin .Mult (.con (.int (.ofNat 101))) (.var z_k))) (.con (.int (.ofNat 53)))) (.con (.int (.ofNat 211)))) (.con (.int (.ofNat 1999117))))])]⟩
noncomputable def f_748 : Fn:=⟨[z_pail,z_many],[],[(z_pail,.local),(z_many,.local),(z_got,.local)],[.asg (.sub (.var z_pail) (.con (.int (.ofNat 1)))) (.bin .Mod (.bin .Add (.bin .Mult (.sub (.var z_pail) (.con (.int (.ofNat 1)))) (.con (.int (.ofNat 7351)))) (.con (.int (.ofNat 277)))) (.con (.int (.ofNat 1999117)))),
  .asg (.nm z_got) (.bin .Mod (.bin .Add (.sub (.var z_pail) (.con (.int (.ofNat 0)))) (.bin .FloorDiv (.sub (.var z_pail) (.con (.int (.ofNat 1)))) (.con (.int (.ofNat 71))))) (.var z_many)),
  .asg (.sub (.var z_pail) (.con (.int (.ofNat 0)))) (.bin .FloorDiv (.sub (.var z_pail) (.con (.int (.ofNat 0)))) (.var z_many)),
  .ret (.var z_got)]⟩
noncomputable def f_755 : Fn:=⟨[z_name],[],[(z_name,.local)],[.ret (.ite (.cmp .Eq (.var z_name) (.con (.str z_T))) (.tup [(.con (.str z_var)),(.con (.str z__84_46_50))]) (.tup [(.con (.str z_name)),(.var z_name),(.tup [])]))]⟩
noncomputable def f_760 : Fn:=⟨[z_parts,z_tail,z_upper],[],[(z_parts,.local),(z_tail,.local),(z_upper,.local),(z_rest,.local),(z_body,.local),(z__95_108_97_119_95_107_105_110_100,.globalImplicit),(z_tuple,.globalImplicit)],[.asg (.nm z_rest) (.ite (.cmp .Is (.var z_tail) (.con .none)) (.con .none) (.call (.gv 61) [(.var z_tail)])),
  .asg (.nm z_body) (.tup [(.con (.str z_tuple)),(.call (.gv 0) [(.bin .Add (.lst [(.tup [(.con (.str z_fn)),(.con (.str z_f))])]) (.comp 0 (.call (.gv 61) [(.var z_name)]) (.nm z_name) [(.var z_parts)] [] []))]),(.var z_rest)]),
  .ret (.ite (.orl [(.cmp .In (.con (.str z_T)) (.var z_parts)),(.cmp .Eq (.var z_tail) (.con (.str z_T)))]) (.tup [(.con (.str z_all)),(.con (.str z__84_46_50)),(.tup [(.con (.str z_bottom))]),(.tup [(.con (.str z_name)),(.var z_upper),(.tup [])]),(.var z_body)]) (.var z_body))]⟩
noncomputable def f_765 : Fn:=⟨[z_some,z_wanted,z_upper],[],[(z_some,.local),(z_wanted,.local),(z_upper,.cell),(z_picked_ones,.cell),(z_zip,.globalImplicit),(z_len,.globalImplicit)],[.asgc z_picked_ones (.comp 2 (.var z_one) (.tp [z_one,z_other]) [(.var z_some),(.var z_wanted)] [(.cmp .Eq (.var z_other) (.con (.str z_T)))] []),
  .ite (.cmp .NotEq (.comp 0 (.var z_one) (.nm z_one) [(.var z_picked_ones)] [(.orl [(.cmp .NotEq (.var z_one) (.sub (.var z_picked_ones) (.con (.int (.ofNat 0))))),(.cmp .NotIn (.var z_upper) (.sub (.gv 62) (.var z_one)))])] [z_picked_ones,z_upper]) (.lst [])) [.ret (.con (.bool false))] [],
  .ite (.andl [(.cmp .Gt (.call (.gv 2) [(.var z_picked_ones)]) (.con (.int (.ofNat 1)))),(.cmp .In (.sub (.var z_picked_ones) (.con (.int (.ofNat 0)))) (.tup [(.con (.str z_Integer)),(.con (.str z_Real)),(.con (.str z_Any))]))]) [.ret (.con (.bool false))] [],
  .ret (.cmp .Eq (.comp 2 (.con (.int (.ofNat 1))) (.tp [z_one,z_other]) [(.var z_some),(.var z_wanted)] [(.andl [(.cmp .NotEq (.var z_other) (.con (.str z_T))),(.cmp .NotIn (.var z_other) (.sub (.gv 62) (.var z_one)))])] []) (.lst []))]⟩
noncomputable def f_770 : Fn:=⟨[z_script],[],[(z_script,.local),(z_kinds,.local),(z_one,.local),(z_other,.local),(z_k,.local),(z_pail,.cell),(z_turn,.local),(z_some,.local),(z_upper,.local),(z_ahead,.local),(z_tail,.local),(z_row,.local),(z_open_one,.local),(z_wanted,.local),(z_body,.local),(z_start_kinds,.globalImplicit),(z__95_108_97_119_95_115_105_103,.globalImplicit),(z_is_more_specific,.globalImplicit),(z_range,.globalImplicit),(z_max,.globalImplicit),(z_min,.globalImplicit),(z_len,.globalImplicit),(z__95_108_97_119_95_112_97_105_108,.globalImplicit),(z__95_108_97_119_95_100_114_97_119,.globalImplicit),(z__95_108_97_119_95_110_97_109_101_115,.globalImplicit),(z__95_108_97_119_95_102_105_116_115,.globalImplicit),(z_opened,.globalImplicit),(z_stretched,.globalImplicit),(z_tuple,.globalImplicit)],[.asg (.nm z_kinds) (.call (.gv 63) []),
  .asg (.tp [z_one,z_other]) (.tup [(.call (.gv 64) [(.lst [(.con (.str z_Any))]),(.con .none),(.con (.str z_Any))]),(.call (.gv 64) [(.lst []),(.con (.str z_T)),(.con (.str z_Any))])]),
  .ite (.orl [(.nt (.call (.gv 65) [(.var z_kinds),(.var z_one),(.var z_other)])),(.call (.gv 65) [(.var z_kinds),(.var z_other),(.var z_one)])]) [.ret (.con (.bool false))] [],
  .for 1 (.nm z_k) [(.call (.gv 9) [(.con (.int (.ofNat 1))),(.call (.gv 16) [(.call (.gv 2) [(.var z_script)]),(.con (.int (.ofNat 3)))])])] [.asg (.nm z_pail) (.call (.gv 66) [(.var z_script),(.var z_k)]),.asgc z_some (.comp 1 (.sub (.gv 67) (.call (.gv 68) [(.var z_pail),(.con (.int (.ofNat 5)))])) (.nm z_turn) [(.call (.gv 68) [(.var z_pail),(.con (.int (.ofNat 4)))])] [] [z_pail]),.asg (.nm z_upper) (.sub (.lst [(.con (.str z_Any)),(.con (.str z_Integer))]) (.call (.gv 68) [(.var z_pail),(.con (.int (.ofNat 2)))])),.asg (.nm z_ahead) (.lst []),.for 1 (.nm z_turn) [(.call (.gv 68) [(.var z_pail),(.bin .Add (.call (.gv 2) [(.var z_some)]) (.con (.int (.ofNat 1))))])] [.ex (.meth (.var z_ahead) z_append [(.ite (.cmp .Eq (.call (.gv 68) [(.var z_pail),(.con (.int (.ofNat 3)))]) (.con (.int (.ofNat 0)))) (.con (.str z_T)) (.sub (.gv 67) (.call (.gv 68) [(.var z_pail),(.con (.int (.ofNat 5)))])))])],.asg (.nm z_tail) (.ite (.cmp .Eq (.call (.gv 68) [(.var z_pail),(.con (.int (.ofNat 2)))]) (.con (.int (.ofNat 0)))) (.con (.str z_T)) (.sub (.gv 67) (.call (.gv 68) [(.var z_pail),(.con (.int (.ofNat 5)))]))),.asg (.tp [z_row,z_open_one]) (.tup [(.call (.gv 64) [(.var z_some),(.con .none),(.var z_upper)]),(.call (.gv 64) [(.var z_ahead),(.var z_tail),(.var z_upper)])]),.asg (.nm z_wanted) (.bin .Add (.var z_ahead) (.bin .Mult (.lst [(.var z_tail)]) (.bin .Sub (.call (.gv 2) [(.var z_some)]) (.call (.gv 2) [(.var z_ahead)])))),.ite (.cmp .NotEq (.call (.gv 65) [(.var z_kinds),(.var z_row),(.var z_open_one)]) (.call (.gv 69) [(.var z_some),(.var z_wanted),(.var z_upper)])) [.ret (.con (.bool false))] [],.ite (.call (.gv 65) [(.var z_kinds),(.var z_open_one),(.var z_row)]) [.ret (.con (.bool false))] [],.asg (.nm z_body) (.sub (.call (.gv 42) [(.call (.gv 44) [(.var z_open_one),(.bin .Add (.call (.gv 2) [(.var z_some)]) (.con (.int (.ofNat 1))))])]) (.con (.int (.ofNat 1)))),.ite (.orl [(.cmp .NotEq (.sub (.var z_body) (.con (.int (.ofNat 1)))) (.call (.gv 0) [(.bin .Add (.lst [(.tup [(.con (.str z_fn)),(.con (.str z_f))])]) (.comp 0 (.call (.gv 61) [(.var z_name)]) (.nm z_name) [(.var z_wanted)] [] []))])),(.cmp .IsNot (.sub (.var z_body) (.con (.int (.ofNat 2)))) (.con .none))]) [.ret (.con (.bool false))] [],.ite (.orl [(.cmp .NotEq (.call (.gv 44) [(.var z_row),(.con (.int (.ofNat 5)))]) (.var z_row)),(.cmp .NotEq (.call (.gv 44) [(.var z_open_one),(.call (.gv 2) [(.var z_ahead)])]) (.var z_open_one))]) [.ret (.con (.bool false))] []],
  .ret (.con (.bool true))]⟩
noncomputable def fnT : Tr Fn:=(.node 398 (.node 234 (.node 91 (.node 62 (.node 41 (.node 33 (.leaf 33 f_33) (.leaf 41 f_41)) (.node 55 (.leaf 55 f_55) (.leaf 62 f_62))) (.node 77 (.node 67 (.leaf 67 f_67) (.leaf 77 f_77)) (.node 84 (.leaf 84 f_84) (.leaf 91 f_91)))) (.node 163 (.node 141 (.node 134 (.leaf 134 f_134) (.leaf 141 f_141)) (.node 156 (.leaf 156 f_156) (.leaf 163 f_163))) (.node 220 (.node 206 (.leaf 206 f_206) (.leaf 220 f_220)) (.node 227 (.leaf 227 f_227) (.leaf 234 f_234))))) (.node 306 (.node 286 (.node 260 (.node 246 (.leaf 246 f_246) (.leaf 260 f_260)) (.node 272 (.leaf 272 f_272) (.leaf 286 f_286))) (.node 296 (.node 291 (.leaf 291 f_291) (.leaf 296 f_296)) (.node 301 (.leaf 301 f_301) (.leaf 306 f_306)))) (.node 345 (.node 331 (.node 313 (.leaf 313 f_313) (.leaf 331 f_331)) (.node 338 (.leaf 338 f_338) (.leaf 345 f_345))) (.node 376 (.node 359 (.leaf 359 f_359) (.leaf 376 f_376)) (.node 381 (.leaf 381 f_381) (.node 391 (.leaf 391 f_391) (.leaf 398 f_398))))))) (.node 583 (.node 464 (.node 422 (.node 410 (.node 403 (.leaf 403 f_403) (.leaf 410 f_410)) (.node 417 (.leaf 417 f_417) (.leaf 422 f_422))) (.node 436 (.node 429 (.leaf 429 f_429) (.leaf 436 f_436)) (.node 457 (.leaf 457 f_457) (.leaf 464 f_464)))) (.node 503 (.node 488 (.node 483 (.leaf 483 f_483) (.leaf 488 f_488)) (.node 496 (.leaf 496 f_496) (.leaf 503 f_503))) (.node 524 (.node 517 (.leaf 517 f_517) (.leaf 524 f_524)) (.node 578 (.leaf 578 f_578) (.leaf 583 f_583))))) (.node 706 (.node 635 (.node 623 (.node 609 (.leaf 609 f_609) (.leaf 623 f_623)) (.node 628 (.leaf 628 f_628) (.leaf 635 f_635))) (.node 649 (.node 642 (.leaf 642 f_642) (.leaf 649 f_649)) (.node 656 (.leaf 656 f_656) (.leaf 706 f_706)))) (.node 741 (.node 720 (.node 713 (.leaf 713 f_713) (.leaf 720 f_720)) (.node 727 (.leaf 727 f_727) (.leaf 741 f_741))) (.node 755 (.node 748 (.leaf 748 f_748) (.leaf 755 f_755)) (.node 760 (.leaf 760 f_760) (.node 765 (.leaf 765 f_765) (.leaf 770 f_770))))))))
noncomputable def fn1 (a : Addr) : Option Fn:=tget fnT a
noncomputable def c_187 : Cl:=⟨156,[(z_with_lower,163),(z_with_upper,170),(z_lower,177),(z_upper,184)],[z_floor,z_is_asked,z_is_diagonal,z_lowers,z_order,z_uppers]⟩
noncomputable def c_263 : Cl:=⟨206,[(z_copied,213),(z_opened,220),(z_side,227),(z_is_asked,234),(z_has_asked,239),(z_add_lower,246),(z_add_upper,253),(z_later_ones,260)],[z_many,z_rows]⟩
noncomputable def c_439 : Cl:=⟨331,[(z_run,338),(z_settled,345),(z_holds,352),(z_step,359),(z_numbers,366),(z_below,371),(z_above,376),(z_by_form,381),(z_by_cases,386),(z_chosen,391),(z_plain,398),(z_nominal,403),(z_are_concrete,410),(z_is_single,417),(z_is_leaf,422),(z_lowers_of,429),(z_is_one,436)],[z_fuel,z_kinds,z_known]⟩
noncomputable def c_598 : Cl:=⟨578,[(z_table_for,583),(z_whole,588),(z_field_kinds,595)],[z_fields,z_is_abstract,z_is_mutable,z_name,z_params,z_super]⟩
noncomputable def c_694 : Cl:=⟨623,[(z_declare,628),(z_is_declared,635),(z_decl,642),(z_super_of,649),(z_supers,656),(z_under,663),(z_applied,670),(z_is_within,677),(z_whole,684),(z_is_concrete,691)],[z_decls]⟩
noncomputable def clT : Tr Cl:=(.node 263 (.node 187 (.leaf 187 c_187) (.leaf 263 c_263)) (.node 439 (.leaf 439 c_439) (.node 598 (.leaf 598 c_598) (.leaf 694 c_694))))
noncomputable def cl1 (a : Addr) : Option Cl:=tget clT a
end
end Mine
namespace Mine
open PySem PySem.W PySem.Calls PyProof.Rows
noncomputable def seqAt (K : Frag) (a : Addr) (t : String) (k : List Value → Bool) : Bool:=match K.lookup a with
  | some ⟨.type c,none,.seq us _,sl⟩=>b2 (opq (String.decEq c t)) (b2 (l0 sl.toList) (k us.toList))
  | _=>false
inductive SeqP (K : Frag) (a : Addr) (t : String) (k : List Value → Bool) : Prop
  | mk (us : List Value) (n : Nat) (e : K.lookup a = some { cls:=.type t,data:=.seq us.toArray n }) (q : k us = true) : SeqP K a t k
theorem seqAt_el {K : Frag} {a : Addr} {t : String} {k : List Value → Bool} (h : seqAt K a t k = true) : SeqP K a t k:=by
  unfold seqAt at h
  split at h
  · rename_i c us n sl e
    refine b2_el h fun h1 h=>b2_el h fun h2 h3=>?_
    have h1:=opq_el h1
    subst h1
    refine .mk us.toList n ?_ h3
    rw [e]
    have : sl = #[]:=Array.toList_inj.mp (l0_el (M:=fun l=>l = []) h2 rfl)
    subst this
    rfl
  · cases h
noncomputable def vB (K : Frag) (FA : List Addr) (v : AV) : Value → Bool:=AV.rec (motive_1:=fun _=>Value → Bool) (motive_2:=fun _=>List Value → Bool)
  (fun u=>match u with | .none=>true | _=>false) (fun _=>true) (fun b u=>match u with | .bool b'=>beqb b b' | _=>false) (fun i u=>match u with | .int j _=>ieqA i j | _=>false)
  (fun s u=>match u with | .str t _=>seqb s t | _=>false) (fun _ _=>false) (fun _ r u=>match u with | .ref a=>seqAt K a "tuple" r | _=>false) (fun _ _=>false)
  (fun i u=>match u with | .ref a=>(match hget FA i with | some b=>Nat.beq b a | none=>false) | _=>false) (fun x u=>match u with | .ref a=>Nat.beq x a | _=>false) (fun b u=>match u with | .builtin x=>(match biVal b with | .builtin y=>opq (String.decEq x y) | _=>false) | .type x=>(match biVal b with | .type y=>opq (String.decEq x y) | _=>false) | _=>false)
  (fun us=>l0 us) (fun _ _ f r us=>match us with | u :: us=>b2 (f u) (r us) | []=>false) v
noncomputable def vsB (K : Frag) (FA : List Addr) (l : List AV) : List Value → Bool:=List.rec (motive:=fun _=>List Value → Bool) (fun us=>l0 us) (fun v _ ih us=>match us with | u :: us=>b2 (vB K FA v u) (ih us) | []=>false) l
theorem vB_bs {FA : List Addr} {i a : Nat} (h : (match hget FA i with | some b=>Nat.beq b a | none=>false) = true) : LocR FA i (.ref a):=by
  cases e : hget FA i with
  | none=>rw [e] at h; cases h
  | some b=>rw [e] at h; obtain rfl:=Nat.eq_of_beq_eq_true h; exact LocR.mk b e
theorem vB_b1 {b : Bi} {x : String} (h : (match biVal b with | .builtin y=>opq (String.decEq x y) | _=>false) = true) : Value.builtin x = biVal b:=by
  revert h
  cases biVal b <;> intro h <;> first | exact congrArg Value.builtin (opq_el h) | cases h
theorem vB_b2 {b : Bi} {x : String} (h : (match biVal b with | .type y=>opq (String.decEq x y) | _=>false) = true) : Value.type x = biVal b:=by
  revert h
  cases biVal b <;> intro h <;> first | exact congrArg Value.type (opq_el h) | cases h
theorem vB_ok {c : Cx} {K : Frag} (X : K.In c.B) : ∀ (v : AV) (u : Value),vB K c.F v u = true → c.V c.B [] v u:=
  AV.rec (motive_1:=fun v=>∀ u,vB K c.F v u = true → c.V c.B [] v u) (motive_2:=fun vs=>(∀ u,vB K c.F (.tup vs) u = true → c.V c.B [] (.tup vs) u) ∧ ∀ us,vsB K c.F vs us = true → c.Vs c.B [] vs us)
    (fun u=>by cases u <;> first | exact fun _=>rfl | exact fun h=>absurd h Bool.false_ne_true) (fun _ _=>trivial) (fun b u=>by cases u <;> first | exact fun h=>congrArg Value.bool (beqb_e h).symm | exact fun h=>absurd h Bool.false_ne_true) (fun i u=>by cases u <;> first | exact fun h=>(show IntR i (.int _ _) from ieqA_e h ▸ IntR.mk _) | exact fun h=>absurd h Bool.false_ne_true)
    (fun s u=>by cases u <;> first | exact fun h=>(show StrR s (.str _ _) from seqb_eq h ▸ StrR.mk _) | exact fun h=>absurd h Bool.false_ne_true) (fun _ u h=>nomatch h) (fun vs ih=>ih.1) (fun _ u h=>nomatch h)
    (fun i u=>by cases u <;> first | exact fun h=>vB_bs h | exact fun h=>absurd h Bool.false_ne_true)
    (fun x u=>by cases u <;> first | exact fun h=>congrArg Value.ref (Nat.eq_of_beq_eq_true h).symm | exact fun h=>absurd h Bool.false_ne_true)
    (fun b u=>by cases u <;> first | exact fun h=>vB_b1 h | exact fun h=>vB_b2 h | exact fun h=>absurd h Bool.false_ne_true)
    ⟨fun u h=>match u,h with | .ref a,h=>(by
        obtain ⟨us,n,e,q⟩:=seqAt_el (K:=K) (k:=fun us=>l0 us) h
        exact l0_el (M:=fun us=>K.lookup a = some { cls:=.type "tuple",data:=.seq us.toArray n } → c.V c.B [] (.tup []) (.ref a)) q (fun e=>v_tup ⟨_,X _ _ e,rfl,n,rfl⟩ .nil) e),fun us h=>l0_el (M:=fun us=>c.Vs c.B [] [] us) h .nil⟩
    fun v vs i1 i2=>by
      have e1 : ∀ us,vsB K c.F (v :: vs) us = true → c.Vs c.B [] (v :: vs) us:=fun us h=>match us,h with
        | u :: us,h=>b2_el (show b2 (vB K c.F v u) (vsB K c.F vs us) = true from h) fun h1 h2=>.cons (i1 u h1) (i2.2 us h2)
      refine ⟨fun u h=>match u,h with | .ref a,h=>?_,e1⟩
      have key : ∀ vs,(AV.rec_1 (motive_1:=fun _=>Value → Bool) (motive_2:=fun _=>List Value → Bool)
  (fun u=>match u with | .none=>true | _=>false) (fun _=>true) (fun b u=>match u with | .bool b'=>beqb b b' | _=>false) (fun i u=>match u with | .int j _=>ieqA i j | _=>false)
  (fun s u=>match u with | .str t _=>seqb s t | _=>false) (fun _ _=>false) (fun _ r u=>match u with | .ref a=>seqAt K a "tuple" r | _=>false) (fun _ _=>false)
  (fun i u=>match u with | .ref a=>(match hget c.F i with | some b=>Nat.beq b a | none=>false) | _=>false) (fun x u=>match u with | .ref a=>Nat.beq x a | _=>false) (fun b u=>match u with | .builtin x=>(match biVal b with | .builtin y=>opq (String.decEq x y) | _=>false) | .type x=>(match biVal b with | .type y=>opq (String.decEq x y) | _=>false) | _=>false)
  (fun us=>l0 us) (fun _ _ f r us=>match us with | u :: us=>b2 (f u) (r us) | []=>false) vs : List Value → Bool) = vsB K c.F vs:=fun vs=>by
        induction vs with
        | nil=>rfl
        | cons v vs ih=>
          funext us
          cases us with
          | nil=>rfl
          | cons u us=>exact congrArg (fun r=>b2 (vB K c.F v u) (r us)) ih
      have h : seqAt K a "tuple" _ = true:=h
      obtain ⟨us,n,e,q⟩:=seqAt_el h
      have q:=(congrFun (key (v :: vs)) us).symm.trans q
      exact v_tup ⟨_,X _ _ e,rfl,n,rfl⟩ (e1 us q)
theorem vsB_ok {c : Cx} {K : Frag} (X : K.In c.B) : ∀ {vs : List AV} {us : List Value},vsB K c.F vs us = true → c.Vs c.B [] vs us
  | [],us,h=>l0_el (M:=fun us=>c.Vs c.B [] [] us) h .nil
  | v :: vs,u :: us,h=>b2_el (show b2 (vB K c.F v u) (vsB K c.F vs us) = true from h) fun h1 h2=>.cons (vB_ok X v u h1) (vsB_ok X h2)
noncomputable def sK (l : Kd) : Kd → Bool:=List.rec (motive:=fun _=>Kd → Bool) (fun b=>l0 b) (fun x _ ih b=>match b with | y :: q=>b2 (seqb x.1 y.1) (b2 (opq (instDecidableEqNameKind x.2 y.2)) (ih q)) | []=>false) l
theorem sK_eq : ∀ {a b : Kd},sK a b = true → a = b
  | [],[],_=>rfl
  | (x,k) :: r,(y,j) :: q,h=>b2_el (show b2 (seqb x y) (b2 (opq (instDecidableEqNameKind k j)) (sK r q)) = true from h) fun h1 h=>b2_el h fun h2 h3=>by rw [seqb_eq h1,opq_el h2,sK_eq h3]
noncomputable def dfB (K : Frag) (FA : List Addr) (ds : List AV) (v : Value) : Bool:=match v with
  | .none=>l0 ds
  | .ref a=>seqAt K a "tuple" (vsB K FA ds)
  | _=>false
noncomputable def allB {α : Type} (p : α → Bool) (l : List α) : Bool:=List.rec (motive:=fun _=>Bool) true (fun x _ ih=>b2 (p x) ih) l
theorem allB_ok {α : Type} {p : α → Bool} : ∀ {l : List α},allB p l = true → ∀ x ∈ l,p x = true
  | y :: l,h,x,m=>b2_el (show b2 (p y) (allB p l) = true from h) fun h1 h2=>(List.mem_cons.mp m).elim (fun e=>e ▸ h1) (allB_ok h2 x)
noncomputable def fdB (K : Frag) (G : Pg) (FA : List Addr) (f : Fn) (fd : FuncData) : Bool:=match fd.body with
  | .stmts body=>b2 (okSs G f.bd f.kd body) (b2 (sK fd.scope.names f.kd) (b2 (match fd.scope.kind with | .function=>true | _=>false) (b2 (!fd.scope.isGenerator) (b2 (!fd.scope.isCoroutine) (b2 (l0 fd.closure) (b2 (Nat.beq fd.globals mainGlobals) (b2 (Nat.beq fd.builtins builtinsNs)
      (b2 (codeIn K fd.code fd.qualname) (b2 (l0 fd.params.posonlyargs) (b2 (l0 fd.params.kwonlyargs) (b2 (oN fd.params.vararg) (b2 (oN fd.params.kwarg) (b2 (sN (fd.params.args.map (·.arg)) f.ps) (dfB K FA f.ds fd.defaults))))))))))))))
  | _=>false
noncomputable def fnB (K : Frag) (G : Pg) (FA : List Addr) (a : Addr) (f : Fn) : Bool:=b2 (match K.lookup a with | some ⟨_,_,.func fd,_⟩=>fdB K G FA f fd | _=>false)
  (b2 (distinct f.ps) (b2 (allB (fun x=>kI f.kd x .local || kI f.kd x .cell) f.ps) (b2 (Nat.ble f.ds.length f.ps.length) (allB (fun p=>!(p.2 == .free)) f.kd))))
theorem distinct_nd : ∀ {l : List Str},distinct l = true → l.Nodup
  | [],_=>List.nodup_nil
  | x :: l,h=>b2_el (show b2 (!khas l x) (distinct l) = true from h) fun h1 h2=>List.nodup_cons.mpr ⟨fun m=>(by
    have : ∀ l : List Str,x ∈ l → khas l x = true:=fun l=>by
      induction l with
      | nil=>exact fun m=>nomatch m
      | cons y l ih=>
        intro m
        show (match seqb y x with | true=>true | false=>khas l x) = true
        cases e : seqb y x with
        | true=>rfl
        | false=>exact (List.mem_cons.mp m).elim (fun q=>absurd q.symm (seqb_ne e)) ih
    rw [this l m] at h1
    cases h1),distinct_nd h2⟩
theorem dfB_ok {c : Cx} {K : Frag} {ds : List AV} {v : Value} (X : K.In c.B) (h : dfB K c.F ds v = true) : DefR c ds v:=match v,h with
  | .none,h=>.none rfl (l0_el (M:=fun l=>l = []) h rfl)
  | .ref a,h=>match seqAt_el h with | .mk us n e q=>.some a us rfl ⟨_,X _ _ e,rfl,n,rfl⟩ (vsB_ok X q)
theorem fnB_ok {c : Cx} {K : Frag} {G : Pg} {a : Addr} {f : Fn} (X : K.In c.B) (h : fnB K G c.F a f = true) : FnOk c G a f:=by
  refine b2_el h fun h1 h=>b2_el h fun h2 h=>b2_el h fun h3 h=>b2_el h fun h4 h5=>?_
  have nf : ∀ x,f.kd.lookup x ≠ some .free:=fun x e=>by
    have m:=mem_of_lookup e
    have:=allB_ok h5 _ m
    simp at this
  refine ⟨?_,distinct_nd h2,fun x m=>(Bool.or_eq_true_iff.mp (allB_ok h3 x m)).imp opq_el opq_el,Nat.le_of_ble_eq_true h4,fun n x e=>cellsFrom_some _ _ _ (.inl e),nf⟩
  split at h1
  · rename_i cls dct fd sl e
    unfold fdB at h1
    split at h1
    · rename_i body hb
      refine b2_el h1 fun k1 h=>b2_el h fun k2 h=>b2_el h fun k3 h=>b2_el h fun k4 h=>b2_el h fun k5 h=>b2_el h fun k6 h=>b2_el h fun k7 h=>b2_el h fun k8 h=>b2_el h fun k9 h=>b2_el h fun k10 h=>b2_el h fun k11 h=>b2_el h fun k12 h=>b2_el h fun k13 h=>b2_el h fun k14 k15=>?_
      exact .mk _ fd body (X _ _ e) rfl hb k1 (sK_eq k2) (by revert k3; cases fd.scope.kind <;> intro k3 <;> first | rfl | cases k3) (by simpa using k4) (by simpa using k5) (l0_el (M:=fun l=>l = []) k6 rfl) (Nat.eq_of_beq_eq_true k7) (Nat.eq_of_beq_eq_true k8)
        (codeRec_of X k9) (l0_el (M:=fun l=>l = []) k10 rfl) (l0_el (M:=fun l=>l = []) k11 rfl) (oN_el (M:=fun o=>o = none) k12 rfl) (oN_el (M:=fun o=>o = none) k13 rfl) (sN_eq k14) (dfB_ok X k15)
    · cases h1
  · cases h1
noncomputable def entOk (K : Frag) (FA : List Addr) (ks : List Str) : List AV → List DictEntry → Bool:=List.rec (motive:=fun _=>List AV → List DictEntry → Bool) (fun vs es=>b2 (l0 vs) (l0 es))
  (fun k _ ih vs es=>match vs,es with | v :: vs,e :: es=>b2 (match e.key with | .str x _=>seqb k x | _=>false) (b2 (vB K FA v e.val) (ih vs es)) | _,_=>false) ks
noncomputable def dctOf (K : Frag) (a : Addr) : List DictEntry:=match K.lookup a with | some ⟨_,_,.dict es _,_⟩=>es.toList | _=>[]
noncomputable def dctB (K : Frag) (FA : List Addr) (a : Addr) (ks : List Str) (vs : List AV) : Bool:=match K.lookup a with
  | some ⟨.type c,none,.dict es _,sl⟩=>b2 (opq (String.decEq c "dict")) (b2 (l0 sl.toList) (b2 (distinct ks) (entOk K FA ks vs es.toList)))
  | _=>false
noncomputable def keyS (e : DictEntry) : Str:=match e.key with | .str x _=>x | _=>s_zip
def DctH (w : World) (K : Frag) (a : Addr) : Prop:=(dctOf K a).map (·.hash) = (dctOf K a).map fun e=>hashStr w (keyS e)
structure EntR (c : Cx) (ks : List Str) (vs : List AV) (es : List DictEntry) : Prop where
  len : ks.length = (es.map (·.val)).length
  hv : c.Vs c.B [] vs (es.map (·.val))
  prs : Pairs (strKind c.prog c.w) es (kv ks (es.map (·.val)))
  kys : ∀ e ∈ es,∃ t,e.key = .str (keyS e) t
theorem entOk_ok {c : Cx} {K : Frag} (X : K.In c.B) : ∀ {ks : List Str} {vs : List AV} {es : List DictEntry},entOk K c.F ks vs es = true → EntR c ks vs es
  | [],vs,es,h=>b2_el (show b2 (l0 vs) (l0 es) = true from h) fun h1 h2=>l0_el (M:=fun vs=>EntR c [] vs es) h1 (l0_el (M:=fun es=>EntR c [] [] es) h2 ⟨rfl,.nil,.nil,fun _ m=>nomatch m⟩)
  | k :: ks,v :: vs,e :: es,h=>b2_el (show b2 (match e.key with | .str x _=>seqb k x | _=>false) (b2 (vB K c.F v e.val) (entOk K c.F ks vs es)) = true from h) fun h1 h=>b2_el h fun h2 h3=>by
    have q:=entOk_ok X h3
    obtain ⟨x,t,hk⟩ : ∃ x t,e.key = .str x t:=by
      revert h1
      cases e.key <;> intro h1 <;> first | exact ⟨_,_,rfl⟩ | cases h1
    rw [hk] at h1
    obtain rfl:=seqb_eq h1
    have ks : keyS e = k:=by unfold keyS; rw [hk]
    refine ⟨congrArg (· + 1) q.len,.cons (vB_ok X v _ h2) q.hv,.cons (kv:=(k,e.val)) ?_ rfl q.prs,fun e' m=>(List.mem_cons.mp m).elim (fun z=>⟨t,by rw [z,ks,hk]⟩) (q.kys e')⟩
    show Value.isStrOf k e.key = true
    rw [hk]
    simp [Value.isStrOf]
theorem kv_fst {ks : List Str} {us : List Value} (h : ks.length = us.length) : (kv ks us).map (·.1) = ks:=by
  show (ks.zip us).map Prod.fst = ks
  rw [List.map_fst_zip]; omega
theorem dctB_ok {c : Cx} {K : Frag} {a : Addr} {ks : List Str} {vs : List AV} (X : K.In c.B) (hH : DctH c.w K a) (h0 : (a == sysModules) = false) (h : dctB K c.F a ks vs = true) : DictR c c.B [] ks vs a:=by
  unfold dctB at h
  unfold DctH dctOf at hH
  split at h
  · rename_i cl es n sl e
    rw [e] at hH
    refine b2_el h fun h1 h=>b2_el h fun h2 h=>b2_el h fun h3 h4=>?_
    have q:=entOk_ok X h4
    have h1:=opq_el h1
    subst h1
    have hs : sl = #[]:=Array.toList_inj.mp (l0_el (M:=fun l=>l = []) h2 rfl)
    refine .mk (es.toList.map (·.val)) h0 ⟨_,es,n,X _ _ e,⟨rfl,rfl,hs⟩,rfl,fun e' m=>?_,q.prs,?_⟩ q.len q.hv
    · have m' : e' ∈ es.toList:=Array.mem_toList_iff.mpr m
      obtain ⟨t,ht⟩:=q.kys e' m'
      refine ⟨keyS e',?_,?_⟩
      · show Value.isStrOf _ _ = true
        rw [ht]; simp [Value.isStrOf]
      · obtain ⟨i,hi,z⟩:=List.mem_iff_getElem.mp m'
        have:=congrArg (fun l=>l[i]?) hH
        simp only [List.getElem?_map,List.getElem?_eq_getElem hi,Option.map_some,z] at this
        exact Option.some.inj this
    · show ((kv ks (es.toList.map (·.val))).map (·.1)).Nodup
      rw [kv_fst q.len]
      exact distinct_nd h3
  · cases h
theorem listB_ok {c : Cx} {K : Frag} {a : Addr} {n : Nat} {r : List AV} (X : K.In c.B) (hn : r.length ≤ n) (h : seqAt K a "list" (vsB K c.F r.reverse) = true) : ListR c c.B [] n r a:=match seqAt_el h with
  | .mk us k e q=>.mk us hn ⟨k,X _ _ e⟩ (vsB_ok X q)
noncomputable def obB (K : Frag) (FA : List Addr) (a : Addr) (o : AO) : Bool:=match o with
  | .list n r=>b2 (Nat.ble r.length n) (seqAt K a "list" (vsB K FA r.reverse))
  | .dict ks vs=>b2 (!Nat.beq a sysModules) (dctB K FA a ks vs)
  | .gone=>true
  | _=>false
noncomputable def obsB (K : Frag) (FA : List Addr) (as : List Addr) : Hs → Bool:=List.rec (motive:=fun _=>Hs → Bool) (fun H=>l0 H) (fun a _ ih H=>match H with | o :: H=>b2 (obB K FA a o) (ih H) | []=>false) as
theorem obB_ok {c : Cx} {K : Frag} {a : Addr} {o : AO} (X : K.In c.B) (hH : DctH c.w K a) (h : obB K c.F a o = true) : ORel c c.B [] c.F o a:=match o,h with
  | .list n r,h=>b2_el h fun h1 h2=>listB_ok X (Nat.le_of_ble_eq_true h1) h2
  | .dict ks vs,h=>b2_el h fun h1 h2=>dctB_ok X hH (by
    have : a ≠ sysModules:=fun q=>by subst q; exact nomatch (show false = true from h1)
    exact beq_eq_false_iff_ne.mpr this) h2
  | .gone,_=>trivial
theorem obsB_ok {c : Cx} {K : Frag} (X : K.In c.B) : ∀ {as : List Addr} {H : Hs},(∀ a ∈ as,DctH c.w K a) → obsB K c.F as H = true → ∀ i a o,hget as i = some a → hget H i = some o → ORel c c.B [] c.F o a
  | [],H,_,_,i,a,o,e,_=>(hget_no e).elim
  | b :: as,x :: H,hH,h,i,a,o,e,f=>b2_el (show b2 (obB K c.F b x) (obsB K c.F as H) = true from h) fun h1 h2=>match i,e,f with
    | 0,e,f=>by
      obtain rfl:=Option.some.inj (show some b = some a from e)
      obtain rfl:=Option.some.inj (show some x = some o from f)
      exact obB_ok X (hH b (List.mem_cons_self ..)) h1
    | i + 1,e,f=>obsB_ok X (fun a m=>hH a (List.mem_cons_of_mem _ m)) h2 i a o e f
noncomputable def dund : Str:=Str.ofString "__name__"
noncomputable def glB (K : Frag) (FA : List Addr) (es : Array DictEntry) (p : Str × AV) : Bool:=match nsFind es p.1 with
  | some u=>vB K FA p.2 u
  | none=>b2 (!seqb p.1 dund) (match bootBuiltins p.1 with | some u=>vB K FA p.2 u | none=>false)
noncomputable def Gw : Pg:=⟨gl1,[],fn1,cl1,fun _=>none,fun _ _=>none,fun _ _=>none⟩
noncomputable def glsB (K : Frag) (FA : List Addr) : Bool:=match K.lookup mainGlobals with
  | some ⟨_,_,.dict es _,_⟩=>b2 (allB (glB K FA es) gl1) (b2 (glB K FA es (s_range,.bi .range)) (glB K FA es (s_zip,.bi .zip)))
  | _=>false
noncomputable def worldB (K : Frag) (FA : List Addr) : Bool:=b2 (glsB K FA) (b2 (tall (fun a f=>b2 (fnB K Gw FA a f) (keepIn K (.ref a))) fnT) (b2 (tall (fun a l=>b2 (clOk K a l) (keepIn K (.ref a))) clT) (obsB K FA FA1 F1)))
structure Wd (c : Cx) (K : Frag) : Prop where
  kin : K.In c.B
  g : ∃ mg,c.B.Ns mainGlobals mg
  b : ∃ mb,c.B.Ns builtinsNs mb ∧ ∀ x,x ≠ dund → mb x = bootBuiltins x
  lim : c.B.NoLimit
  sm : ∃ o,c.B.get? sysModules = some o
  dct : ∀ a ∈ FA1,DctH c.w K a
theorem glB_ok {c : Cx} {K : Frag} {mg mb : Str → Option Value} {es : Array DictEntry} {p : Str × AV} (X : K.In c.B) (hg : ∀ x,nsFind es x = mg x) (hb : ∀ x,x ≠ dund → mb x = bootBuiltins x) (h : glB K c.F es p = true) : GlR c mg mb p.1 p.2:=by
  unfold glB at h
  split at h
  · rename_i u e
    exact .top u ((hg _).symm.trans e) (vB_ok X _ _ h)
  · rename_i e
    refine b2_el h fun h1 h2=>?_
    split at h2
    · rename_i u e'
      exact .blt u ((hg _).symm.trans e) ((hb _ fun q=>by rw [q,seqb_self] at h1; cases h1).trans e') (vB_ok X _ _ h2)
    · cases h2
theorem glsB_ok {c : Cx} {K : Frag} {F : Hs} {ov kn kl} (W : Wd c K) (h : glsB K c.F = true) : GlobsR c ⟨gl1,F,fn1,cl1,ov,kn,kl⟩:=by
  unfold glsB at h
  obtain ⟨mg,hg⟩:=W.g
  obtain ⟨mb,hb,hb'⟩:=W.b
  split at h
  · rename_i cl dd es n sl e
    refine b2_el h fun h1 h=>b2_el h fun h2 h3=>?_
    have hes : ∀ x,nsFind es x = mg x:=by
      obtain ⟨o,es',ep,e1,e2,_,e3⟩:=hg
      have:=Option.some.inj ((W.kin _ _ e).symm.trans e1)
      subst this
      injection e2 with e2 _
      subst e2
      exact e3
    exact .mk mg mb hg hb (fun i p q=>glB_ok W.kin hes hb' (allB_ok h1 p (hget_mem q))) (glB_ok W.kin hes hb' h2) (glB_ok W.kin hes hb' h3)
  · cases h
theorem base_of {c : Cx} {K : Frag} {F : Hs} {ov kn kl} {D : Nat} (W : Wd c K) (h : worldB K c.F = true)
    (bF : ∀ i a o,hget c.F i = some a → hget F i = some o → ORel c c.B [] c.F o a)
    (kp : ∀ a,(ov a).isSome = true → keepIn K (.ref a) = true)
    (hov : ∀ a g,ov a = some g → ∀ as H v H',g as H = some (v,H') → TC c D (.fn a) as H v H')
    (hkn : ∀ i j b,kn i j = some b → (c.σ i == c.σ j) = b) (hkl : ∀ i s b,kl i s = some b → (c.σ i == s) = b) : Base c K ⟨gl1,F,fn1,cl1,ov,kn,kl⟩ D:=b2_el h fun h1 h=>b2_el h fun h2 h=>b2_el h fun h3 h4=>by
  have isS : ∀ {α : Type} {o : Option α},o.isSome = true → ∃ v,o = some v:=fun {α o} e=>by cases o with | none=>cases e | some v=>exact ⟨v,rfl⟩
  refine ⟨glsB_ok W h1,W.lim,W.sm,fun a q=>q.elim (kp a) fun q=>q.elim (fun q=>(isS q).elim fun f e=>b2_el (tall_ok h2 e) fun _ z=>z) fun q=>(isS q).elim fun f e=>b2_el (tall_ok h3 e) fun _ z=>z,W.kin,fun a f e=>?_,fun a l e=>b2_el (tall_ok h3 e) fun z _=>z,hov,hkn,hkl,bF⟩
  have q:=fnB_ok W.kin (b2_el (tall_ok h2 e) fun z _=>z)
  exact ⟨match q.ex with | .mk o fd body ho hd hb ok nm kn gn co cl gl bl cr p1 p2 p3 p4 p5 df=>.mk o fd body ho hd hb ok nm kn gn co cl gl bl cr p1 p2 p3 p4 p5 df,q.nodup,q.kinds,q.len,q.cells,q.free⟩
theorem bF_one {c : Cx} {K : Frag} (W : Wd c K) (h : worldB K c.F = true) : ∀ i a o,hget FA1 i = some a → hget F1 i = some o → ORel c c.B [] c.F o a:=b2_el h fun _ h=>b2_el h fun _ h=>b2_el h fun _ h4=>obsB_ok W.kin W.dct h4
noncomputable def KH : Hs:=[(.ns [z_decls] [(.loc 2)]),(.inst 694 0),(.dict [z_Any,z_Type,z_Function,z_Number,z_AbstractChar,z_AbstractString,z_Exception,z_Real,z_Integer,z_Signed,z_Unsigned,z_Int8,z_Int16,z_Int32,z_Int64,z_BigInt,z_UInt8,z_UInt16,z_UInt32,z_UInt64,z_Bool,z_Char,z_String,z_Symbol,z_Nothing,z_Expr,z_DivideError,z_StackOverflowError,z_ArgumentError,z_OverflowError,z_DimensionMismatch,z_ErrorException,z_MethodError,z_AmbiguousError,z_TypeError,z_InexactError,z_UndefVarError,z_BoundsError,z_AbstractArray,z_Array,z_SubArray,z_AbstractRange,z_UnitRange,z_StepRange,z_Ref,z_Rational] [(.loc 5),(.loc 10),(.loc 15),(.loc 20),(.loc 25),(.loc 30),(.loc 35),(.loc 40),(.loc 45),(.loc 50),(.loc 55),(.loc 60),(.loc 65),(.loc 70),(.loc 75),(.loc 80),(.loc 85),(.loc 90),(.loc 95),(.loc 100),(.loc 105),(.loc 110),(.loc 115),(.loc 120),(.loc 125),(.loc 131),(.loc 136),(.loc 141),(.loc 147),(.loc 153),(.loc 159),(.loc 165),(.loc 171),(.loc 177),(.loc 183),(.loc 189),(.loc 195),(.loc 201),(.loc 206),(.loc 210),(.loc 214),(.loc 219),(.loc 224),(.loc 229),(.loc 234),(.loc 240)]),.gone,(.ns [z_name,z_params,z_super,z_is_abstract,z_is_mutable,z_fields] [(.str z_Any),(.loc 6),.none,(.bool true),(.bool false),(.loc 7)]),(.inst 598 4),(.list 0 []),.gone,.gone,.gone,.gone,.gone,.gone,.gone,.gone,.gone,.gone,.gone,.gone,(.ns [z_name,z_params,z_super,z_is_abstract,z_is_mutable,z_fields] [(.str z_Number),(.loc 21),(.tup [(.str z_name),(.str z_Any),(.tup [])]),(.bool true),(.bool false),(.loc 22)]),(.inst 598 19),(.list 0 []),.gone,.gone,.gone,.gone,.gone,.gone,.gone,(.ns [z_name,z_params,z_super,z_is_abstract,z_is_mutable,z_fields] [(.str z_AbstractString),(.loc 31),(.tup [(.str z_name),(.str z_Any),(.tup [])]),(.bool true),(.bool false),(.loc 32)]),(.inst 598 29),(.list 0 []),.gone,.gone,.gone,.gone,.gone,.gone,.gone,(.ns [z_name,z_params,z_super,z_is_abstract,z_is_mutable,z_fields] [(.str z_Real),(.loc 41),(.tup [(.str z_name),(.str z_Number),(.tup [])]),(.bool true),(.bool false),(.loc 42)]),(.inst 598 39),(.list 0 []),.gone,.gone,(.ns [z_name,z_params,z_super,z_is_abstract,z_is_mutable,z_fields] [(.str z_Integer),(.loc 46),(.tup [(.str z_name),(.str z_Real),(.tup [])]),(.bool true),(.bool false),(.loc 47)]),(.inst 598 44),(.list 0 []),.gone,.gone,(.ns [z_name,z_params,z_super,z_is_abstract,z_is_mutable,z_fields] [(.str z_Signed),(.loc 51),(.tup [(.str z_name),(.str z_Integer),(.tup [])]),(.bool true),(.bool false),(.loc 52)]),(.inst 598 49),(.list 0 []),.gone,.gone,.gone,.gone,.gone,.gone,.gone,.gone,.gone,.gone,.gone,.gone,.gone,.gone,.gone,.gone,.gone,.gone,.gone,.gone,.gone,.gone,(.ns [z_name,z_params,z_super,z_is_abstract,z_is_mutable,z_fields] [(.str z_Int64),(.loc 76),(.tup [(.str z_name),(.str z_Signed),(.tup [])]),(.bool false),(.bool false),(.loc 77)]),(.inst 598 74),(.list 0 []),.gone,.gone,.gone,.gone,.gone,.gone,.gone,.gone,.gone,.gone,.gone,.gone,.gone,.gone,.gone,.gone,.gone,.gone,.gone,.gone,.gone,.gone,.gone,.gone,.gone,.gone,.gone,.gone,.gone,.gone,.gone,.gone,.gone,.gone,.gone,.gone,.gone,(.ns [z_name,z_params,z_super,z_is_abstract,z_is_mutable,z_fields] [(.str z_String),(.loc 116),(.tup [(.str z_name),(.str z_AbstractString),(.tup [])]),(.bool false),(.bool false),(.loc 117)]),(.inst 598 114),(.list 0 []),.gone,.gone,.gone,.gone,.gone,.gone,.gone,.gone,.gone,.gone,.gone,.gone,.gone,.gone,.gone,.gone,.gone,.gone,.gone,.gone,.gone,.gone,.gone,.gone,.gone,.gone,.gone,.gone,.gone,.gone,.gone,.gone,.gone,.gone,.gone,.gone,.gone,.gone,.gone,.gone,.gone,.gone,.gone,.gone,.gone,.gone,.gone,.gone,.gone,.gone,.gone,.gone,.gone,.gone,.gone,.gone,.gone,.gone,.gone,.gone,.gone,.gone,.gone,.gone,.gone,.gone,.gone,.gone,.gone,.gone,.gone,.gone,.gone,.gone,.gone,.gone,.gone,.gone,.gone,.gone,.gone,.gone,.gone,.gone,.gone,.gone,.gone,.gone,.gone,.gone,.gone,.gone,.gone,.gone,.gone,.gone,.gone,.gone,.gone,.gone,.gone,.gone,.gone,.gone,.gone,.gone,.gone,.gone,.gone,.gone,.gone,.gone,.gone,.gone,.gone,.gone,.gone,.gone,.gone,.gone,.gone,.gone,.gone,.gone,.gone,.gone]
noncomputable def FKH : Hs:=[(.ns [z_decls] [(.bs 10)]),(.inst 694 8),(.dict [z_Any,z_Type,z_Function,z_Number,z_AbstractChar,z_AbstractString,z_Exception,z_Real,z_Integer,z_Signed,z_Unsigned,z_Int8,z_Int16,z_Int32,z_Int64,z_BigInt,z_UInt8,z_UInt16,z_UInt32,z_UInt64,z_Bool,z_Char,z_String,z_Symbol,z_Nothing,z_Expr,z_DivideError,z_StackOverflowError,z_ArgumentError,z_OverflowError,z_DimensionMismatch,z_ErrorException,z_MethodError,z_AmbiguousError,z_TypeError,z_InexactError,z_UndefVarError,z_BoundsError,z_AbstractArray,z_Array,z_SubArray,z_AbstractRange,z_UnitRange,z_StepRange,z_Ref,z_Rational] [(.bs 13),(.bs 18),(.bs 23),(.bs 28),(.bs 33),(.bs 38),(.bs 43),(.bs 48),(.bs 53),(.bs 58),(.bs 63),(.bs 68),(.bs 73),(.bs 78),(.bs 83),(.bs 88),(.bs 93),(.bs 98),(.bs 103),(.bs 108),(.bs 113),(.bs 118),(.bs 123),(.bs 128),(.bs 133),(.bs 139),(.bs 144),(.bs 149),(.bs 155),(.bs 161),(.bs 167),(.bs 173),(.bs 179),(.bs 185),(.bs 191),(.bs 197),(.bs 203),(.bs 209),(.bs 214),(.bs 218),(.bs 222),(.bs 227),(.bs 232),(.bs 237),(.bs 242),(.bs 248)]),.gone,(.ns [z_name,z_params,z_super,z_is_abstract,z_is_mutable,z_fields] [(.str z_Any),(.bs 14),.none,(.bool true),(.bool false),(.bs 15)]),(.inst 598 12),(.list 0 []),.gone,.gone,.gone,.gone,.gone,.gone,.gone,.gone,.gone,.gone,.gone,.gone,(.ns [z_name,z_params,z_super,z_is_abstract,z_is_mutable,z_fields] [(.str z_Number),(.bs 29),(.tup [(.str z_name),(.str z_Any),(.tup [])]),(.bool true),(.bool false),(.bs 30)]),(.inst 598 27),(.list 0 []),.gone,.gone,.gone,.gone,.gone,.gone,.gone,(.ns [z_name,z_params,z_super,z_is_abstract,z_is_mutable,z_fields] [(.str z_AbstractString),(.bs 39),(.tup [(.str z_name),(.str z_Any),(.tup [])]),(.bool true),(.bool false),(.bs 40)]),(.inst 598 37),(.list 0 []),.gone,.gone,.gone,.gone,.gone,.gone,.gone,(.ns [z_name,z_params,z_super,z_is_abstract,z_is_mutable,z_fields] [(.str z_Real),(.bs 49),(.tup [(.str z_name),(.str z_Number),(.tup [])]),(.bool true),(.bool false),(.bs 50)]),(.inst 598 47),(.list 0 []),.gone,.gone,(.ns [z_name,z_params,z_super,z_is_abstract,z_is_mutable,z_fields] [(.str z_Integer),(.bs 54),(.tup [(.str z_name),(.str z_Real),(.tup [])]),(.bool true),(.bool false),(.bs 55)]),(.inst 598 52),(.list 0 []),.gone,.gone,(.ns [z_name,z_params,z_super,z_is_abstract,z_is_mutable,z_fields] [(.str z_Signed),(.bs 59),(.tup [(.str z_name),(.str z_Integer),(.tup [])]),(.bool true),(.bool false),(.bs 60)]),(.inst 598 57),(.list 0 []),.gone,.gone,.gone,.gone,.gone,.gone,.gone,.gone,.gone,.gone,.gone,.gone,.gone,.gone,.gone,.gone,.gone,.gone,.gone,.gone,.gone,.gone,(.ns [z_name,z_params,z_super,z_is_abstract,z_is_mutable,z_fields] [(.str z_Int64),(.bs 84),(.tup [(.str z_name),(.str z_Signed),(.tup [])]),(.bool false),(.bool false),(.bs 85)]),(.inst 598 82),(.list 0 []),.gone,.gone,.gone,.gone,.gone,.gone,.gone,.gone,.gone,.gone,.gone,.gone,.gone,.gone,.gone,.gone,.gone,.gone,.gone,.gone,.gone,.gone,.gone,.gone,.gone,.gone,.gone,.gone,.gone,.gone,.gone,.gone,.gone,.gone,.gone,.gone,.gone,(.ns [z_name,z_params,z_super,z_is_abstract,z_is_mutable,z_fields] [(.str z_String),(.bs 124),(.tup [(.str z_name),(.str z_AbstractString),(.tup [])]),(.bool false),(.bool false),(.bs 125)]),(.inst 598 122),(.list 0 []),.gone,.gone,.gone,.gone,.gone,.gone,.gone,.gone,.gone,.gone,.gone,.gone,.gone,.gone,.gone,.gone,.gone,.gone,.gone,.gone,.gone,.gone,.gone,.gone,.gone,.gone,.gone,.gone,.gone,.gone,.gone,.gone,.gone,.gone,.gone,.gone,.gone,.gone,.gone,.gone,.gone,.gone,.gone,.gone,.gone,.gone,.gone,.gone,.gone,.gone,.gone,.gone,.gone,.gone,.gone,.gone,.gone,.gone,.gone,.gone,.gone,.gone,.gone,.gone,.gone,.gone,.gone,.gone,.gone,.gone,.gone,.gone,.gone,.gone,.gone,.gone,.gone,.gone,.gone,.gone,.gone,.gone,.gone,.gone,.gone,.gone,.gone,.gone,.gone,.gone,.gone,.gone,.gone,.gone,.gone,.gone,.gone,.gone,.gone,.gone,.gone,.gone,.gone,.gone,.gone,.gone,.gone,.gone,.gone,.gone,.gone,.gone,.gone,.gone,.gone,.gone,.gone,.gone,.gone,.gone,.gone,.gone,.gone,.gone,.gone,.gone]
noncomputable def goO (x y : AO) : Bool:=match y with | .gone=>true | y=>sO x y
noncomputable def goB (l : Hs) : Hs → Bool:=List.rec (motive:=fun _=>Hs → Bool) (fun b=>l0 b) (fun x _ ih b=>match b with | y :: q=>b2 (goO x y) (ih q) | []=>false) l
theorem goB_ok : ∀ {H1 H2 : Hs},goB H1 H2 = true → H1.length = H2.length ∧ ∀ i o,hget H2 i = some o → o = .gone ∨ hget H1 i = some o
  | [],[],_=>⟨rfl,fun i o e=>(hget_no e).elim⟩
  | x :: r,y :: q,h=>b2_el (show b2 (goO x y) (goB r q) = true from h) fun h1 h2=>by
    obtain ⟨l,g⟩:=goB_ok h2
    refine ⟨congrArg (· + 1) l,fun i o e=>match i,e with
      | i + 1,e=>g i o e
      | 0,e=>?_⟩
    obtain rfl:=Option.some.inj (show some y = some o from e)
    cases y with
    | gone=>exact .inl rfl
    | list _ _=>exact .inr (congrArg some (sO_eq h1))
    | dict _ _=>exact .inr (congrArg some (sO_eq h1))
    | ns _ _=>exact .inr (congrArg some (sO_eq h1))
    | inst _ _=>exact .inr (congrArg some (sO_eq h1))
theorem RelH.gone {c : Cx} {ρ : List Addr} {H H' : Hs} {h : Heap} (R : RelH c ρ H h) (g : goB H H' = true) : RelH c ρ H' h:=by
  obtain ⟨l,g⟩:=goB_ok g
  exact ⟨R.keep,R.len.trans l,R.nodup,R.new,fun i a o ea eo=>(g i o eo).elim (fun q=>q ▸ trivial) fun q=>R.obj i a o ea q⟩
theorem tc_gone {c : Cx} {n : Nat} {f : AV} {as : List AV} {H H1 H2 : Hs} {v : AV} (T : TC c n f as H v H1) (g : goB H1 H2 = true) : TC c n f as H v H2:=fun A ρ s fv vals ak R hf hv=>codeAny_mono (T A ρ s fv vals ak R hf hv) fun r s' p=>match p with
  | .mk u e (.mk ρ' R' V' W')=>.mk u e (.mk ρ' (R'.gone g) V' W')
noncomputable def isG (o : Option (AV × Hs)) (v : AV) (H : Hs) : Bool:=match o with | some (w,H1)=>b2 (sV w v) (goB H1 H) | none=>false
theorem isG_el {o : Option (AV × Hs)} {v : AV} {H : Hs} (h : isG o v H = true) : ∃ H1,o = some (v,H1) ∧ goB H1 H = true:=match o,h with
  | some (w,H1),h=>b2_el (show b2 (sV w v) (goB H1 H) = true from h) fun h1 h2=>⟨H1,by rw [sV_eq _ _ h1],h2⟩
theorem fk_ok : sH (fzH 8 KH) FKH = true:=by kernel_rfl
theorem kst (x : AO) : isG ((run ⟨gl1,F1 ++ [x],fn1,cl1,fun _=>none,fun _ _=>none,fun _ _=>none⟩ 60 30).call (.fn 713) [] []) (.loc 1) KH = true:=by kernel_rfl
noncomputable def FF (x : AO) : Hs:=F1 ++ x :: FKH
structure Wo (c : Cx) (K : Frag) (x : AO) : Prop where
  W : Wd c K
  h : worldB K c.F = true
  bF : ∀ i a o,hget c.F i = some a → hget (FF x) i = some o → ORel c c.B [] c.F o a
  nx : noSyO x = true
noncomputable def noOv : Addr → Option (List AV → Hs → Option (AV × Hs)):=fun _=>none
noncomputable def noKn : Nat → Nat → Option Bool:=fun _ _=>none
noncomputable def noKl : Nat → Str → Option Bool:=fun _ _=>none
noncomputable def Gx (x : AO) : Pg:=⟨gl1,FF x,fn1,cl1,noOv,noKn,noKl⟩
section
variable {c d : Cx} {K : Frag} {x : AO} {D : Nat}
theorem Wo.base (W : Wo c K x) {ov : Addr → Option (List AV → Hs → Option (AV × Hs))} {kn : Nat → Nat → Option Bool} {kl : Nat → Str → Option Bool} (kp : ∀ a,(ov a).isSome = true → keepIn K (.ref a) = true)
    (hov : ∀ a g,ov a = some g → ∀ as H v H',g as H = some (v,H') → TC c D (.fn a) as H v H')
    (hkn : ∀ i j b,kn i j = some b → (c.σ i == c.σ j) = b) (hkl : ∀ i s b,kl i s = some b → (c.σ i == s) = b) : Base c K ⟨gl1,FF x,fn1,cl1,ov,kn,kl⟩ D:=base_of W.W W.h W.bF kp hov hkn hkl
theorem Wo.b0 (W : Wo c K x) : Base c K (Gx x) D:=W.base (fun _ e=>nomatch e) (fun _ _ e=>nomatch e) (fun _ _ _ e=>nomatch e) fun _ _ _ e=>nomatch e
theorem Wo.keepFn (W : Wo c K x) {a : Addr} {f : Fn} (e : fn1 a = some f) : keepIn K (.ref a) = true:=b2_el W.h fun h1 h=>b2_el h fun h2 h=>b2_el (tall_ok h2 e) fun _ z=>z
theorem ds_noSy (σ : Nat → Str) : ∀ v : AV,noSy v = true → ds σ v = v:=
  AV.rec (motive_1:=fun v=>noSy v = true → ds σ v = v) (motive_2:=fun vs=>(noSy (.tup vs) = true → ds σ (.tup vs) = .tup vs) ∧ (noSyL vs = true → dsL σ vs = vs))
    (fun _=>rfl) (fun _=>rfl) (fun _ _=>rfl) (fun _ _=>rfl) (fun _ _=>rfl) (fun _ h=>nomatch h) (fun vs ih=>ih.1) (fun _ _=>rfl) (fun _ _=>rfl) (fun _ _=>rfl) (fun _ _=>rfl)
    ⟨fun _=>rfl,fun _=>rfl⟩ fun v vs i1 i2=>by
      have e1 : noSyL (v :: vs) = true → dsL σ (v :: vs) = v :: vs:=fun h=>b2_el (show b2 (noSy v) (noSyL vs) = true from h) fun h1 h2=>by show ds σ v :: dsL σ vs = _; rw [i1 h1,i2.2 h2]
      have k1 : ∀ vs : List AV,noSy (.tup vs) = noSyL vs:=fun vs=>by
        show (AV.rec_1 (motive_1:=fun _=>Bool) (motive_2:=fun _=>Bool) true true (fun _=>true) (fun _=>true) (fun _=>true) (fun _=>false) (fun _ r=>r) (fun _=>true) (fun _=>true) (fun _=>true) (fun _=>true) true (fun _ _ a b=>b2 a b) vs : Bool) = _
        induction vs with
        | nil=>rfl
        | cons v vs ih=>exact congrArg (b2 (noSy v)) ih
      have k2 : ∀ vs : List AV,ds σ (.tup vs) = .tup (dsL σ vs):=fun vs=>by
        show AV.tup _ = _
        congr 1
        induction vs with
        | nil=>rfl
        | cons v vs ih=>exact congrArg (ds σ v :: ·) ih
      exact ⟨fun h=>by rw [k1] at h; rw [k2,e1 h],e1⟩
theorem ds_noSyL (σ : Nat → Str) : ∀ {l : List AV},noSyL l = true → dsL σ l = l
  | [],_=>rfl
  | v :: l,h=>b2_el (show b2 (noSy v) (noSyL l) = true from h) fun h1 h2=>by show ds σ v :: dsL σ l = _; rw [ds_noSy σ v h1,ds_noSyL σ h2]
theorem ds_noSyO (σ : Nat → Str) {o : AO} (h : noSyO o = true) : dsO σ o = o:=match o,h with
  | .list n r,h=>congrArg (AO.list n) (ds_noSyL σ h)
  | .dict ks r,h=>congrArg (AO.dict ks) (ds_noSyL σ h)
  | .ns ks r,h=>congrArg (AO.ns ks) (ds_noSyL σ h)
  | .inst _ _,_=>rfl
  | .gone,_=>rfl
theorem noSyH_get : ∀ {H : Hs} {i : Nat} {x : AO},noSyH H = true → hget H i = some x → noSyO x = true
  | y :: H,0,x,h,e=>b2_el (show b2 (noSyO y) (noSyH H) = true from h) fun h1 h2=>(Option.some.inj (show some y = some x from e)) ▸ h1
  | y :: H,i + 1,x,h,e=>b2_el (show b2 (noSyO y) (noSyH H) = true from h) fun h1 h2=>noSyH_get (H:=H) h2 e
theorem noSyH_app : ∀ {a b : Hs},noSyH a = true → noSyH b = true → noSyH (a ++ b) = true
  | [],b,_,h=>h
  | y :: a,b,h,k=>b2_el (show b2 (noSyO y) (noSyH a) = true from h) fun h1 h2=>by show b2 (noSyO y) (noSyH (a ++ b)) = true; rw [h1]; exact noSyH_app h2 k
theorem ff_noSy (h : noSyO x = true) : noSyH (FF x) = true:=noSyH_app (by kernel_rfl) (by show b2 (noSyO x) (noSyH FKH) = true; rw [h]; kernel_rfl)
theorem Wo.to (W : Wo c K x) (E : CxE c d) : Wo d K x:=⟨⟨E.B ▸ W.W.kin,E.B ▸ W.W.g,E.B ▸ W.W.b,E.B ▸ W.W.lim,E.B ▸ W.W.sm,E.w ▸ W.W.dct⟩,E.F ▸ W.h,fun i a o ei eo=>by
  have:=(ds_O E).mp (W.bF i a o (E.F ▸ ei) eo)
  rw [ds_noSyO c.σ (noSyH_get (ff_noSy W.nx) eo)] at this
  rw [← E.B,← E.F]
  exact this,W.nx⟩
end
noncomputable def nm (d : Nat) : Str:=match d with | 0=>z_Int64 | 1=>z_Integer | 2=>z_Real | 3=>z_Any | _=>z_String
noncomputable def sub (d e : Nat) : Bool:=match d with | 0=>Nat.ble e 3 | 1=>Nat.ble e 3 && Nat.ble 1 e | 2=>Nat.ble e 3 && Nat.ble 2 e | 3=>Nat.beq e 3 | _=>Nat.ble 3 e
noncomputable def nkv (s : AV) : AV:=.tup [.str z_name,s,.tup []]
noncomputable def nk (d : Nat) : AV:=nkv (.str (nm d))
noncomputable def gl (a b : AV) : AV:=.tup [.str z_sub,a,b]
noncomputable def locN (v : AV) : Nat:=match v with | .loc m=>m | _=>0
noncomputable def vres (N : Nat) (o : Option (AV × Hs)) (ιf : Nat → List Nat) (fs : List Bool) : Option (AV × Hs):=bnd o fun v H1=>grd (preB N (ιf (locN v)) 0) (bn1 (view (ιf (locN v)) fs anyO H1) fun H2=>some (sb (ιf (locN v)) anyO v,H2))
theorem bnd_el {α β γ : Type} {o : Option (α × β)} {k : α → β → Option γ} {y : γ} (h : bnd o k = some y) {C : Prop} (K : ∀ a b,o = some (a,b) → k a b = some y → C) : C:=match o,h,K with | some (a,b),h,K=>K a b rfl h
theorem vres_el {N : Nat} {o : Option (AV × Hs)} {ιf : Nat → List Nat} {fs : List Bool} {v : AV} {H : Hs} (h : vres N o ιf fs = some (v,H)) : ∃ w H1 m,o = some (w,H1) ∧ preB N (ιf m) 0 = true ∧ view (ιf m) fs anyO H1 = some H ∧ sb (ιf m) anyO w = v:=bnd_el h fun w H1 e h=>grd_el h fun h1 h=>bn1_el h fun H2 h2 h=>by cases h; exact ⟨_,H1,locN w,e,h1,h2,rfl⟩
theorem tc_vres {c : Cx} {G : Pg} {K : Frag} {D n lf k : Nat} {a : Addr} {as : List AV} {H H' : Hs} {v : AV} {ιf : Nat → List Nat} {fs : List Bool} (Bs : Base c K G D) (h : vres (hlen H) ((run G lf k).call (.fn a) as H) ιf fs = some (v,H')) : TC c (k + D) (.fn a) as H v H':=by
  obtain ⟨w,H1,m,e,h1,h2,h3⟩:=vres_el h
  exact h3 ▸ tc_view (sound Bs e) h1 h2
noncomputable def SeO (n : Nat) (k : Addr) : AO:=.ns [z_kinds,z_fuel,z_known] [.bs 9,.int (.ofNat n),.fn k]
noncomputable def SiO (r : AV) (j : Nat) : AO:=.ns [z_rows,z_many] [r,.int (.ofNat j)]
noncomputable def H4 (n : Nat) (k r : Addr) (j : Nat) : Hs:=[SeO n k,.inst 439 0,SiO (.fn r) j,.inst 263 2]
noncomputable def stNN (x : AO) (n : Nat) (k r : Addr) (j : Nat) (p : Nat × Nat) : Option (AV × Hs):=vres 4 ((run (Gx x) 60 20).call (.fn 359) [.loc 1,gl (nk p.1) (nk p.2),.loc 3] (H4 n k r j)) (fun m=>match sub p.1 p.2 with | true=>[0,1,2,3,m - 1,m] | false=>[0,1,2,3,m]) []
noncomputable def stNNe (n : Nat) (k r : Addr) (j : Nat) (p : Nat × Nat) : Option (AV × Hs):=match sub p.1 p.2 with
  | true=>some (.loc 5,[SeO n k,.inst 439 0,SiO (.fn r) j,.inst 263 2,.list 0 [],.list 1 [.loc 4]])
  | false=>some (.loc 4,[SeO n k,.inst 439 0,SiO (.fn r) j,.inst 263 2,.list 0 []])
noncomputable def pairs5 : List (Nat × Nat):=[(0,0),(0,1),(0,2),(0,3),(0,4),(1,0),(1,1),(1,2),(1,3),(1,4),(2,0),(2,1),(2,2),(2,3),(2,4),(3,0),(3,1),(3,2),(3,3),(3,4),(4,0),(4,1),(4,2),(4,3),(4,4)]
theorem stNN_all (x : AO) (n : Nat) (k r : Addr) (j : Nat) : pairs5.map (stNN x n k r j) = pairs5.map (stNNe n k r j):=by kernel_rfl
section
variable {c : Cx} {G : Pg} {K : Frag} {D n m k p : Nat} {kd : Kd} {V V' V1 V2 : Vs} {ρ ρ' ρ0 : List Addr} {H H' H1 H2 H3 : Hs} {A : Around} {env : Env} {s s' s0 s1 : Shared} {fl fl' : Fl} {f : Flow} {e : Expr} {b : List Stmt} {v : AV} {t : Stmt} {ts ts' : List Stmt} {R : Rec} {cs cs' : List CS} {cc : CS} {ι : List Nat} {fs : List Bool} {xs : List Str}
def Wk (c : Cx) (kd : Kd) (p : Nat) (fl : Fl) (V : Vs) (H : Hs) (fl' : Fl) (V' : Vs) (H' : Hs) : Prop:=∀ (env : Env) (ρ0 : List Addr) (s0 : Shared) (f : Flow) (s' : Shared),ρ0.length = p → PS c env kd ρ0 s0 fl V H f s' → PS c env kd ρ0 s0 fl' V' H' f s'
theorem Wk.refl : Wk c kd p fl V H fl V H:=fun _ _ _ _ _ _ q=>q
theorem Wk.trans {fl1 : Fl} (a : Wk c kd p fl V H fl1 V1 H1) (b : Wk c kd p fl1 V1 H1 fl' V' H') : Wk c kd p fl V H fl' V' H':=fun _ _ _ _ _ hp q=>b _ _ _ _ _ hp (a _ _ _ _ _ hp q)
theorem wk_view (xs : List Str) (hp : preB p ι 0 = true) (hv : view ι fs anyO H = some H') : Wk c kd p fl V H (sbF ι anyO fl) (vwV ι anyO V xs) H':=fun env ρ0 s0 f s' hl q=>q.view (by rw [hl]; exact hp) hv
theorem wk_bound {i m m' : Nat} {r : List AV} (h : hget H i = some (.list m r)) (hr : r.length ≤ m') : Wk c kd p fl V H fl V (setN H i (.list m' r)):=fun env ρ0 s0 f s' hl q=>match q with
  | .mk ρ' R RV F S M=>.mk ρ' ⟨R.keep,by rw [setN_len]; exact R.len,R.nodup,R.new,fun j a o ea eo=>(setN_get eo).elim (fun z=>by
      obtain ⟨rfl,rfl⟩:=z
      exact match R.obj i a _ ea h with | .mk us _ h2 h3=>.mk us hr h2 h3) fun z=>R.obj j a o ea z.2⟩ RV F S M
theorem tss_wk (T : TSs c n kd ts V H fl V1 H1) (w : Wk c kd (hlen H) fl V1 H1 fl' V' H') : TSs c n kd ts V H fl' V' H':=fun A env ρ s X=>go (T A env ρ s X) fun f s' q=>w env ρ s f s' (by rw [X.R.len,← hlen_eq]) q
inductive LR (c : Cx) (n : Nat) (kd : Kd) (e : Expr) (b : List Stmt) (p : Nat) : Vs → Hs → Fl → Vs → Hs → Prop
  | fin {V : Vs} {H H1 : Hs} (t : TT c n kd e V H false H1) : LR c n kd e b p V H .next V H1
  | ret {V V1 : Vs} {H H1 H2 : Hs} {v : AV} (t : TT c n kd e V H true H1) (T : TSs c n kd b V H1 (.ret v) V1 H2) : LR c n kd e b p V H (.ret v) V1 H2
  | nxt {V V1 V2 V' : Vs} {H H1 H2 H3 H' : Hs} {fl : Fl} (t : TT c n kd e V H true H1) (T : TSs c n kd b V H1 .next V1 H2) (w : Wk c kd p .next V1 H2 .next V2 H3) (r : LR c n kd e b p V2 H3 fl V' H') : LR c n kd e b p V H fl V' H'
  | post {V V1 V' : Vs} {H H1 H' : Hs} {fl fl' : Fl} (r : LR c n kd e b p V H fl V1 H1) (w : Wk c kd p fl V1 H1 fl' V' H') : LR c n kd e b p V H fl' V' H'
theorem lr_go (r : LR c n kd e b p V H fl V' H') : ∀ (A : Around) (env : Env) (ρ0 : List Addr) (s0 s : Shared),AOk A n → ρ0.length = p → PS c env kd ρ0 s0 .next V H .next s → codeAny (model c.prog c.w) A (.whileLoop e b [] env) (PL c env kd ρ0 s0 fl V' H') s:=by
  induction r with
  | fin t=>
    intro A env ρ0 s0 s ak hp q
    obtain ⟨ρ',R,RV,F,S,M⟩:=q
    exact while_turn (M:=model c.prog c.w) (t.go ⟨ak,R,RV⟩ fun ρ1 s1 X1 W1=>.mk _ rfl (.mk ρ1 X1.R X1.RV rfl (S.trans W1.S.noX) (M.trans W1.M)))
  | ret t T=>
    intro A env ρ0 s0 s ak hp q
    obtain ⟨ρ',R,RV,F,S,M⟩:=q
    exact while_turn (M:=model c.prog c.w) (t.go ⟨ak,R,RV⟩ fun ρ1 s1 X1 W1=>go (T A env ρ1 s1 X1) fun fw s2 q=>by
      obtain ⟨ρ2,R2,RV2,F2,S2,M2⟩:=q
      obtain ⟨u,hu⟩:=F2
      exact .mk _ rfl (.mk ρ2 R2 RV2 (.mk u hu) ((S.trans W1.S.noX).trans S2) ((M.trans W1.M).trans M2)))
  | nxt t T w r ih=>
    intro A env ρ0 s0 s ak hp q
    obtain ⟨ρ',R,RV,F,S,M⟩:=q
    refine while_turn (M:=model c.prog c.w) (t.go ⟨ak,R,RV⟩ fun ρ1 s1 X1 W1=>go (T A env ρ1 s1 X1) fun fw s2 q=>?_)
    obtain ⟨ρ2,R2,RV2,F2,S2,M2⟩:=q
    obtain rfl : fw = .next:=F2
    exact ih A env ρ0 s0 s2 ak hp (w env ρ0 s0 .next s2 hp (.mk ρ2 R2 RV2 rfl ((S.trans W1.S.noX).trans S2) ((M.trans W1.M).trans M2)))
  | post r w ih=>
    intro A env ρ0 s0 s ak hp q
    exact codeAny_mono (ih A env ρ0 s0 s ak hp q) fun r s' p=>match p with | .mk f e q=>.mk f e (w env ρ0 s0 f s' hp q)
theorem okSL_eq (G : Pg) : ∀ (l : List CS) (kd : Kd) (ts : List Stmt),okSL G l kd ts = okSs G l kd ts
  | [],kd,ts=>rfl
  | cc :: l,kd,[]=>rfl
  | cc :: l,kd,t :: ts=>congrArg (b2 (okS G cc kd t)) (okSL_eq G l kd ts)
theorem oks_cons {M : List Stmt → Prop} (h : okSs G (cc :: cs) kd ts = true) (k : ∀ t ts',okS G cc kd t = true → okSs G cs kd ts' = true → M (t :: ts')) : M ts:=match ts,h with
  | t :: ts',h=>b2_el (show b2 (okS G cc kd t) (okSs G cs kd ts') = true from h) fun h1 h2=>k t ts' h1 h2
theorem oks_nil {M : List Stmt → Prop} (h : okSs G [] kd ts = true) (k : M []) : M ts:=l0_el (M:=M) (show l0 ts = true from h) k
theorem oks_whl {ce : CE} {M : Stmt → Prop} (h : okS G (.whl ce cs) kd t = true) (k : ∀ e b pos,okE G ce kd e = true → okSs G cs kd b = true → M (.While e b [] pos)) : M t:=
  sWhile_el (M:=M) (show sWhile t (fun t x z _=>b2 (l0 z) (b2 (okE G ce kd t) (okSL G cs kd x))) = true from h) fun t x z p h=>b2_el h fun h0 h=>b2_el h fun h1 h2=>l0_el (M:=fun z=>M (.While t x z p)) h0 (k t x p h1 (okSL_eq G cs kd x ▸ h2))
theorem ts_run (Bs : Base c K G D) (CO : CaOk c K n R.call) (ok : okS G cc kd t = true) (h : exD G R cc V H = some (fl,V',H')) : TS c n kd t V H fl V' H':=ex_ok Bs (ev_ok Bs CO) cc kd t V H ok _ h
theorem tss_run (Bs : Base c K G D) (CO : CaOk c K n R.call) (ok : okSs G cs kd ts = true) (h : exDs G R cs V H = some (fl,V',H')) : TSs c n kd ts V H fl V' H':=xok Bs CO cs kd ts V H ok _ h
theorem tt_run {ce : CE} {x : Bool} (Bs : Base c K G D) (CO : CaOk c K n R.call) (ok : okE G ce kd e = true) (h : evD G R ce V H = some (.bool x,H')) : TT c n kd e V H x H':=tt_of (ev_ok Bs CO ce kd e V H ok _ h)
open Classical in
noncomputable def one (call : AV → List AV → Hs → Option (AV × Hs)) (a : Addr) (as : List AV) (H : Hs) (r : AV × Hs) : AV → List AV → Hs → Option (AV × Hs):=fun f as' H'=>if f = .fn a ∧ as' = as ∧ H' = H then some r else call f as' H'
theorem one_at {call : AV → List AV → Hs → Option (AV × Hs)} {a : Addr} {as : List AV} {H : Hs} {r : AV × Hs} : one call a as H r (.fn a) as H = some r:=if_pos ⟨rfl,rfl,rfl⟩
theorem one_ok {call : AV → List AV → Hs → Option (AV × Hs)} {a : Addr} {as : List AV} {H : Hs} {r : AV × Hs} (CO : CaOk c K n call) (hk : keepIn K (.ref a) = true) (T : TC c n (.fn a) as H r.1 r.2) : CaOk c K n (one call a as H r):=fun f as' H' q e=>by
  unfold one at e
  split at e
  · rename_i z
    obtain ⟨rfl,rfl,rfl⟩:=z
    obtain rfl:=Option.some.inj e
    exact .fn a rfl hk T
  · exact CO f as' H' q e
end
noncomputable def z_T21 : Str:=⟨#[84,46,50,33,49]⟩
noncomputable def vT1 : AV:=.tup [.str z_var,.str z_T21]
noncomputable def upv (up : Bool) : List AV:=match up with | true=>[nk 1] | false=>[]
noncomputable def SdO (lo : List AV) (up dg : Bool) : AO:=.ns [z_is_asked,z_order,z_lowers,z_uppers,z_is_diagonal,z_floor] [.bool true,.int (.ofNat 1),.tup lo,.tup (upv up),.bool dg,.tup [.str z_bottom]]
noncomputable def H7 (n : Nat) (k : Addr) (j : Nat) (lo : List AV) (up dg : Bool) : Hs:=[SeO n k,.inst 439 0,SiO (.loc 4) j,.inst 263 2,.dict [z_T21] [.loc 6],SdO lo up dg,.inst 187 5]
noncomputable def knT (l : List Bool) : Nat → Nat → Option Bool:=fun i j=>match j with | 0=>(match i with | 0=>none | i + 1=>hget l i) | _=>none
noncomputable def Gk (x : AO) (kn : Nat → Nat → Option Bool) : Pg:=⟨gl1,FF x,fn1,cl1,noOv,kn,noKl⟩
noncomputable def syms (l : List Bool) : List AV:=match l with | []=>[] | [_]=>[nkv (.sym 1)] | _=>[nkv (.sym 1),nkv (.sym 2)]
noncomputable def hit (l : List Bool) : Bool:=match l with | []=>false | [a]=>a | a :: b :: _=>a || b
noncomputable def stNT (x : AO) (n : Nat) (k : Addr) (j : Nat) (dg : Bool) (p : List Bool × Bool) : Option (AV × Hs):=vres 7 ((run (Gk x (knT p.1)) 60 20).call (.fn 359) [.loc 1,gl (nkv (.sym 0)) vT1,.loc 3] (H7 n k j (syms p.1) p.2 dg)) (fun m=>match hit p.1 with | true=>[0,1,2,3,4,5,6,m - 1,m] | false=>[0,1,2,3,4,5,6,7,8,m - 1,m]) []
noncomputable def stNTh (n : Nat) (k : Addr) (j : Nat) (dg : Bool) (lo : List AV) (up : Bool) : Option (AV × Hs):=some (.loc 8,[SeO n k,.inst 439 0,SiO (.loc 4) j,.inst 263 2,.dict [z_T21] [.loc 6],SdO lo up dg,.inst 187 5,.list 0 [],.list 1 [.loc 7]])
noncomputable def upg (s : AV) (up : Bool) : AO:=match up with | true=>.list 1 [gl s (nk 1)] | false=>.list 0 []
noncomputable def stNTn (n : Nat) (k : Addr) (j : Nat) (dg : Bool) (s : AV) (lo : List AV) (up : Bool) : Option (AV × Hs):=some (.loc 10,[SeO n k,.inst 439 0,SiO (.loc 4) j,.inst 263 2,.dict [z_T21] [.loc 8],SdO lo up dg,.inst 187 5,SdO (lo ++ [s]) up dg,.inst 187 7,upg s up,.list 1 [.loc 9]])
noncomputable def stNTe (n : Nat) (k : Addr) (j : Nat) (dg : Bool) (p : List Bool × Bool) : Option (AV × Hs):=match hit p.1 with
  | true=>stNTh n k j dg (syms p.1) p.2
  | false=>stNTn n k j dg (nkv (.sym 0)) (syms p.1) p.2
noncomputable def cases12 : List (List Bool × Bool):=[([],false),([],true),([false],false),([false],true),([true],false),([true],true),([false,false],false),([false,false],true),([true,false],false),([true,false],true),([false,true],false),([false,true],true),([true,true],false),([true,true],true)]
theorem stNT_all (x : AO) (n : Nat) (k : Addr) (j : Nat) (dg : Bool) : cases12.map (stNT x n k j dg) = cases12.map (stNTe n k j dg):=by kernel_rfl
noncomputable def skB (x : AO) (p : Nat × Nat) : Option (AV × Hs):=match Nat.beq p.1 p.2 with | true=>some (.bool false,[]) | false=>(run (Gx x) 60 20).call (.fn 503) [.bs 9,nk p.1,nk p.2] []
theorem sk_all (x : AO) : pairs5.map (skB x) = pairs5.map (fun _=>some (.bool false,[])):=by kernel_rfl
noncomputable def gSk (as : List AV) (H : Hs) : Option (AV × Hs):=match sVs as [.bs 9,nkv (.sym 0),nkv (.sym 1)] with | true=>some (.bool false,H) | false=>none
noncomputable def ovSk : Addr → Option (List AV → Hs → Option (AV × Hs)):=fun a=>iff (Nat.beq a 503) (some gSk) none
noncomputable def kn2 : Nat → Nat → Option Bool:=fun i j=>match i,j with | 0,1=>some false | 1,0=>some false | _,_=>none
noncomputable def Gc (x : AO) : Pg:=⟨gl1,FF x,fn1,cl1,ovSk,kn2,noKl⟩
noncomputable def id7 : Nat → List Nat:=fun _=>[0,1,2,3,4,5,6]
noncomputable def symN (l : Nat) : List AV:=match l with | 0=>[] | 1=>[nkv (.sym 0)] | 2=>[nkv (.sym 0),nkv (.sym 1)] | _=>[nkv (.sym 0),nkv (.sym 1),nkv (.sym 2)]
noncomputable def arF (x : AO) (n : Nat) (k : Addr) (j : Nat) (p : Nat × Bool × Bool) : Option (AV × Hs):=vres 7 ((run (Gc x) 60 20).call (.fn 410) [.loc 1,.loc 3] (H7 n k j (symN p.1) p.2.1 p.2.2)) id7 []
noncomputable def arFe (n : Nat) (k : Addr) (j : Nat) (p : Nat × Bool × Bool) : Option (AV × Hs):=some (.bool (!p.2.2 || Nat.beq p.1 0),H7 n k j (symN p.1) p.2.1 p.2.2)
noncomputable def casesA : List (Nat × Bool × Bool):=[(0,false,false),(0,true,false),(0,false,true),(0,true,true),(1,false,false),(1,true,false),(2,false,false),(2,true,false),(3,false,false),(3,true,false),(2,false,true),(2,true,true),(3,false,true),(3,true,true)]
theorem arF_all (x : AO) (n : Nat) (k : Addr) (j : Nat) : casesA.map (arF x n k j) = casesA.map (arFe n k j):=by kernel_rfl
noncomputable def leafB (d : Nat) : Bool:=match d with | 0=>true | 1=>false | 2=>false | 3=>false | _=>true
noncomputable def ar1 (x : AO) (n : Nat) (k : Addr) (j : Nat) (p : Nat × Bool) : Option (AV × Hs):=vres 7 ((run (Gx x) 60 20).call (.fn 410) [.loc 1,.loc 3] (H7 n k j [nk p.1] p.2 true)) id7 []
noncomputable def ar1e (n : Nat) (k : Addr) (j : Nat) (p : Nat × Bool) : Option (AV × Hs):=some (.bool (leafB p.1),H7 n k j [nk p.1] p.2 true)
noncomputable def cases1 : List (Nat × Bool):=[(0,false),(0,true),(1,false),(1,true),(2,false),(2,true),(3,false),(3,true),(4,false),(4,true)]
theorem ar1_all (x : AO) (n : Nat) (k : Addr) (j : Nat) : cases1.map (ar1 x n k j) = cases1.map (ar1e n k j):=by kernel_rfl
noncomputable def ar0 (x : AO) (n : Nat) (k : Addr) (j : Nat) : Option (AV × Hs):=vres 5 ((run (Gx x) 60 20).call (.fn 410) [.loc 1,.loc 3] [SeO n k,.inst 439 0,SiO (.loc 4) j,.inst 263 2,.dict [] []]) (fun _=>[0,1,2,3,4]) []
theorem ar0_eq (x : AO) (n : Nat) (k : Addr) (j : Nat) : ar0 x n k j = some (.bool true,[SeO n k,.inst 439 0,SiO (.loc 4) j,.inst 263 2,.dict [] []]):=by kernel_rfl
noncomputable def backAll (ι : List Nat) (N : Nat) (H : Hs) (l : List Nat) : Bool:=List.rec (motive:=fun _=>Bool) true (fun j _ ih=>b2 (match hget H j with | some x=>backO ι N x | none=>true) ih) l
theorem backAll_ok {ι : List Nat} {N : Nat} {H : Hs} : ∀ {l : List Nat},backAll ι N H l = true → ∀ j x,j ∈ l → hget H j = some x → backO ι N x = true
  | k :: l,h,j,x,m,e=>b2_el (show b2 (match hget H k with | some x=>backO ι N x | none=>true) (backAll ι N H l) = true from h) fun h1 h2=>(List.mem_cons.mp m).elim (fun q=>by subst q; rw [e] at h1; exact h1) fun m=>backAll_ok h2 j x m e
section
variable {c : Cx} {K : Frag} {x : AO} {D n m : Nat} {a : Addr} {as as0 : List AV} {H H' T : Hs} {v v0 : AV} {ι κ : List Nat}
theorem tc_fr {H0 H0' : (Nat → Addr) → Hs} {as0 : (Nat → Addr) → List AV} (len : hlen H' = hlen H + hlen (κ.map fun _=>.gone)) (new : ∀ i j,hget κ i = some j → j = hlen H + i) (back : backAll (ι ++ κ) (hlen H') H' (ι ++ κ) = true) (low : low (hlen H') v = true)
    (fr : ∀ j x,j < hlen H → pos ι j = none → hget H' j = some x → hget H j = some x)
    (ea : ∀ α,sbL ι (outA α) as = as0 α) (eH : ∀ α,view ι [] (outA α) H = some (H0 α)) (eH' : ∀ α,view (ι ++ κ) [] (outA α) H' = some (H0' α)) (ev : ∀ α,sb (ι ++ κ) (outA α) v = v0)
    (T : ∀ α,TC c n (.fn a) (as0 α) (H0 α) v0 (H0' α)) : TC c n (.fn a) as H v H':=by
  rw [hlen_eq,hlen_eq,hlen_eq,List.length_map] at len
  exact tc_frame ⟨len,fun i j e=>by rw [new i j e,hlen_eq],fun j x m e=>backAll_ok (by rw [← hlen_eq]; exact back) j x m e,by rw [← hlen_eq]; exact low,fun j x hj hp e=>fr j x (by rw [hlen_eq]; exact hj) hp e⟩ fun α=>.mk (H0 α) (H0' α) (eH α) (eH' α) (by rw [ea,ev]; exact T α)
theorem tc_frA {H0 H0' : (Nat → Addr) → Hs} {as0 : (Nat → Addr) → List AV} (len : hlen T = hlen (κ.map fun _=>.gone)) (new : ∀ i j,hget κ i = some j → j = hlen H + i) (back : backAll (ι ++ κ) (hlen (H ++ T)) (H ++ T) (ι ++ κ) = true) (low : low (hlen (H ++ T)) v = true)
    (ea : ∀ α,sbL ι (outA α) as = as0 α) (eH : ∀ α,view ι [] (outA α) H = some (H0 α)) (eH' : ∀ α,view (ι ++ κ) [] (outA α) (H ++ T) = some (H0' α)) (ev : ∀ α,sb (ι ++ κ) (outA α) v = v0)
    (Tc : ∀ α,TC c n (.fn a) (as0 α) (H0 α) v0 (H0' α)) : TC c n (.fn a) as H v (H ++ T):=
  tc_fr (by rw [hlen_eq,List.length_append,← hlen_eq,← hlen_eq,len]) new back low (fun j x hj _ e=>hget_old e (by rw [← hlen_eq]; exact hj)) ea eH eH' ev Tc
end
noncomputable def ce345 : CE:=.cmp .NotEq (.var z_left) (.lst [])
noncomputable def s345a : List CS:=[.asg (.attr (.var z_self) z_fuel) (.bin .Sub (.attr (.var z_self) z_fuel) (.con (.int (.ofNat 1)))),.asg (.nm z_goal) (.meth (.var z_left) z_pop [])]
noncomputable def s345b : CS:=.asg (.nm z_ways) (.ite (.cmp .GtE (.attr (.var z_self) z_fuel) (.con (.int (.ofNat 0)))) (.meth (.var z_self) z_step [(.var z_goal),(.var z_sides)]) (.lst []))
noncomputable def s345c : List CS:=[.ite (.andl [(.cmp .Gt (.call (.gv 2) [(.var z_ways)]) (.con (.int (.ofNat 1)))),(.nt (.meth (.var z_sides) z_has_asked [(.drop1 (.var z_goal))]))]) [.asg (.nm z_ways) (.ite (.meth (.var z_self) z_holds [(.var z_goal),(.var z_ways),(.var z_sides)]) (.lst [(.lst [])]) (.lst []))] [],.ite (.cmp .Eq (.var z_ways) (.lst [])) [.ret (.con .none)] [],.for 0 (.nm z_way) [(.cut0r (.var z_ways))] [.ex (.meth (.var z_waiting) z_append [(.tup [(.bin .Add (.var z_left) (.var z_way)),(.meth (.var z_sides) z_copied [])])])],.ex (.meth (.var z_left) z_extend [(.sub (.var z_ways) (.con (.int (.ofNat 0))))])]
noncomputable def s345r : CS:=.ret (.ite (.meth (.var z_self) z_are_concrete [(.var z_sides)]) (.var z_sides) (.con .none))
noncomputable def b345 : List CS:=s345a ++ s345b :: s345c
theorem f345_bd : f_345.bd = [.whl ce345 b345,s345r]:=rfl
noncomputable def Vh : Vs:=[(z_self,.loc 1),(z_left,.loc 5),(z_sides,.loc 3)]
noncomputable def Hn (n : Nat) (k : Addr) (j : Nat) (r : List AV) : Hs:=[SeO n k,.inst 439 0,SiO (.loc 4) j,.inst 263 2,.dict [] [],.list 30 r]
noncomputable def Hv (n : Nat) (k : Addr) (j : Nat) (lo : List AV) (up dg : Bool) (r : List AV) : Hs:=[SeO n k,.inst 439 0,SiO (.loc 4) j,.inst 263 2,.dict [z_T21] [.loc 7],.list 30 r,SdO lo up dg,.inst 187 6]
section
variable {c : Cx} {K : Frag} {x : AO} {N n j : Nat} {k : Addr} {g : AV} {r lo : List AV} {up dg : Bool} {e : Expr} {b : List Stmt} {V' : Vs} {H H1 H2 H' : Hs} {fl : Fl} {p : AV × Hs}
theorem r1_ok (W : Wo c K x) : CaOk c K (N + 1) (run (Gx x) 60 1).call:=by
  have:=run_ok (W.b0 (D:=N)) 60 1
  rw [Nat.add_comm 1 N] at this
  exact this
theorem turn (W : Wo c K x) (hb : okSs (Gx x) b345 f_345.kd b = true) {Ha Hb : Hs} {va : AV} {vr : AV × Hs} {V1 : Vs} (ea : exDs (Gx x) (run (Gx x) 60 1) s345a Vh H = some (.next,V1,H1))
    (eb : ∀ call : AV → List AV → Hs → Option (AV × Hs),exD (Gx x) ⟨call,60⟩ s345b V1 H1 = bnd (call (.fn 359) [.loc 1,g,.loc 3] H1) fun v H=>nxt (put V1 z_ways v) H)
    (T : TC c (N + 1) (.fn 359) [.loc 1,g,.loc 3] H1 vr.1 vr.2) (ec : exDs (Gx x) (run (Gx x) 60 1) s345c (put V1 z_ways vr.1) vr.2 = some (fl,V',H')) : TSs c (N + 1) f_345.kd b Vh H fl V' H':=by
  have CO:=r1_ok (N:=N) W
  have B0:=W.b0 (D:=0)
  refine oks_cons (M:=fun b=>TSs c (N + 1) f_345.kd b Vh H fl V' H') hb fun t1 b h1 hb=>oks_cons (M:=fun b=>TSs c (N + 1) f_345.kd (t1 :: b) Vh H fl V' H') hb fun t2 b h2 hb=>oks_cons (M:=fun b=>TSs c (N + 1) f_345.kd (t1 :: t2 :: b) Vh H fl V' H') hb fun t3 b h3 hb=>?_
  have key : exDs (Gx x) (run (Gx x) 60 1) s345a Vh H = bn3 (exD (Gx x) (run (Gx x) 60 1) (.asg (.attr (.var z_self) z_fuel) (.bin .Sub (.attr (.var z_self) z_fuel) (.con (.int (.ofNat 1))))) Vh H) (fun V H=>bn3 (exD (Gx x) (run (Gx x) 60 1) (.asg (.nm z_goal) (.meth (.var z_left) z_pop [])) V H) nxt rtn) rtn:=rfl
  rw [key] at ea
  obtain ⟨Va,Hc,e1,e2⟩ : ∃ Va Hc,exD (Gx x) (run (Gx x) 60 1) (.asg (.attr (.var z_self) z_fuel) (.bin .Sub (.attr (.var z_self) z_fuel) (.con (.int (.ofNat 1))))) Vh H = some (.next,Va,Hc) ∧ exD (Gx x) (run (Gx x) 60 1) (.asg (.nm z_goal) (.meth (.var z_left) z_pop [])) Va Hc = some (.next,V1,H1):=by
    cases q : exD (Gx x) (run (Gx x) 60 1) (.asg (.attr (.var z_self) z_fuel) (.bin .Sub (.attr (.var z_self) z_fuel) (.con (.int (.ofNat 1))))) Vh H with
    | none=>rw [q] at ea; cases ea
    | some z=>
      obtain ⟨f,V,H⟩:=z
      rw [q] at ea
      cases f with
      | ret v=>cases ea
      | next=>
        refine ⟨V,H,rfl,?_⟩
        have ea : bn3 (exD (Gx x) (run (Gx x) 60 1) (.asg (.nm z_goal) (.meth (.var z_left) z_pop [])) V H) nxt rtn = some (.next,V1,H1):=ea
        cases q : exD (Gx x) (run (Gx x) 60 1) (.asg (.nm z_goal) (.meth (.var z_left) z_pop [])) V H with
        | none=>rw [q] at ea; cases ea
        | some z=>
          obtain ⟨f,V,H⟩:=z
          rw [q] at ea
          cases f with
          | ret v=>cases ea
          | next=>exact ea
  refine tss_next (ts_run B0 CO h1 e1) (tss_next (ts_run B0 CO h2 e2) (tss_next ?_ (tss_run B0 CO hb ec)))
  have C1:=one_ok CO (W.keepFn (a:=359) (f:=f_359) rfl) T
  exact ts_run (R:=⟨_,60⟩) B0 C1 h3 ((eb _).trans (congrArg (fun o=>bnd o fun v H=>nxt (put V1 z_ways v) H) one_at))
end
noncomputable def noLo (v : AV) : Bool:=AV.rec (motive_1:=fun _=>Bool) (motive_2:=fun _=>Bool) true true (fun _=>true) (fun _=>true) (fun _=>true) (fun _=>true) (fun _ r=>r) (fun _=>false) (fun _=>true) (fun _=>true) (fun _=>true) true (fun _ _ a b=>b2 a b) v
noncomputable def noLoL (l : List AV) : Bool:=List.rec (motive:=fun _=>Bool) true (fun v _ ih=>b2 (noLo v) ih) l
noncomputable def noLoO (x : AO) : Bool:=match x with | .list _ r=>noLoL r | .dict _ vs=>noLoL vs | .ns _ vs=>noLoL vs | .inst _ _=>false | .gone=>true
theorem noLo_tup : ∀ vs : List AV,noLo (.tup vs) = noLoL vs:=fun vs=>by
  show (AV.rec_1 (motive_1:=fun _=>Bool) (motive_2:=fun _=>Bool) true true (fun _=>true) (fun _=>true) (fun _=>true) (fun _=>true) (fun _ r=>r) (fun _=>false) (fun _=>true) (fun _=>true) (fun _=>true) true (fun _ _ a b=>b2 a b) vs : Bool) = _
  induction vs with
  | nil=>rfl
  | cons v vs ih=>exact congrArg (b2 (noLo v)) ih
theorem sb_noLo (ι : List Nat) (o : Nat → AV) : ∀ v : AV,noLo v = true → sb ι o v = v:=
  AV.rec (motive_1:=fun v=>noLo v = true → sb ι o v = v) (motive_2:=fun vs=>noLoL vs = true → sbL ι o vs = vs)
    (fun _=>rfl) (fun _=>rfl) (fun _ _=>rfl) (fun _ _=>rfl) (fun _ _=>rfl) (fun _ _=>rfl) (fun vs ih h=>by rw [sb_tup,ih (noLo_tup vs ▸ h)]) (fun _ h=>nomatch h) (fun _ _=>rfl) (fun _ _=>rfl) (fun _ _=>rfl)
    (fun _=>rfl) fun v vs i1 i2 h=>b2_el (show b2 (noLo v) (noLoL vs) = true from h) fun h1 h2=>by show sb ι o v :: sbL ι o vs = _; rw [i1 h1,i2 h2]
theorem sbL_noLo (ι : List Nat) (o : Nat → AV) : ∀ {l : List AV},noLoL l = true → sbL ι o l = l
  | [],_=>rfl
  | v :: l,h=>b2_el (show b2 (noLo v) (noLoL l) = true from h) fun h1 h2=>by show sb ι o v :: sbL ι o l = _; rw [sb_noLo ι o v h1,sbL_noLo ι o h2]
theorem sbO_noLo (ι : List Nat) (o : Nat → AV) {x : AO} (h : noLoO x = true) : sbO ι o x = x:=match x,h with
  | .list n r,h=>congrArg (AO.list n) (sbL_noLo ι o h)
  | .dict ks r,h=>congrArg (AO.dict ks) (sbL_noLo ι o h)
  | .ns ks r,h=>congrArg (AO.ns ks) (sbL_noLo ι o h)
  | .gone,_=>rfl
noncomputable def kf3 (f : List Nat) (x y z : AO) : AO:=match f with | 0 :: _=>.gone | 2 :: _=>z | _=>x
noncomputable def vwS (ι0 : List Nat) (o : Nat → AV) (H : Hs) (ι : List Nat) : List Nat → Option Hs:=List.rec (motive:=fun _=>List Nat → Option Hs) (fun _=>some []) (fun j _ ih f=>bn1 (hget H j) fun x=>bn1 (ih f.tail) fun l=>some (kf3 f (sbO ι0 o x) .gone x :: l)) ι
noncomputable def viewS (ι : List Nat) (f : List Nat) (o : Nat → AV) (H : Hs) : Option Hs:=grd (ndB ι) (vwS ι o H ι f)
noncomputable def sames (H : Hs) (ι : List Nat) : List Nat → Prop:=List.rec (motive:=fun _=>List Nat → Prop) (fun _=>True) (fun j _ ih f=>(match f with | 2 :: _=>∀ x,hget H j = some x → noLoO x = true | _=>True) ∧ ih f.tail) ι
theorem vwS_ok {ι0 : List Nat} {o : Nat → AV} {H : Hs} : ∀ {ι : List Nat} {f : List Nat} {H0 : Hs},vwS ι0 o H ι f = some H0 → sames H ι f → H0.length = ι.length ∧ (∀ j ∈ ι,j < H.length) ∧ ∀ i j x,hget ι i = some j → hget H j = some x → hget H0 i = some (sbO ι0 o x) ∨ hget H0 i = some .gone
  | [],f,H0,h,_=>by cases h; exact ⟨rfl,fun _ m=>(nomatch m),fun i j x e=>(hget_no e).elim⟩
  | k :: ι,f,H0,h,hs=>bn1_el (show bn1 (hget H k) (fun x=>bn1 (vwS ι0 o H ι f.tail) fun l=>some (kf3 f (sbO ι0 o x) .gone x :: l)) = some H0 from h) fun x e h=>bn1_el h fun l e' h=>by
    cases h
    obtain ⟨hs1,hs2⟩:=hs
    obtain ⟨h1,h2,h3⟩:=vwS_ok e' hs2
    refine ⟨congrArg (· + 1) h1,fun j m=>(List.mem_cons.mp m).elim (fun q=>q ▸ hget_lt e) (h2 j),fun i j y ei ej=>?_⟩
    cases i with
    | succ i=>exact h3 i j y ei ej
    | zero=>
      obtain rfl:=Option.some.inj (show some k = some j from ei)
      obtain rfl:=Option.some.inj (e.symm.trans ej)
      rcases f with _ | ⟨_ | _ | _ | m,f⟩
      · exact .inl rfl
      · exact .inr rfl
      · exact .inl rfl
      · exact .inl (congrArg some (sbO_noLo ι0 o (hs1 x e)).symm)
      · exact .inl rfl
theorem viewS_ok {ι : List Nat} {f : List Nat} {o : Nat → AV} {H H0 : Hs} (h : viewS ι f o H = some H0) (hs : sames H ι f) : ViewH ι o H H0:=grd_el h fun a b=>have q:=vwS_ok b hs; ⟨nd_ok a,q.2.1,q.1,q.2.2⟩
theorem PS.viewS {c : Cx} {env : Env} {kd : Kd} {ρ : List Addr} {s s' : Shared} {fl : Fl} {V1 : Vs} {H1 H2 : Hs} {fw : Flow} {ι fs : List Nat} {xs : List Str} (p : PS c env kd ρ s fl V1 H1 fw s') (hp : preB ρ.length ι 0 = true) (hv : Mine.viewS ι fs anyO H1 = some H2) (hs : sames H1 ι fs) : PS c env kd ρ s (sbF ι anyO fl) (vwV ι anyO V1 xs) H2 fw s':=match p with
  | .mk ρ' R RV F S M=>by
    have q:=viewS_ok hv hs
    have hlt : ∀ j ∈ ι,j < ρ'.length:=fun j m=>R.len.symm ▸ q.lt j m
    refine .mk (sel ι ρ') (R.view q out_any) (RV.view hlt out_any fun x v e=>.inr (vwV_ok e)) ?_ (S.view hp hlt) M
    cases fl with
    | next=>exact F
    | ret v=>obtain ⟨u,hu⟩:=F; exact .mk u (v_view (sel_in hlt) out_any hu)
theorem wk_viewS {c : Cx} {kd : Kd} {p : Nat} {fl : Fl} {V : Vs} {H H' : Hs} {ι fs : List Nat} (xs : List Str) (hp : preB p ι 0 = true) (hv : viewS ι fs anyO H = some H') (hs : sames H ι fs) : Wk c kd p fl V H (sbF ι anyO fl) (vwV ι anyO V xs) H':=fun env ρ0 s0 f s' hl q=>q.viewS (by rw [hl]; exact hp) hv hs
noncomputable def xres (p : Nat) (o : Option (Fl × Vs × Hs)) (ι : List Nat) (fs : List Nat) (xs : List Str) : Option (Fl × Vs × Hs):=match o with
  | some (fl,V,H)=>grd (preB p ι 0) (bn1 (viewS ι fs anyO H) fun H2=>some (sbF ι anyO fl,vwV ι anyO V xs,H2))
  | none=>none
noncomputable def xsame (o : Option (Fl × Vs × Hs)) (ι : List Nat) (fs : List Nat) : Prop:=match o with | some (_,_,H)=>sames H ι fs | none=>True
noncomputable def isNx (fl : Fl) : Bool:=match fl with | .next=>true | .ret _=>false
theorem isNx_sb {ι : List Nat} {o : Nat → AV} (f : Fl) : isNx f = isNx (sbF ι o f):=by cases f <;> rfl
theorem xres_el {p : Nat} {o : Option (Fl × Vs × Hs)} {ι : List Nat} {fs : List Nat} {xs : List Str} {fl : Fl} {V : Vs} {H : Hs} (h : xres p o ι fs xs = some (fl,V,H)) (hs : xsame o ι fs) : ∃ f V1 H1,o = some (f,V1,H1) ∧ isNx f = isNx fl ∧ ∀ (c : Cx) (kd : Kd),Wk c kd p f V1 H1 fl V H:=match o,h,hs with
  | some (f,V1,H1),h,hs=>grd_el (show grd (preB p ι 0) (bn1 (viewS ι fs anyO H1) fun H2=>some (sbF ι anyO f,vwV ι anyO V1 xs,H2)) = some (fl,V,H) from h) fun h1 h=>bn1_el h fun H2 h2 h=>by
    cases h
    exact ⟨f,V1,H1,rfl,isNx_sb f,fun c kd=>wk_viewS xs h1 h2 hs⟩
section
variable {c : Cx} {K : Frag} {x : AO} {N n j p : Nat} {k : Addr} {g : AV} {r lo : List AV} {up dg : Bool} {e : Expr} {b : List Stmt} {V' V1 V2 : Vs} {H H1 H2 H' : Hs} {fl : Fl} {ι : List Nat} {fs : List Nat} {xs : List Str}
theorem turn_v (W : Wo c K x) (hb : okSs (Gx x) b345 f_345.kd b = true) {v0 : AV} {Hr : Hs} (ea : exDs (Gx x) (run (Gx x) 60 1) s345a Vh H = some (.next,V1,H1))
    (eb : ∀ call : AV → List AV → Hs → Option (AV × Hs),exD (Gx x) ⟨call,60⟩ s345b V1 H1 = bnd (call (.fn 359) [.loc 1,g,.loc 3] H1) fun v H=>nxt (put V1 z_ways v) H)
    (T : TC c (N + 1) (.fn 359) [.loc 1,g,.loc 3] H1 v0 Hr) (ec : xres p (exDs (Gx x) (run (Gx x) 60 1) s345c (put V1 z_ways v0) Hr) ι fs xs = some (fl,V2,H2)) (es : xsame (exDs (Gx x) (run (Gx x) 60 1) s345c (put V1 z_ways v0) Hr) ι fs) : ∃ f V' H',TSs c (N + 1) f_345.kd b Vh H f V' H' ∧ isNx f = isNx fl ∧ Wk c f_345.kd p f V' H' fl V2 H2:=by
  obtain ⟨f,V',H',e1,q,e2⟩:=xres_el ec es
  exact ⟨f,V',H',turn W hb (Ha:=[]) (Hb:=[]) (va:=.none) (vr:=(v0,Hr)) ea eb T e1,q,e2 c _⟩
inductive Turn (c : Cx) (n : Nat) (e : Expr) (b : List Stmt) (H : Hs) (fl : Fl) (V2 : Vs) (H2 : Hs) : Prop
  | mk (f : Fl) (V' : Vs) (H1 H' : Hs) (t : TT c n f_345.kd e Vh H true H1) (T : TSs c n f_345.kd b Vh H1 f V' H') (q : isNx f = isNx fl) (w : Wk c f_345.kd 6 f V' H' fl V2 H2)
theorem turn_n (W : Wo c K x) (he : okE (Gx x) ce345 f_345.kd e = true) (hb : okSs (Gx x) b345 f_345.kd b = true) {v0 : AV} {Hr : Hs}
    (T : TC c (N + 1) (.fn 359) [.loc 1,g,.loc 3] (Hn n k j r ++ [.list 0 []]) v0 Hr) (ec : xres 6 (exDs (Gx x) (run (Gx x) 60 1) s345c [(z_self,.loc 1),(z_left,.loc 5),(z_sides,.loc 3),(z_goal,g),(z_ways,v0)] Hr) ι fs xs = some (fl,V2,H2)) (es : xsame (exDs (Gx x) (run (Gx x) 60 1) s345c [(z_self,.loc 1),(z_left,.loc 5),(z_sides,.loc 3),(z_goal,g),(z_ways,v0)] Hr) ι fs) : Turn c (N + 1) e b (Hn (n + 1) k j (g :: r)) fl V2 H2:=by
  obtain ⟨f,V',H',h1,h0,h2⟩:=turn_v (H:=Hn (n + 1) k j (g :: r) ++ [.list 0 []]) (V1:=[(z_self,.loc 1),(z_left,.loc 5),(z_sides,.loc 3),(z_goal,g)]) W hb (by kernel_rfl) (fun call=>by kernel_rfl) T ec es
  exact .mk f V' _ H' (tt_run (W.b0 (D:=0)) (r1_ok (N:=N) W) he (H':=Hn (n + 1) k j (g :: r) ++ [.list 0 []]) (by kernel_rfl)) h1 h0 h2
theorem turn_w (W : Wo c K x) (he : okE (Gx x) ce345 f_345.kd e = true) (hb : okSs (Gx x) b345 f_345.kd b = true) {v0 : AV} {Hr : Hs}
    (T : TC c (N + 1) (.fn 359) [.loc 1,g,.loc 3] (Hv n k j lo up dg r ++ [.list 0 []]) v0 Hr) (ec : xres 6 (exDs (Gx x) (run (Gx x) 60 1) s345c [(z_self,.loc 1),(z_left,.loc 5),(z_sides,.loc 3),(z_goal,g),(z_ways,v0)] Hr) ι fs xs = some (fl,V2,H2)) (es : xsame (exDs (Gx x) (run (Gx x) 60 1) s345c [(z_self,.loc 1),(z_left,.loc 5),(z_sides,.loc 3),(z_goal,g),(z_ways,v0)] Hr) ι fs) : Turn c (N + 1) e b (Hv (n + 1) k j lo up dg (g :: r)) fl V2 H2:=by
  obtain ⟨f,V',H',h1,h0,h2⟩:=turn_v (H:=Hv (n + 1) k j lo up dg (g :: r) ++ [.list 0 []]) (V1:=[(z_self,.loc 1),(z_left,.loc 5),(z_sides,.loc 3),(z_goal,g)]) W hb (by kernel_rfl) (fun call=>by kernel_rfl) T ec es
  exact .mk f V' _ H' (tt_run (W.b0 (D:=0)) (r1_ok (N:=N) W) he (H':=Hv (n + 1) k j lo up dg (g :: r) ++ [.list 0 []]) (by kernel_rfl)) h1 h0 h2
noncomputable def xsh : List Str:=[z_self,z_left,z_sides]
noncomputable def stays (o : AO) : Prop:=∀ y,some o = some y → noLoO y = true
theorem stays_of {o : AO} (h : noLoO o = true) : stays o:=fun y e=>Option.some.inj e ▸ h
theorem upv_noLo : ∀ up,noLoL (upv up) = true
  | true=>rfl
  | false=>rfl
theorem sd_noLo (h : noLoL lo = true) : noLoO (SdO lo up dg) = true:=by
  show b2 true (b2 true (b2 (noLo (.tup lo)) (b2 (noLo (.tup (upv up))) (b2 true (b2 (noLo (.tup [.str z_bottom])) true))))) = true
  rw [noLo_tup,noLo_tup,h,upv_noLo]; rfl
noncomputable def Sm1 (r : List AV) : Prop:=True ∧ True ∧ True ∧ True ∧ True ∧ stays (.list 30 r) ∧ True
noncomputable def Sm2 (r lo : List AV) (up dg : Bool) : Prop:=True ∧ True ∧ True ∧ True ∧ True ∧ stays (.list 30 r) ∧ stays (SdO lo up dg) ∧ True ∧ True
noncomputable def Sm3 (r lo : List AV) (up dg : Bool) : Prop:=True ∧ True ∧ True ∧ True ∧ True ∧ stays (.list 31 r) ∧ stays (SdO lo up dg) ∧ True ∧ True
theorem pass_n (W : Wo c K x) (he : okE (Gx x) ce345 f_345.kd e = true) (hb : okSs (Gx x) b345 f_345.kd b = true) (hr : noLoL r = true) (T : TC c (N + 1) (.fn 359) [.loc 1,g,.loc 3] (Hn n k j r ++ [.list 0 []]) (.loc 8) ((Hn n k j r ++ [.list 0 []]) ++ [.list 0 [],.list 1 [.loc 7]])) : Turn c (N + 1) e b (Hn (n + 1) k j (g :: r)) .next Vh (Hn n k j r):=
  turn_n W he hb T (ι:=[0,1,2,3,4,5]) (fs:=[1,1,1,1,1,2]) (xs:=xsh) (by kernel_rfl) (Eq.mpr (by kernel_rfl : _ = Sm1 r) ⟨trivial,trivial,trivial,trivial,trivial,stays_of hr,trivial⟩)
theorem fail_n (W : Wo c K x) (he : okE (Gx x) ce345 f_345.kd e = true) (hb : okSs (Gx x) b345 f_345.kd b = true) (T : TC c (N + 1) (.fn 359) [.loc 1,g,.loc 3] (Hn n k j r ++ [.list 0 []]) (.loc 7) ((Hn n k j r ++ [.list 0 []]) ++ [.list 0 []])) : Turn c (N + 1) e b (Hn (n + 1) k j (g :: r)) (.ret .none) [] [.gone,.gone,.gone,.gone,.gone,.gone]:=
  turn_n W he hb T (ι:=[0,1,2,3,4,5]) (fs:=[0,0,0,0,0,0]) (xs:=[]) (by kernel_rfl) (Eq.mpr (by kernel_rfl : _ = (True ∧ True ∧ True ∧ True ∧ True ∧ True ∧ True)) ⟨trivial,trivial,trivial,trivial,trivial,trivial,trivial⟩)
theorem pass_v (W : Wo c K x) (he : okE (Gx x) ce345 f_345.kd e = true) (hb : okSs (Gx x) b345 f_345.kd b = true) (hr : noLoL r = true) (hl : noLoL lo = true) (T : TC c (N + 1) (.fn 359) [.loc 1,g,.loc 3] (Hv n k j lo up dg r ++ [.list 0 []]) (.loc 10) ((Hv n k j lo up dg r ++ [.list 0 []]) ++ [.list 0 [],.list 1 [.loc 9]])) : Turn c (N + 1) e b (Hv (n + 1) k j lo up dg (g :: r)) .next Vh (Hv n k j lo up dg r):=
  turn_w W he hb T (ι:=[0,1,2,3,4,5,6,7]) (fs:=[1,1,1,1,1,2,2,1]) (xs:=xsh) (by kernel_rfl) (Eq.mpr (by kernel_rfl : _ = Sm2 r lo up dg) ⟨trivial,trivial,trivial,trivial,trivial,stays_of hr,stays_of (sd_noLo hl),trivial,trivial⟩)
theorem fail_v (W : Wo c K x) (he : okE (Gx x) ce345 f_345.kd e = true) (hb : okSs (Gx x) b345 f_345.kd b = true) (T : TC c (N + 1) (.fn 359) [.loc 1,g,.loc 3] (Hv n k j lo up dg r ++ [.list 0 []]) (.loc 9) ((Hv n k j lo up dg r ++ [.list 0 []]) ++ [.list 0 []])) : Turn c (N + 1) e b (Hv (n + 1) k j lo up dg (g :: r)) (.ret .none) [] [.gone,.gone,.gone,.gone,.gone,.gone]:=
  turn_w W he hb T (ι:=[0,1,2,3,4,5]) (fs:=[0,0,0,0,0,0]) (xs:=[]) (by kernel_rfl) (Eq.mpr (by kernel_rfl : _ = (True ∧ True ∧ True ∧ True ∧ True ∧ True ∧ True)) ⟨trivial,trivial,trivial,trivial,trivial,trivial,trivial⟩)
noncomputable def Hvn (n : Nat) (k : Addr) (j : Nat) (lo : List AV) (s : AV) (up dg : Bool) (r : List AV) : Hs:=[SeO n k,.inst 439 0,SiO (.loc 4) j,.inst 263 2,.dict [z_T21] [.loc 10],.list 30 r,SdO lo up dg,.inst 187 6,.list 0 [],SdO (lo ++ [s]) up dg,.inst 187 9]
theorem new_vf {s : AV} (W : Wo c K x) (he : okE (Gx x) ce345 f_345.kd e = true) (hb : okSs (Gx x) b345 f_345.kd b = true) (hr : noLoL r = true) (hl : noLoL (lo ++ [s]) = true) (T : TC c (N + 1) (.fn 359) [.loc 1,g,.loc 3] (Hv n k j lo false dg r ++ [.list 0 []]) (.loc 12) (Hvn n k j lo s false dg r ++ [upg s false,.list 1 [.loc 11]])) : Turn c (N + 1) e b (Hv (n + 1) k j lo false dg (g :: r)) .next Vh (Hv n k j (lo ++ [s]) false dg r):=
  turn_w W he hb T (ι:=[0,1,2,3,4,5,9,10]) (fs:=[1,1,1,1,1,2,2,1]) (xs:=xsh) (by kernel_rfl) (Eq.mpr (by kernel_rfl : _ = Sm2 r (lo ++ [s]) false dg) ⟨trivial,trivial,trivial,trivial,trivial,stays_of hr,stays_of (sd_noLo hl),trivial,trivial⟩)
theorem new_vt {s : AV} (W : Wo c K x) (he : okE (Gx x) ce345 f_345.kd e = true) (hb : okSs (Gx x) b345 f_345.kd b = true) (hn : r.length < 30) (hr : noLoL (gl s (nk 1) :: r) = true) (hl : noLoL (lo ++ [s]) = true) (T : TC c (N + 1) (.fn 359) [.loc 1,g,.loc 3] (Hv n k j lo true dg r ++ [.list 0 []]) (.loc 12) (Hvn n k j lo s true dg r ++ [upg s true,.list 1 [.loc 11]])) : Turn c (N + 1) e b (Hv (n + 1) k j lo true dg (g :: r)) .next Vh (Hv n k j (lo ++ [s]) true dg (gl s (nk 1) :: r)):=by
  have q:=turn_w (H2:=[SeO n k,.inst 439 0,SiO (.loc 4) j,.inst 263 2,.dict [z_T21] [.loc 7],.list 31 (gl s (nk 1) :: r),SdO (lo ++ [s]) true dg,.inst 187 6]) (V2:=Vh) (fl:=.next) W he hb T (ι:=[0,1,2,3,4,5,9,10]) (fs:=[1,1,1,1,1,2,2,1]) (xs:=xsh) (by kernel_rfl) (Eq.mpr (by kernel_rfl : _ = Sm3 (gl s (nk 1) :: r) (lo ++ [s]) true dg) ⟨trivial,trivial,trivial,trivial,trivial,stays_of hr,stays_of (sd_noLo hl),trivial,trivial⟩)
  obtain ⟨f,V',H1,H',t,T,q,w⟩:=q
  exact .mk f V' H1 H' t T q (w.trans (wk_bound (i:=5) (m:=31) (m':=30) (r:=gl s (nk 1) :: r) rfl hn))
end
theorem mem_pairs {d e : Nat} (hd : d < 5) (he : e < 5) : (d,e) ∈ pairs5:=(by decide +kernel : ∀ d,d < 5 → ∀ e,e < 5 → (d,e) ∈ pairs5) d hd e he
theorem nm_all : pairs5.map (fun p=>nm p.1 == nm p.2) = pairs5.map (fun p=>Nat.beq p.1 p.2):=by decide +kernel
theorem nm_eq {d e : Nat} (hd : d < 5) (he : e < 5) : (nm d == nm e) = Nat.beq d e:=List.map_inj_left.mp nm_all (d,e) (mem_pairs hd he)
noncomputable def cx (c : Cx) (σ : Nat → Str) : Cx:=⟨c.prog,c.w,σ,c.B,c.F⟩
theorem cx_E (c : Cx) (σ : Nat → Str) : CxE (cx c σ) c:=⟨rfl,rfl,rfl,rfl⟩
theorem cx_E' (c : Cx) (σ : Nat → Str) : CxE c (cx c σ):=⟨rfl,rfl,rfl,rfl⟩
inductive Gd where
  | fn | nn (d e : Nat) | nt (d : Nat)
noncomputable def fnv : AV:=.tup [.str z_fn,.str z_f]
noncomputable def gv (g : Gd) : AV:=match g with
  | .fn=>gl fnv fnv
  | .nn d e=>gl (nk d) (nk e)
  | .nt d=>gl (nk d) vT1
noncomputable def stFF (x : AO) (n : Nat) (k r : Addr) (j : Nat) : Option (AV × Hs):=vres 4 ((run (Gx x) 60 20).call (.fn 359) [.loc 1,gl fnv fnv,.loc 3] (H4 n k r j)) (fun m=>[0,1,2,3,m - 1,m]) []
theorem stFF_eq (x : AO) (n : Nat) (k r : Addr) (j : Nat) : stFF x n k r j = some (.loc 5,[SeO n k,.inst 439 0,SiO (.fn r) j,.inst 263 2,.list 0 [],.list 1 [.loc 4]]):=by kernel_rfl
section
variable {c : Cx} {K : Frag} {x : AO} {N n j d e : Nat} {k : Addr} {g : AV} {r : List AV} {lo : List Nat} {up dg : Bool}
theorem k4 : ∀ i j,hget [7,8] i = some j → j = 7 + i
  | 0,j,e=>(Option.some.inj e).symm
  | 1,j,e=>(Option.some.inj e).symm
  | i + 2,j,e=>nomatch e
theorem k3 : ∀ i j,hget [7] i = some j → j = 7 + i
  | 0,j,e=>(Option.some.inj e).symm
  | i + 1,j,e=>nomatch e
theorem k6 : ∀ i j,hget [9,10] i = some j → j = 9 + i
  | 0,j,e=>(Option.some.inj e).symm
  | 1,j,e=>(Option.some.inj e).symm
  | i + 2,j,e=>nomatch e
theorem k5 : ∀ i j,hget [9] i = some j → j = 9 + i
  | 0,j,e=>(Option.some.inj e).symm
  | i + 1,j,e=>nomatch e
theorem k8 : ∀ i j,hget [9,10,11,12] i = some j → j = 9 + i
  | 0,j,e=>(Option.some.inj e).symm
  | 1,j,e=>(Option.some.inj e).symm
  | 2,j,e=>(Option.some.inj e).symm
  | 3,j,e=>(Option.some.inj e).symm
  | i + 4,j,e=>nomatch e
theorem yes_n (hg : noLo g = true) (T : ∀ a,TC c N (.fn 359) [.loc 1,g,.loc 3] (H4 n k a j) (.loc 5) [SeO n k,.inst 439 0,SiO (.fn a) j,.inst 263 2,.list 0 [],.list 1 [.loc 4]]) : TC c N (.fn 359) [.loc 1,g,.loc 3] (Hn n k j r ++ [.list 0 []]) (.loc 8) ((Hn n k j r ++ [.list 0 []]) ++ [.list 0 [],.list 1 [.loc 7]]):=
  tc_frA (ι:=[0,1,2,3]) (κ:=[7,8]) (H:=Hn n k j r ++ ([AO.list 0 []] : Hs)) (T:=([AO.list 0 [],AO.list 1 [AV.loc 7]] : Hs)) (as0:=fun _=>[.loc 1,g,.loc 3]) (H0:=fun α=>H4 n k (α 4) j) (H0':=fun α=>[SeO n k,.inst 439 0,SiO (.fn (α 4)) j,.inst 263 2,.list 0 [],.list 1 [.loc 4]]) (v0:=.loc 5)
    (by kernel_rfl) k4 (by kernel_rfl) (by kernel_rfl) (fun α=>by show [AV.loc 1,sb _ _ g,.loc 3] = _; rw [sb_noLo _ _ g hg]) (fun α=>by kernel_rfl) (fun α=>by kernel_rfl) (fun α=>by kernel_rfl) fun α=>T (α 4)
theorem no_n (hg : noLo g = true) (T : ∀ a,TC c N (.fn 359) [.loc 1,g,.loc 3] (H4 n k a j) (.loc 4) [SeO n k,.inst 439 0,SiO (.fn a) j,.inst 263 2,.list 0 []]) : TC c N (.fn 359) [.loc 1,g,.loc 3] (Hn n k j r ++ [.list 0 []]) (.loc 7) ((Hn n k j r ++ [.list 0 []]) ++ [.list 0 []]):=
  tc_frA (ι:=[0,1,2,3]) (κ:=[7]) (H:=Hn n k j r ++ ([AO.list 0 []] : Hs)) (T:=([AO.list 0 []] : Hs)) (as0:=fun _=>[.loc 1,g,.loc 3]) (H0:=fun α=>H4 n k (α 4) j) (H0':=fun α=>[SeO n k,.inst 439 0,SiO (.fn (α 4)) j,.inst 263 2,.list 0 []]) (v0:=.loc 4)
    (by kernel_rfl) k3 (by kernel_rfl) (by kernel_rfl) (fun α=>by show [AV.loc 1,sb _ _ g,.loc 3] = _; rw [sb_noLo _ _ g hg]) (fun α=>by kernel_rfl) (fun α=>by kernel_rfl) (fun α=>by kernel_rfl) fun α=>T (α 4)
theorem yes_v {l : List AV} (hg : noLo g = true) (T : ∀ a,TC c N (.fn 359) [.loc 1,g,.loc 3] (H4 n k a j) (.loc 5) [SeO n k,.inst 439 0,SiO (.fn a) j,.inst 263 2,.list 0 [],.list 1 [.loc 4]]) : TC c N (.fn 359) [.loc 1,g,.loc 3] (Hv n k j l up dg r ++ [.list 0 []]) (.loc 10) ((Hv n k j l up dg r ++ [.list 0 []]) ++ [.list 0 [],.list 1 [.loc 9]]):=
  tc_frA (ι:=[0,1,2,3]) (κ:=[9,10]) (H:=Hv n k j l up dg r ++ ([AO.list 0 []] : Hs)) (T:=([AO.list 0 [],AO.list 1 [AV.loc 9]] : Hs)) (as0:=fun _=>[.loc 1,g,.loc 3]) (H0:=fun α=>H4 n k (α 4) j) (H0':=fun α=>[SeO n k,.inst 439 0,SiO (.fn (α 4)) j,.inst 263 2,.list 0 [],.list 1 [.loc 4]]) (v0:=.loc 5)
    (by kernel_rfl) k6 (by kernel_rfl) (by kernel_rfl) (fun α=>by show [AV.loc 1,sb _ _ g,.loc 3] = _; rw [sb_noLo _ _ g hg]) (fun α=>by kernel_rfl) (fun α=>by kernel_rfl) (fun α=>by kernel_rfl) fun α=>T (α 4)
theorem no_v {l : List AV} (hg : noLo g = true) (T : ∀ a,TC c N (.fn 359) [.loc 1,g,.loc 3] (H4 n k a j) (.loc 4) [SeO n k,.inst 439 0,SiO (.fn a) j,.inst 263 2,.list 0 []]) : TC c N (.fn 359) [.loc 1,g,.loc 3] (Hv n k j l up dg r ++ [.list 0 []]) (.loc 9) ((Hv n k j l up dg r ++ [.list 0 []]) ++ [.list 0 []]):=
  tc_frA (ι:=[0,1,2,3]) (κ:=[9]) (H:=Hv n k j l up dg r ++ ([AO.list 0 []] : Hs)) (T:=([AO.list 0 []] : Hs)) (as0:=fun _=>[.loc 1,g,.loc 3]) (H0:=fun α=>H4 n k (α 4) j) (H0':=fun α=>[SeO n k,.inst 439 0,SiO (.fn (α 4)) j,.inst 263 2,.list 0 []]) (v0:=.loc 4)
    (by kernel_rfl) k5 (by kernel_rfl) (by kernel_rfl) (fun α=>by show [AV.loc 1,sb _ _ g,.loc 3] = _; rw [sb_noLo _ _ g hg]) (fun α=>by kernel_rfl) (fun α=>by kernel_rfl) (fun α=>by kernel_rfl) fun α=>T (α 4)
theorem nn_small (W : Wo c K x) (hd : d < 5) (he : e < 5) (a : Addr) : TC c 20 (.fn 359) [.loc 1,gl (nk d) (nk e),.loc 3] (H4 n k a j) (match sub d e with | true=>.loc 5 | false=>.loc 4) (match sub d e with | true=>[SeO n k,.inst 439 0,SiO (.fn a) j,.inst 263 2,.list 0 [],.list 1 [.loc 4]] | false=>[SeO n k,.inst 439 0,SiO (.fn a) j,.inst 263 2,.list 0 []]):=by
  have q : stNN x n k a j (d,e) = stNNe n k a j (d,e):=List.map_inj_left.mp (stNN_all x n k a j) (d,e) (mem_pairs hd he)
  unfold stNN stNNe at q
  have B0:=W.b0 (D:=0)
  dsimp only at q
  revert q
  cases sub d e with
  | true=>exact fun q=>tc_vres (n:=0) B0 q
  | false=>exact fun q=>tc_vres (n:=0) B0 q
theorem ff_small (W : Wo c K x) (a : Addr) : TC c 20 (.fn 359) [.loc 1,gl fnv fnv,.loc 3] (H4 n k a j) (.loc 5) [SeO n k,.inst 439 0,SiO (.fn a) j,.inst 263 2,.list 0 [],.list 1 [.loc 4]]:=tc_vres (n:=0) (W.b0 (D:=0)) (stFF_eq x n k a j)
noncomputable def σ3 (d a b : Nat) : Nat → Str:=fun i=>match i with | 0=>nm d | 1=>nm a | _=>nm b
theorem knT_ok {a b : Nat} {l : List Bool} (h1 : ∀ t,hget l 0 = some t → (nm a == nm d) = t) (h2 : ∀ t,hget l 1 = some t → (nm b == nm d) = t) (h3 : l.length ≤ 2) : ∀ i j t,knT l i j = some t → ((cx c (σ3 d a b)).σ i == (cx c (σ3 d a b)).σ j) = t
  | 0,0,t,h=>nomatch h
  | 1,0,t,h=>h1 t h
  | 2,0,t,h=>h2 t h
  | i + 3,0,t,h=>by
    have:=hget_lt (show hget l (i + 2) = some t from h)
    omega
  | _,j + 1,t,h=>nomatch h
theorem nt_go (W : Wo c K x) {a b : Nat} {l : List Bool} (hl : (l,up) ∈ cases12) (h1 : ∀ t,hget l 0 = some t → (nm a == nm d) = t) (h2 : ∀ t,hget l 1 = some t → (nm b == nm d) = t) (h3 : l.length ≤ 2) {v : AV} {H' : Hs} (q : stNTe n k j dg (l,up) = some (v,H')) :
    TC (cx c (σ3 d a b)) 20 (.fn 359) [.loc 1,gl (nkv (.sym 0)) vT1,.loc 3] (H7 n k j (syms l) up dg) v H':=by
  have q : stNT x n k j dg (l,up) = some (v,H'):=(List.map_inj_left.mp (stNT_all x n k j dg) (l,up) hl).trans q
  exact tc_vres (n:=0) (((W.to (cx_E' c (σ3 d a b))).base (ov:=noOv) (kn:=knT l) (kl:=noKl) (fun _ e=>nomatch e) (fun _ _ e=>nomatch e) (knT_ok h1 h2 h3) (fun _ _ _ e=>nomatch e)) : Base _ K _ 0) q
noncomputable def ntV (d : Nat) (lo : List Nat) : AV:=match lo.any (Nat.beq · d) with | true=>.loc 8 | false=>.loc 10
noncomputable def ntH (n : Nat) (k : Addr) (j : Nat) (dg : Bool) (d : Nat) (lo : List Nat) (up : Bool) : Hs:=match lo.any (Nat.beq · d) with
  | true=>[SeO n k,.inst 439 0,SiO (.loc 4) j,.inst 263 2,.dict [z_T21] [.loc 6],SdO (lo.map nk) up dg,.inst 187 5,.list 0 [],.list 1 [.loc 7]]
  | false=>[SeO n k,.inst 439 0,SiO (.loc 4) j,.inst 263 2,.dict [z_T21] [.loc 8],SdO (lo.map nk) up dg,.inst 187 5,SdO (lo.map nk ++ [nk d]) up dg,.inst 187 7,upg (nk d) up,.list 1 [.loc 9]]
theorem nt_small (W : Wo c K x) (hd : d < 5) (hlo : ∀ a ∈ lo,a < 5) (hl : lo.length ≤ 2) : TC c 20 (.fn 359) [.loc 1,gl (nk d) vT1,.loc 3] (H7 n k j (lo.map nk) up dg) (ntV d lo) (ntH n k j dg d lo up):=by
  match lo,hlo,hl with
  | [],_,_=>
    have T:=nt_go (c:=c) (d:=d) (a:=0) (b:=0) (n:=n) (k:=k) (j:=j) (dg:=dg) (up:=up) W (l:=[]) (by cases up <;> decide +kernel) (fun _ e=>nomatch e) (fun _ e=>nomatch e) (by simp) rfl
    have T:=(ds_TC (cx_E c _)).mp T
    cases up <;> exact T
  | [a],hlo,_=>
    have ha:=hlo a (List.mem_cons_self ..)
    have e1:=nm_eq ha hd
    unfold ntV ntH
    have e2 : List.any [a] (fun x=>Nat.beq x d) = Nat.beq a d:=by simp
    rw [e2]
    cases q : Nat.beq a d with
    | true=>
      have T:=nt_go (c:=c) (d:=d) (a:=a) (b:=0) (n:=n) (k:=k) (j:=j) (dg:=dg) (up:=up) W (l:=[true]) (by cases up <;> decide +kernel) (fun t e=>by cases e; exact e1.trans q) (fun _ e=>nomatch e) (by simp) rfl
      have T:=(ds_TC (cx_E c _)).mp T
      cases up <;> exact T
    | false=>
      have T:=nt_go (c:=c) (d:=d) (a:=a) (b:=0) (n:=n) (k:=k) (j:=j) (dg:=dg) (up:=up) W (l:=[false]) (by cases up <;> decide +kernel) (fun t e=>by cases e; exact e1.trans q) (fun _ e=>nomatch e) (by simp) rfl
      have T:=(ds_TC (cx_E c _)).mp T
      cases up <;> exact T
  | [a,b],hlo,_=>
    have ha:=hlo a (List.mem_cons_self ..)
    have hb:=hlo b (List.mem_cons_of_mem _ (List.mem_cons_self ..))
    have e1:=nm_eq ha hd
    have e3:=nm_eq hb hd
    unfold ntV ntH
    have e2 : List.any [a,b] (fun x=>Nat.beq x d) = (Nat.beq a d || Nat.beq b d):=by simp
    rw [e2]
    cases q : Nat.beq a d <;> cases q' : Nat.beq b d
    · have T:=nt_go (c:=c) (d:=d) (a:=a) (b:=b) (n:=n) (k:=k) (j:=j) (dg:=dg) (up:=up) W (l:=[false,false]) (by cases up <;> decide +kernel) (fun t e=>by cases e; exact e1.trans q) (fun t e=>by cases e; exact e3.trans q') (by simp) rfl
      have T:=(ds_TC (cx_E c _)).mp T
      cases up <;> exact T
    · have T:=nt_go (c:=c) (d:=d) (a:=a) (b:=b) (n:=n) (k:=k) (j:=j) (dg:=dg) (up:=up) W (l:=[false,true]) (by cases up <;> decide +kernel) (fun t e=>by cases e; exact e1.trans q) (fun t e=>by cases e; exact e3.trans q') (by simp) rfl
      have T:=(ds_TC (cx_E c _)).mp T
      cases up <;> exact T
    · have T:=nt_go (c:=c) (d:=d) (a:=a) (b:=b) (n:=n) (k:=k) (j:=j) (dg:=dg) (up:=up) W (l:=[true,false]) (by cases up <;> decide +kernel) (fun t e=>by cases e; exact e1.trans q) (fun t e=>by cases e; exact e3.trans q') (by simp) rfl
      have T:=(ds_TC (cx_E c _)).mp T
      cases up <;> exact T
    · have T:=nt_go (c:=c) (d:=d) (a:=a) (b:=b) (n:=n) (k:=k) (j:=j) (dg:=dg) (up:=up) W (l:=[true,true]) (by cases up <;> decide +kernel) (fun t e=>by cases e; exact e1.trans q) (fun t e=>by cases e; exact e3.trans q') (by simp) rfl
      have T:=(ds_TC (cx_E c _)).mp T
      cases up <;> exact T
end
section
variable {c : Cx} {K : Frag} {x : AO} {N n j d e : Nat} {k : Addr} {g v : AV} {r : List AV} {lo : List Nat} {up dg : Bool} {H' : Hs}
noncomputable def nkL (lo : List Nat) : List AV:=lo.map nk
theorem hit_v (hl : lo.length ≤ 2) (T : TC c N (.fn 359) [.loc 1,gl (nk d) vT1,.loc 3] (H7 n k j (nkL lo) up dg) (.loc 8) [SeO n k,.inst 439 0,SiO (.loc 4) j,.inst 263 2,.dict [z_T21] [.loc 6],SdO (nkL lo) up dg,.inst 187 5,.list 0 [],.list 1 [.loc 7]]) :
    TC c N (.fn 359) [.loc 1,gl (nk d) vT1,.loc 3] (Hv n k j (nkL lo) up dg r ++ [.list 0 []]) (.loc 10) ((Hv n k j (nkL lo) up dg r ++ [.list 0 []]) ++ [.list 0 [],.list 1 [.loc 9]]):=by
  have key : ∀ lo : List Nat,lo.length ≤ 2 → ∀ up α,view [0,1,2,3,4,6,7] [] (outA α) (Hv n k j (nkL lo) up dg r ++ [.list 0 []]) = some (H7 n k j (nkL lo) up dg) ∧ view ([0,1,2,3,4,6,7] ++ [9,10]) [] (outA α) ((Hv n k j (nkL lo) up dg r ++ [.list 0 []]) ++ [.list 0 [],.list 1 [.loc 9]]) = some [SeO n k,.inst 439 0,SiO (.loc 4) j,.inst 263 2,.dict [z_T21] [.loc 6],SdO (nkL lo) up dg,.inst 187 5,.list 0 [],.list 1 [.loc 7]] ∧
      backAll ([0,1,2,3,4,6,7] ++ [9,10]) (hlen ((Hv n k j (nkL lo) up dg r ++ [.list 0 []]) ++ [.list 0 [],.list 1 [.loc 9]])) ((Hv n k j (nkL lo) up dg r ++ [.list 0 []]) ++ [.list 0 [],.list 1 [.loc 9]]) ([0,1,2,3,4,6,7] ++ [9,10]) = true:=fun lo hl up α=>match lo,hl,up with
    | [],_,true=>⟨by kernel_rfl,by kernel_rfl,by kernel_rfl⟩
    | [],_,false=>⟨by kernel_rfl,by kernel_rfl,by kernel_rfl⟩
    | [a],_,true=>⟨by kernel_rfl,by kernel_rfl,by kernel_rfl⟩
    | [a],_,false=>⟨by kernel_rfl,by kernel_rfl,by kernel_rfl⟩
    | [a,b],_,true=>⟨by kernel_rfl,by kernel_rfl,by kernel_rfl⟩
    | [a,b],_,false=>⟨by kernel_rfl,by kernel_rfl,by kernel_rfl⟩
  exact tc_frA (ι:=[0,1,2,3,4,6,7]) (κ:=[9,10]) (H:=Hv n k j (nkL lo) up dg r ++ ([AO.list 0 []] : Hs)) (T:=([AO.list 0 [],AO.list 1 [AV.loc 9]] : Hs)) (as0:=fun _=>[.loc 1,gl (nk d) vT1,.loc 3]) (H0:=fun α=>_) (H0':=fun α=>_) (v0:=.loc 8)
    (by kernel_rfl) k6 (key lo hl up fun _=>0).2.2 (by kernel_rfl) (fun α=>by kernel_rfl) (fun α=>(key lo hl up α).1) (fun α=>(key lo hl up α).2.1) (fun α=>by kernel_rfl) fun α=>T
theorem new_fr (l : List AV) (s : AV) : ∀ j0 y,j0 < 9 → pos [0,1,2,3,4,6,7] j0 = none → hget (Hvn n k j l s up dg r ++ [upg s up,.list 1 [.loc 11]]) j0 = some y → hget (Hv n k j l up dg r ++ [.list 0 []]) j0 = some y:=fun j0 y hj hp e=>match j0,hj,hp,e with
  | 0,_,hp,_=>nomatch hp
  | 1,_,hp,_=>nomatch hp
  | 2,_,hp,_=>nomatch hp
  | 3,_,hp,_=>nomatch hp
  | 4,_,hp,_=>nomatch hp
  | 5,_,_,e=>e
  | 6,_,hp,_=>nomatch hp
  | 7,_,hp,_=>nomatch hp
  | 8,_,_,e=>e
  | j0 + 9,hj,_,_=>absurd hj (by omega)
theorem new_v (hl : lo.length ≤ 2) (T : TC c N (.fn 359) [.loc 1,gl (nk d) vT1,.loc 3] (H7 n k j (nkL lo) up dg) (.loc 10) [SeO n k,.inst 439 0,SiO (.loc 4) j,.inst 263 2,.dict [z_T21] [.loc 8],SdO (nkL lo) up dg,.inst 187 5,SdO (nkL lo ++ [nk d]) up dg,.inst 187 7,upg (nk d) up,.list 1 [.loc 9]]) :
    TC c N (.fn 359) [.loc 1,gl (nk d) vT1,.loc 3] (Hv n k j (nkL lo) up dg r ++ [.list 0 []]) (.loc 12) (Hvn n k j (nkL lo) (nk d) up dg r ++ [upg (nk d) up,.list 1 [.loc 11]]):=by
  have key : ∀ lo : List Nat,lo.length ≤ 2 → ∀ up α,view [0,1,2,3,4,6,7] [] (outA α) (Hv n k j (nkL lo) up dg r ++ [.list 0 []]) = some (H7 n k j (nkL lo) up dg) ∧ view ([0,1,2,3,4,6,7] ++ [9,10,11,12]) [] (outA α) (Hvn n k j (nkL lo) (nk d) up dg r ++ [upg (nk d) up,.list 1 [.loc 11]]) = some [SeO n k,.inst 439 0,SiO (.loc 4) j,.inst 263 2,.dict [z_T21] [.loc 8],SdO (nkL lo) up dg,.inst 187 5,SdO (nkL lo ++ [nk d]) up dg,.inst 187 7,upg (nk d) up,.list 1 [.loc 9]] ∧
      backAll ([0,1,2,3,4,6,7] ++ [9,10,11,12]) (hlen (Hvn n k j (nkL lo) (nk d) up dg r ++ [upg (nk d) up,.list 1 [.loc 11]])) (Hvn n k j (nkL lo) (nk d) up dg r ++ [upg (nk d) up,.list 1 [.loc 11]]) ([0,1,2,3,4,6,7] ++ [9,10,11,12]) = true:=fun lo hl up α=>match lo,hl,up with
    | [],_,true=>⟨by kernel_rfl,by kernel_rfl,by kernel_rfl⟩
    | [],_,false=>⟨by kernel_rfl,by kernel_rfl,by kernel_rfl⟩
    | [a],_,true=>⟨by kernel_rfl,by kernel_rfl,by kernel_rfl⟩
    | [a],_,false=>⟨by kernel_rfl,by kernel_rfl,by kernel_rfl⟩
    | [a,b],_,true=>⟨by kernel_rfl,by kernel_rfl,by kernel_rfl⟩
    | [a,b],_,false=>⟨by kernel_rfl,by kernel_rfl,by kernel_rfl⟩
  exact tc_fr (ι:=[0,1,2,3,4,6,7]) (κ:=[9,10,11,12]) (H:=Hv n k j (nkL lo) up dg r ++ ([AO.list 0 []] : Hs)) (H':=Hvn n k j (nkL lo) (nk d) up dg r ++ ([upg (nk d) up,AO.list 1 [AV.loc 11]] : Hs)) (as0:=fun _=>[.loc 1,gl (nk d) vT1,.loc 3]) (H0:=fun α=>_) (H0':=fun α=>_) (v0:=.loc 10)
    (by kernel_rfl) k8 (key lo hl up fun _=>0).2.2 (by kernel_rfl) (new_fr _ _) (fun α=>by kernel_rfl) (fun α=>(key lo hl up α).1) (fun α=>(key lo hl up α).2.1) (fun α=>by kernel_rfl) fun α=>T
noncomputable def sett (up : Bool) : List Gd → List Nat → Option (List Nat)
  | [],lo=>some lo
  | .fn :: L,lo=>sett up L lo
  | .nn d e :: L,lo=>if sub d e then sett up L lo else none
  | .nt d :: L,lo=>if lo.any (Nat.beq · d) then sett up L lo else if up && !sub d 1 then none else sett up L (lo ++ [d])
def okG : Gd → Prop
  | .fn=>True
  | .nn d e=>d < 5 ∧ e < 5
  | .nt d=>d < 5
noncomputable def cntT : List Gd → Nat
  | []=>0
  | .nt _ :: L=>cntT L + 1
  | _ :: L=>cntT L
noncomputable def gone6 : Hs:=[.gone,.gone,.gone,.gone,.gone,.gone]
theorem gv_noLo (g : Gd) : noLo (gv g) = true:=match g with | .fn=>by kernel_rfl | .nn _ _=>by kernel_rfl | .nt _=>by kernel_rfl
theorem gvL_noLo : ∀ L : List Gd,noLoL (L.map gv) = true
  | []=>rfl
  | g :: L=>by show b2 (noLo (gv g)) (noLoL (L.map gv)) = true; rw [gv_noLo]; exact gvL_noLo L
theorem nkL_noLo : ∀ lo : List Nat,noLoL (nkL lo) = true
  | []=>rfl
  | d :: lo=>by show b2 (noLo (nk d)) (noLoL (nkL lo)) = true; rw [show noLo (nk d) = true by kernel_rfl]; exact nkL_noLo lo
end
section
variable {c : Cx} {K : Frag} {x : AO} {N n j : Nat} {k : Addr} {e : Expr} {b : List Stmt} {up dg : Bool}
theorem lr_turn {H H2 : Hs} {V2 : Vs} {fl : Fl} {V' : Vs} {H' : Hs} (t : Turn c n e b H .next V2 H2) (r : LR c n f_345.kd e b 6 V2 H2 fl V' H') : LR c n f_345.kd e b 6 Vh H fl V' H':=match t with
  | .mk f V1 H1 H3 t T q w=>match f,q,T,w with
    | .next,_,T,w=>.nxt t T w r
    | .ret _,q,_,_=>nomatch q
theorem lr_stop {H H2 : Hs} {V2 : Vs} {v : AV} (t : Turn c n e b H (.ret v) V2 H2) : LR c n f_345.kd e b 6 Vh H (.ret v) V2 H2:=match t with
  | .mk f V1 H1 H3 t T q w=>match f,q,T,w with
    | .ret _,_,T,w=>.post (.ret t T) w
    | .next,q,_,_=>nomatch q
theorem nkL_app (lo : List Nat) (d : Nat) : nkL (lo ++ [d]) = nkL lo ++ [nk d]:=List.map_append ..
theorem new_f {r : List AV} {lo : List Nat} {d : Nat} (W : Wo c K x) (he : okE (Gx x) ce345 f_345.kd e = true) (hb : okSs (Gx x) b345 f_345.kd b = true) (hu : up = false) (hl : lo.length ≤ 2) (hr : noLoL r = true)
    (T : TC c 20 (.fn 359) [.loc 1,gl (nk d) vT1,.loc 3] (H7 n k j (lo.map nk) up dg) (.loc 10) [SeO n k,.inst 439 0,SiO (.loc 4) j,.inst 263 2,.dict [z_T21] [.loc 8],SdO (lo.map nk) up dg,.inst 187 5,SdO (lo.map nk ++ [nk d]) up dg,.inst 187 7,upg (nk d) up,.list 1 [.loc 9]]) :
    Turn c 20 e b (Hv (n + 1) k j (nkL lo) up dg (gl (nk d) vT1 :: r)) .next Vh (Hv n k j (nkL (lo ++ [d])) up dg r):=by
  subst hu
  have q:=new_vf (N:=19) W he hb hr (nkL_app lo d ▸ nkL_noLo (lo ++ [d])) (new_v hl T)
  rw [nkL_app]; exact q
theorem new_t {r : List AV} {lo : List Nat} {d : Nat} (W : Wo c K x) (he : okE (Gx x) ce345 f_345.kd e = true) (hb : okSs (Gx x) b345 f_345.kd b = true) (hu : up = true) (hl : lo.length ≤ 2) (hn : r.length < 30) (hr : noLoL r = true)
    (T : TC c 20 (.fn 359) [.loc 1,gl (nk d) vT1,.loc 3] (H7 n k j (lo.map nk) up dg) (.loc 10) [SeO n k,.inst 439 0,SiO (.loc 4) j,.inst 263 2,.dict [z_T21] [.loc 8],SdO (lo.map nk) up dg,.inst 187 5,SdO (lo.map nk ++ [nk d]) up dg,.inst 187 7,upg (nk d) up,.list 1 [.loc 9]]) :
    Turn c 20 e b (Hv (n + 1) k j (nkL lo) up dg (gl (nk d) vT1 :: r)) .next Vh (Hv n k j (nkL (lo ++ [d])) up dg (gl (nk d) (nk 1) :: r)):=by
  subst hu
  have hg : noLoL (gl (nk d) (nk 1) :: r) = true:=by show b2 (noLo (gl (nk d) (nk 1))) (noLoL r) = true; rw [show noLo (gl (nk d) (nk 1)) = true by kernel_rfl]; exact hr
  have q:=new_vt (N:=19) W he hb hn hg (nkL_app lo d ▸ nkL_noLo (lo ++ [d])) (new_v hl T)
  rw [nkL_app]; exact q
inductive EndV (c : Cx) (n : Nat) (e : Expr) (b : List Stmt) (k : Addr) (j : Nat) (up dg : Bool) (V : Vs) (H : Hs) : Option (List Nat) → Prop
  | yes (lo : List Nat) (n' : Nat) (r : LR c n f_345.kd e b 6 V H .next Vh (Hv n' k j (nkL lo) up dg [])) : EndV c n e b k j up dg V H (some lo)
  | no (r : LR c n f_345.kd e b 6 V H (.ret .none) [] gone6) : EndV c n e b k j up dg V H none
theorem EndV.turn {H H2 : Hs} {o : Option (List Nat)} (t : Turn c n e b H .next Vh H2) (q : EndV c n e b k j up dg Vh H2 o) : EndV c n e b k j up dg Vh H o:=match q with
  | .yes lo n' r=>.yes lo n' (lr_turn t r)
  | .no r=>.no (lr_turn t r)
theorem fin_v (W : Wo c K x) (he : okE (Gx x) ce345 f_345.kd e = true) (lo : List Nat) : LR c (N + 1) f_345.kd e b 6 Vh (Hv n k j (nkL lo) up dg []) .next Vh (Hv n k j (nkL lo) up dg []):=
  .post (.fin (tt_run (W.b0 (D:=0)) (r1_ok (N:=N) W) he (H':=Hv n k j (nkL lo) up dg [] ++ [.list 0 []]) (by kernel_rfl)))
    (wk_viewS (ι:=[0,1,2,3,4,5,6,7]) (fs:=[1,1,1,1,1,1,2,1]) xsh (by kernel_rfl) (by kernel_rfl) (Eq.mpr (by kernel_rfl : _ = (True ∧ True ∧ True ∧ True ∧ True ∧ True ∧ stays (SdO (nkL lo) up dg) ∧ True ∧ True)) ⟨trivial,trivial,trivial,trivial,trivial,trivial,stays_of (sd_noLo (nkL_noLo lo)),trivial,trivial⟩))
theorem loop_v (W : Wo c K x) (he : okE (Gx x) ce345 f_345.kd e = true) (hb : okSs (Gx x) b345 f_345.kd b = true) : ∀ (L : List Gd) (lo : List Nat) (n : Nat),(∀ g ∈ L,okG g) → (∀ a ∈ lo,a < 5) → cntT L + lo.length ≤ 3 → L.length ≤ 20 → L.length + cntT L ≤ n → EndV c 20 e b k j up dg Vh (Hv n k j (nkL lo) up dg (L.map gv)) (sett up L lo)
  | [],lo,n,_,_,_,_,_=>.yes lo n (fin_v (N:=19) W he lo)
  | .fn :: L,lo,n,hL,hlo,hc,h20,hn=>by
    obtain ⟨m,rfl⟩ : ∃ m,n = m + 1:=⟨n - 1,by have : (Gd.fn :: L).length = L.length + 1:=rfl; omega⟩
    refine EndV.turn (pass_v (N:=19) W he hb (gvL_noLo L) (nkL_noLo lo) (yes_v (gv_noLo .fn) fun a=>ff_small W a)) (loop_v W he hb L lo m (fun g m=>hL g (List.mem_cons_of_mem _ m)) hlo hc (Nat.le_of_succ_le h20) ?_)
    have : (Gd.fn :: L).length = L.length + 1:=rfl
    have : cntT (Gd.fn :: L) = cntT L:=rfl
    omega
  | .nn d e' :: L,lo,n,hL,hlo,hc,h20,hn=>by
    have l1 : (Gd.nn d e' :: L).length = L.length + 1:=rfl
    have l2 : cntT (Gd.nn d e' :: L) = cntT L:=rfl
    obtain ⟨m,rfl⟩ : ∃ m,n = m + 1:=⟨n - 1,by omega⟩
    obtain ⟨hd,he'⟩:=hL _ (List.mem_cons_self ..)
    have T:=fun a=>nn_small (n:=m) (k:=k) (j:=j) W hd he' a
    show EndV c 20 e b k j up dg Vh _ (if sub d e' then sett up L lo else none)
    cases q : sub d e' with
    | true=>
      rw [q] at T
      exact EndV.turn (pass_v (N:=19) W he hb (gvL_noLo L) (nkL_noLo lo) (yes_v (gv_noLo (.nn d e')) T)) (loop_v W he hb L lo m (fun g m=>hL g (List.mem_cons_of_mem _ m)) hlo (l2 ▸ hc) (Nat.le_of_succ_le h20) (by omega))
    | false=>
      rw [q] at T
      exact .no (lr_stop (fail_v (N:=19) W he hb (no_v (gv_noLo (.nn d e')) T)))
  | .nt d :: L,lo,n,hL,hlo,hc,h20,hn=>by
    have l1 : (Gd.nt d :: L).length = L.length + 1:=rfl
    have l2 : cntT (Gd.nt d :: L) = cntT L + 1:=rfl
    obtain ⟨m,rfl⟩ : ∃ m,n = m + 1:=⟨n - 1,by omega⟩
    have hd : d < 5:=hL _ (List.mem_cons_self ..)
    have hl : lo.length ≤ 2:=by omega
    have T:=nt_small (n:=m) (k:=k) (j:=j) (up:=up) (dg:=dg) W hd hlo hl
    unfold ntV ntH at T
    show EndV c 20 e b k j up dg Vh _ (if lo.any (Nat.beq · d) then sett up L lo else if up && !sub d 1 then none else sett up L (lo ++ [d]))
    cases q : lo.any (Nat.beq · d) with
    | true=>
      rw [q] at T
      exact EndV.turn (pass_v (N:=19) W he hb (gvL_noLo L) (nkL_noLo lo) (hit_v hl T)) (loop_v W he hb L lo m (fun g m=>hL g (List.mem_cons_of_mem _ m)) hlo (by omega) (Nat.le_of_succ_le h20) (by omega))
    | false=>
      rw [q] at T
      have hlo' : ∀ a ∈ lo ++ [d],a < 5:=fun a m=>(List.mem_append.mp m).elim (hlo a) fun m=>List.mem_singleton.mp m ▸ hd
      have hlen : (lo ++ [d]).length = lo.length + 1:=by rw [List.length_append]; rfl
      by_cases hu : up = true
      · have Tn:=new_t (e:=e) (b:=b) W he hb hu hl (by rw [List.length_map]; omega) (gvL_noLo L) T
        refine EndV.turn Tn ?_
        obtain ⟨m',rfl⟩ : ∃ m',m = m' + 1:=⟨m - 1,by omega⟩
        have T1:=fun a=>nn_small (n:=m') (k:=k) (j:=j) W hd (show 1 < 5 by decide) a
        have es : (if (false = true) then sett up L lo else if (up && !sub d 1) = true then none else sett up L (lo ++ [d])) = (if (!sub d 1) = true then none else sett up L (lo ++ [d])):=by rw [hu]; rfl
        rw [es]
        cases q1 : sub d 1 with
        | true=>
          rw [q1] at T1
          exact EndV.turn (pass_v (N:=19) W he hb (gvL_noLo L) (nkL_noLo (lo ++ [d])) (yes_v (gv_noLo (.nn d 1)) T1)) (loop_v W he hb L (lo ++ [d]) m' (fun g m=>hL g (List.mem_cons_of_mem _ m)) hlo' (by omega) (Nat.le_of_succ_le h20) (by omega))
        | false=>
          rw [q1] at T1
          exact .no (lr_stop (fail_v (N:=19) W he hb (no_v (gv_noLo (.nn d 1)) T1)))
      · have hu : up = false:=by cases up <;> first | rfl | exact absurd rfl hu
        have Tn:=new_f (e:=e) (b:=b) W he hb hu hl (gvL_noLo L) T
        refine EndV.turn Tn ?_
        have es : (if (false = true) then sett up L lo else if (up && !sub d 1) = true then none else sett up L (lo ++ [d])) = sett up L (lo ++ [d]):=by rw [hu]; rfl
        rw [es]
        exact loop_v W he hb L (lo ++ [d]) m (fun g m=>hL g (List.mem_cons_of_mem _ m)) hlo' (by omega) (Nat.le_of_succ_le h20) (by omega)
inductive EndN (c : Cx) (n : Nat) (e : Expr) (b : List Stmt) (k : Addr) (j : Nat) (V : Vs) (H : Hs) : Option (List Nat) → Prop
  | yes (lo : List Nat) (n' : Nat) (r : LR c n f_345.kd e b 6 V H .next Vh (Hn n' k j [])) : EndN c n e b k j V H (some lo)
  | no (r : LR c n f_345.kd e b 6 V H (.ret .none) [] gone6) : EndN c n e b k j V H none
theorem EndN.turn {H H2 : Hs} {o : Option (List Nat)} (t : Turn c n e b H .next Vh H2) (q : EndN c n e b k j Vh H2 o) : EndN c n e b k j Vh H o:=match q with
  | .yes lo n' r=>.yes lo n' (lr_turn t r)
  | .no r=>.no (lr_turn t r)
theorem fin_n (W : Wo c K x) (he : okE (Gx x) ce345 f_345.kd e = true) : LR c (N + 1) f_345.kd e b 6 Vh (Hn n k j []) .next Vh (Hn n k j []):=
  .post (.fin (tt_run (W.b0 (D:=0)) (r1_ok (N:=N) W) he (H':=Hn n k j [] ++ [.list 0 []]) (by kernel_rfl)))
    (wk_viewS (ι:=[0,1,2,3,4,5]) (fs:=[1,1,1,1,1,1]) xsh (by kernel_rfl) (by kernel_rfl) (Eq.mpr (by kernel_rfl : _ = (True ∧ True ∧ True ∧ True ∧ True ∧ True ∧ True)) ⟨trivial,trivial,trivial,trivial,trivial,trivial,trivial⟩))
theorem loop_n (W : Wo c K x) (he : okE (Gx x) ce345 f_345.kd e = true) (hb : okSs (Gx x) b345 f_345.kd b = true) : ∀ (L : List Gd) (n : Nat),(∀ g ∈ L,okG g) → cntT L = 0 → L.length ≤ n → EndN c 20 e b k j Vh (Hn n k j (L.map gv)) (sett up L [])
  | [],n,_,_,_=>.yes [] n (fin_n (N:=19) W he)
  | .fn :: L,n,hL,hc,hn=>by
    obtain ⟨m,rfl⟩ : ∃ m,n = m + 1:=⟨n - 1,by have : (Gd.fn :: L).length = L.length + 1:=rfl; omega⟩
    exact EndN.turn (pass_n (N:=19) W he hb (gvL_noLo L) (yes_n (gv_noLo .fn) fun a=>ff_small W a)) (loop_n W he hb L m (fun g m=>hL g (List.mem_cons_of_mem _ m)) hc (Nat.le_of_succ_le_succ hn))
  | .nn d e' :: L,n,hL,hc,hn=>by
    have l1 : (Gd.nn d e' :: L).length = L.length + 1:=rfl
    obtain ⟨m,rfl⟩ : ∃ m,n = m + 1:=⟨n - 1,by omega⟩
    obtain ⟨hd,he'⟩:=hL _ (List.mem_cons_self ..)
    have T:=fun a=>nn_small (n:=m) (k:=k) (j:=j) W hd he' a
    show EndN c 20 e b k j Vh _ (if sub d e' then sett up L [] else none)
    cases q : sub d e' with
    | true=>
      rw [q] at T
      exact EndN.turn (pass_n (N:=19) W he hb (gvL_noLo L) (yes_n (gv_noLo (.nn d e')) T)) (loop_n W he hb L m (fun g m=>hL g (List.mem_cons_of_mem _ m)) hc (Nat.le_of_succ_le_succ hn))
    | false=>
      rw [q] at T
      exact .no (lr_stop (fail_n (N:=19) W he hb (no_n (gv_noLo (.nn d e')) T)))
  | .nt d :: L,n,hL,hc,hn=>nomatch hc
end
theorem low_noLo (N : Nat) : ∀ v : AV,noLo v = true → low N v = true:=
  AV.rec (motive_1:=fun v=>noLo v = true → low N v = true) (motive_2:=fun vs=>noLoL vs = true → low N (.tup vs) = true)
    (fun _=>rfl) (fun _=>rfl) (fun _ _=>rfl) (fun _ _=>rfl) (fun _ _=>rfl) (fun _ _=>rfl) (fun vs ih h=>ih (noLo_tup vs ▸ h)) (fun _ h=>nomatch h) (fun _ _=>rfl) (fun _ _=>rfl) (fun _ _=>rfl)
    (fun _=>rfl) fun v vs i1 i2 h=>b2_el (show b2 (noLo v) (noLoL vs) = true from h) fun h1 h2=>by
      show (match low N v with | true=>low N (.tup vs) | false=>false) = true
      rw [i1 h1]; exact i2 h2
section
variable {c : Cx} {K : Frag} {x : AO} {N n j d e D : Nat} {k a : Addr} {g v : AV} {r as : List AV} {lo : List Nat} {up dg : Bool} {H H' : Hs}
theorem tc_pure (ha : noLoL as = true) (hv : noLo v = true) (T : TC c n (.fn a) as [] v []) : TC c n (.fn a) as H v H:=
  tc_frame (ι:=[]) (κ:=[]) ⟨rfl,fun i j e=>(hget_no e).elim,fun j x m=>(nomatch m),low_noLo _ v hv,fun j x _ _ e=>e⟩ fun α=>.mk [] [] rfl rfl (by rw [sbL_noLo _ _ ha]; show TC c n (.fn a) as [] (sb [] (outA α) v) []; rw [sb_noLo _ _ v hv]; exact T)
theorem sk_small (W : Wo c K x) (hd : d < 5) (he : e < 5) (hne : d ≠ e) : TC c 20 (.fn 503) [.bs 9,nk d,nk e] H (.bool false) H:=by
  refine tc_pure (by kernel_rfl) rfl ?_
  have q : skB x (d,e) = some (.bool false,[]):=List.map_inj_left.mp (sk_all x) (d,e) (mem_pairs hd he)
  unfold skB at q
  have h : Nat.beq d e = false:=by
    cases z : Nat.beq d e with
    | false=>rfl
    | true=>exact absurd (Nat.eq_of_beq_eq_true z) hne
  rw [h] at q
  exact sound (W.b0 (D:=0)) q
noncomputable def conc (dg : Bool) (lo : List Nat) : Bool:=!dg || match lo with | []=>true | [d]=>leafB d | _=>false
theorem gc_base (W : Wo c K x) {a b : Nat} {d : Nat} (hd : d < 5) (ha : a < 5) (hne : d ≠ a) : Base (cx c (σ3 d a b)) K (Gc x) 20:=by
  have W':=W.to (cx_E' c (σ3 d a b))
  have e0 : (nm d == nm a) = false:=(nm_eq hd ha).trans (by
    cases z : Nat.beq d a with
    | false=>rfl
    | true=>exact absurd (Nat.eq_of_beq_eq_true z) hne)
  have e1 : (nm a == nm d) = false:=(nm_eq ha hd).trans (by
    cases z : Nat.beq a d with
    | false=>rfl
    | true=>exact absurd (Nat.eq_of_beq_eq_true z).symm hne)
  refine W'.base (fun b h=>?_) (fun b g hg as H v H' q=>?_) (fun i j t h=>?_) (fun _ _ _ e=>nomatch e)
  · have h : (iff (Nat.beq b 503) (some gSk) none).isSome = true:=h
    cases z : Nat.beq b 503 with
    | false=>rw [z] at h; cases h
    | true=>obtain rfl:=Nat.eq_of_beq_eq_true z; exact W'.keepFn (f:=f_503) rfl
  · have hg : iff (Nat.beq b 503) (some gSk) none = some g:=hg
    cases z : Nat.beq b 503 with
    | false=>rw [z] at hg; cases hg
    | true=>
      rw [z] at hg
      obtain rfl:=Option.some.inj hg
      obtain rfl:=Nat.eq_of_beq_eq_true z
      have q : (match sVs as [.bs 9,nkv (.sym 0),nkv (.sym 1)] with | true=>some (AV.bool false,H) | false=>none) = some (v,H'):=q
      cases y : sVs as [.bs 9,nkv (.sym 0),nkv (.sym 1)] with
      | false=>rw [y] at q; cases q
      | true=>
        rw [y] at q
        cases q
        obtain rfl:=sVs_eq y
        exact tc_pure (by kernel_rfl) rfl ((ds_TC (cx_E c _)).mpr (sk_small (H:=[]) W hd ha hne))
  · match i,j,h with
    | 0,1,h=>cases h; exact e0
    | 1,0,h=>cases h; exact e1
    | 0,0,h=>cases h
    | 0,j + 2,h=>cases h
    | 1,j + 1,h=>cases h
    | i + 2,j,h=>cases h
theorem ar_gc (W : Wo c K x) {a b : Nat} (hd : d < 5) (ha : a < 5) (hne : d ≠ a) {l : Nat} (hm : (l,up,dg) ∈ casesA) : TC (cx c (σ3 d a b)) 40 (.fn 410) [.loc 1,.loc 3] (H7 n k j (symN l) up dg) (.bool (!dg || Nat.beq l 0)) (H7 n k j (symN l) up dg):=by
  have q : arF x n k j (l,up,dg) = arFe n k j (l,up,dg):=List.map_inj_left.mp (arF_all x n k j) (l,up,dg) hm
  exact tc_vres (n:=0) (gc_base (b:=b) W hd ha hne) q
theorem ar_small (W : Wo c K x) (hnd : lo.Nodup) (hlo : ∀ a ∈ lo,a < 5) (hl : lo.length ≤ 3) : TC c 40 (.fn 410) [.loc 1,.loc 3] (H7 n k j (nkL lo) up dg) (.bool (conc dg lo)) (H7 n k j (nkL lo) up dg):=by
  match lo,hnd,hlo,hl with
  | [],_,_,_=>
    have T:=ar_gc (c:=c) (n:=n) (k:=k) (j:=j) (up:=up) (dg:=dg) (b:=0) W (show 0 < 5 by decide) (show 1 < 5 by decide) (by decide) (l:=0) (by cases up <;> cases dg <;> decide +kernel)
    have T:=(ds_TC (cx_E c _)).mp T
    cases up <;> cases dg <;> exact T
  | [d],_,hlo,_=>
    have hd:=hlo d (List.mem_cons_self ..)
    cases dg with
    | true=>
      have q : ar1 x n k j (d,up) = ar1e n k j (d,up):=List.map_inj_left.mp (ar1_all x n k j) (d,up) (by
        match d,hd with
        | 0,_=>cases up <;> decide +kernel
        | 1,_=>cases up <;> decide +kernel
        | 2,_=>cases up <;> decide +kernel
        | 3,_=>cases up <;> decide +kernel
        | 4,_=>cases up <;> decide +kernel)
      exact TC.le (tc_vres (n:=0) (W.b0 (D:=0)) q) (by decide)
    | false=>
      obtain ⟨a,ha,hne⟩ : ∃ a,a < 5 ∧ d ≠ a:=if h : d = 0 then ⟨1,by decide,by omega⟩ else ⟨0,by decide,h⟩
      have T:=ar_gc (c:=c) (n:=n) (k:=k) (j:=j) (up:=up) (dg:=false) (b:=0) W hd ha hne (l:=1) (by cases up <;> decide +kernel)
      have T:=(ds_TC (cx_E c _)).mp T
      cases up <;> exact T
  | [d,a],hnd,hlo,_=>
    have hd:=hlo d (List.mem_cons_self ..)
    have ha:=hlo a (List.mem_cons_of_mem _ (List.mem_cons_self ..))
    have hne : d ≠ a:=fun q=>(List.nodup_cons.mp hnd).1 (q ▸ List.mem_cons_self ..)
    have T:=ar_gc (c:=c) (n:=n) (k:=k) (j:=j) (up:=up) (dg:=dg) (b:=0) W hd ha hne (l:=2) (by cases up <;> cases dg <;> decide +kernel)
    have T:=(ds_TC (cx_E c _)).mp T
    cases up <;> cases dg <;> exact T
  | [d,a,b],hnd,hlo,_=>
    have hd:=hlo d (List.mem_cons_self ..)
    have ha:=hlo a (List.mem_cons_of_mem _ (List.mem_cons_self ..))
    have hne : d ≠ a:=fun q=>(List.nodup_cons.mp hnd).1 (q ▸ List.mem_cons_self ..)
    have T:=ar_gc (c:=c) (n:=n) (k:=k) (j:=j) (up:=up) (dg:=dg) (b:=b) W hd ha hne (l:=3) (by cases up <;> cases dg <;> decide +kernel)
    have T:=(ds_TC (cx_E c _)).mp T
    cases up <;> cases dg <;> exact T
theorem ar_v (W : Wo c K x) (hnd : lo.Nodup) (hlo : ∀ a ∈ lo,a < 5) (hl : lo.length ≤ 3) : TC c 40 (.fn 410) [.loc 1,.loc 3] (Hv n k j (nkL lo) up dg []) (.bool (conc dg lo)) (Hv n k j (nkL lo) up dg []):=by
  have key : ∀ lo : List Nat,lo.length ≤ 3 → ∀ up α,view [0,1,2,3,4,6,7] [] (outA α) (Hv n k j (nkL lo) up dg []) = some (H7 n k j (nkL lo) up dg) ∧ backAll ([0,1,2,3,4,6,7] ++ []) (hlen (Hv n k j (nkL lo) up dg [])) (Hv n k j (nkL lo) up dg []) ([0,1,2,3,4,6,7] ++ []) = true:=fun lo hl up α=>match lo,hl,up with
    | [],_,true=>⟨by kernel_rfl,by kernel_rfl⟩
    | [],_,false=>⟨by kernel_rfl,by kernel_rfl⟩
    | [a],_,true=>⟨by kernel_rfl,by kernel_rfl⟩
    | [a],_,false=>⟨by kernel_rfl,by kernel_rfl⟩
    | [a,b],_,true=>⟨by kernel_rfl,by kernel_rfl⟩
    | [a,b],_,false=>⟨by kernel_rfl,by kernel_rfl⟩
    | [a,b,d],_,true=>⟨by kernel_rfl,by kernel_rfl⟩
    | [a,b,d],_,false=>⟨by kernel_rfl,by kernel_rfl⟩
  exact tc_fr (ι:=[0,1,2,3,4,6,7]) (κ:=[]) (H:=Hv n k j (nkL lo) up dg []) (H':=Hv n k j (nkL lo) up dg []) (as0:=fun _=>[.loc 1,.loc 3]) (H0:=fun α=>_) (H0':=fun α=>_) (v0:=.bool (conc dg lo))
    rfl (fun i j e=>(hget_no e).elim) (key lo hl up fun _=>0).2 rfl (fun _ _ _ _ e=>e) (fun α=>by kernel_rfl) (fun α=>(key lo hl up α).1) (fun α=>(key lo hl up α).1) (fun α=>rfl) fun α=>ar_small W hnd hlo hl
theorem ar_n (W : Wo c K x) : TC c 40 (.fn 410) [.loc 1,.loc 3] (Hn n k j []) (.bool true) (Hn n k j []):=
  tc_fr (ι:=[0,1,2,3,4]) (κ:=[]) (H:=Hn n k j []) (H':=Hn n k j []) (as0:=fun _=>[.loc 1,.loc 3]) (H0:=fun α=>[SeO n k,.inst 439 0,SiO (.loc 4) j,.inst 263 2,.dict [] []]) (H0':=fun α=>[SeO n k,.inst 439 0,SiO (.loc 4) j,.inst 263 2,.dict [] []]) (v0:=.bool true)
    rfl (fun i j e=>(hget_no e).elim) (by kernel_rfl) rfl (fun _ _ _ _ e=>e) (fun α=>by kernel_rfl) (fun α=>by kernel_rfl) (fun α=>by kernel_rfl) (fun α=>rfl) fun α=>TC.le (tc_vres (n:=0) (W.b0 (D:=0)) (ar0_eq x n k j)) (by decide)
theorem sett_ok {up : Bool} : ∀ (L : List Gd) (lo : List Nat) {lo' : List Nat},(∀ g ∈ L,okG g) → lo.Nodup → (∀ a ∈ lo,a < 5) → cntT L + lo.length ≤ 3 → sett up L lo = some lo' → lo'.Nodup ∧ (∀ a ∈ lo',a < 5) ∧ lo'.length ≤ 3
  | [],lo,lo',_,h1,h2,h3,h=>by cases h; exact ⟨h1,h2,by have : cntT [] = 0:=rfl; omega⟩
  | .fn :: L,lo,lo',hL,h1,h2,h3,h=>sett_ok L lo (fun g m=>hL g (List.mem_cons_of_mem _ m)) h1 h2 h3 h
  | .nn d e :: L,lo,lo',hL,h1,h2,h3,h=>by
    have h : (if sub d e then sett up L lo else none) = some lo':=h
    split at h
    · exact sett_ok L lo (fun g m=>hL g (List.mem_cons_of_mem _ m)) h1 h2 h3 h
    · cases h
  | .nt d :: L,lo,lo',hL,h1,h2,h3,h=>by
    have l2 : cntT (Gd.nt d :: L) = cntT L + 1:=rfl
    have h : (if lo.any (Nat.beq · d) then sett up L lo else if up && !sub d 1 then none else sett up L (lo ++ [d])) = some lo':=h
    split at h
    · exact sett_ok L lo (fun g m=>hL g (List.mem_cons_of_mem _ m)) h1 h2 (by omega) h
    · rename_i hn
      split at h
      · cases h
      · refine sett_ok L (lo ++ [d]) (fun g m=>hL g (List.mem_cons_of_mem _ m)) ?_ (fun a m=>(List.mem_append.mp m).elim (h2 a) fun m=>List.mem_singleton.mp m ▸ (hL _ (List.mem_cons_self ..) : d < 5)) (by rw [List.length_append]; show cntT L + (lo.length + 1) ≤ 3; omega) h
        refine List.nodup_append.mpr ⟨h1,List.pairwise_singleton ..,fun a ha b hb q=>hn ?_⟩
        obtain rfl:=List.mem_singleton.mp hb
        exact List.any_eq_true.mpr ⟨a,ha,by rw [q]; exact Nat.beq_refl _⟩
end
noncomputable def Hs0 (n : Nat) (k : Addr) (g : AV) : Hs:=[SeO n k,.inst 439 0,SiO (.loc 4) 0,.inst 263 2,.dict [] [],.list 1 [g]]
noncomputable def pkV (b : Bool) : AV:=match b with | true=>.loc 3 | false=>.none
noncomputable def ansV (dg : Bool) (o : Option (List Nat)) : AV:=match o with | some lo=>pkV (conc dg lo) | none=>.none
noncomputable def ansN (o : Option (List Nat)) : AV:=match o with | some _=>.loc 3 | none=>.none
noncomputable def V345 (w : Addr) : Vs:=[(z_self,.loc 1),(z_left,.loc 5),(z_sides,.loc 3),(z_waiting,.fn w)]
section
variable {c : Cx} {K : Frag} {x : AO} {N n j d D p : Nat} {k a w : Addr} {g v : AV} {r as : List AV} {lo : List Nat} {up dg : Bool} {H H' H1 : Hs} {V V' V0 : Vs} {kd : Kd} {e : Expr} {b : List Stmt} {fl : Fl} {t : Stmt}
theorem tw_lr (W : Wk c kd (hlen H) .next V0 H .next V H) (r : LR c n kd e b (hlen H) V H fl V' H') : TW c n kd e b V0 H fl V' H':=fun A env ρ s X=>lr_go r A env ρ s s X.a (by rw [X.R.len,← hlen_eq]) (W env ρ s .next s (by rw [X.R.len,← hlen_eq]) (.mk ρ X.R X.RV rfl .refl (.refl s)))
theorem LR.le {m : Nat} (r : LR c n kd e b p V H fl V' H') (h : n ≤ m) : LR c m kd e b p V H fl V' H':=by
  have tt : ∀ {V : Vs} {H H1 : Hs} {x : Bool},TT c n kd e V H x H1 → TT c m kd e V H x H1:=fun t A env ρ s X=>t A env ρ s ⟨X.a.le h,X.R,X.RV⟩
  have ts : ∀ {V : Vs} {H H1 : Hs} {fl : Fl} {V1 : Vs},TSs c n kd b V H fl V1 H1 → TSs c m kd b V H fl V1 H1:=fun t A env ρ s X=>t A env ρ s ⟨X.a.le h,X.R,X.RV⟩
  induction r with
  | fin t=>exact .fin (tt t)
  | ret t T=>exact .ret (tt t) (ts T)
  | nxt t T w r ih=>exact .nxt (tt t) (ts T) w ih
  | post r w ih=>exact .post ih w
theorem look_w (x : Str) (v : AV) (e : Mine.look Vh x = some v) : Mine.look (V345 w) x = some v:=by
  have e : iff (seqb z_self x) (some (AV.loc 1)) (iff (seqb z_left x) (some (.loc 5)) (iff (seqb z_sides x) (some (.loc 3)) none)) = some v:=e
  show iff (seqb z_self x) (some (AV.loc 1)) (iff (seqb z_left x) (some (.loc 5)) (iff (seqb z_sides x) (some (.loc 3)) (iff (seqb z_waiting x) (some (.fn w)) none))) = some v
  cases h1 : seqb z_self x with
  | true=>rw [h1] at e; exact e
  | false=>
    cases h2 : seqb z_left x with
    | true=>rw [h1,h2] at e; exact e
    | false=>
      cases h3 : seqb z_sides x with
      | true=>rw [h1,h2,h3] at e; exact e
      | false=>rw [h1,h2,h3] at e; cases e
theorem start_w (g : AV) : Wk c f_345.kd 6 .next (V345 w) (Hs0 n k g) .next Vh (Hs0 n k g):=fun env ρ0 s0 f s' hl q=>match q with
  | .mk ρ' R RV F S M=>.mk ρ' R ⟨RV.kind,RV.names,RV.glob,RV.blt,match RV.loc with | .mk m hn hv=>.mk m hn fun x v e k=>hv x v (look_w x v e) k,RV.locNew,RV.locρ,RV.cells,RV.apart,RV.has,fun x v a e k f=>RV.cvar x v a (look_w x v e) k f⟩ F S M
theorem r20_ok (W : Wo c K x) (m : Nat) : CaOk c K (1 + m) (run (Gx x) 60 1).call:=run_ok (W.b0 (D:=m)) 60 1
theorem ts_ar (W : Wo c K x) (ok : okS (Gx x) s345r f_345.kd t = true) {cb : Bool} (T : TC c 40 (.fn 410) [.loc 1,.loc 3] H (.bool cb) H)
    (eq : ∀ call : AV → List AV → Hs → Option (AV × Hs),exD (Gx x) ⟨call,60⟩ s345r Vh H = bnd (bnd (call (.fn 410) [.loc 1,.loc 3] H) fun x H1=>asBool x fun t=>iff t (some (.loc 3,H1)) (some (.none,H1))) fun v H1=>rtn v Vh H1) :
    TS c 40 f_345.kd t Vh H (.ret (pkV cb)) Vh H:=by
  have C1:=one_ok (n:=40) (r:=(.bool cb,H)) (r20_ok W 39) (W.keepFn (a:=410) (f:=f_410) rfl) T
  refine ts_run (R:=⟨_,60⟩) (W.b0 (D:=0)) C1 ok ((eq _).trans ((congrArg (fun o=>bnd (bnd o fun x H1=>asBool x fun t=>iff t (some (AV.loc 3,H1)) (some (.none,H1))) fun v H1=>rtn v Vh H1) one_at).trans ?_))
  cases cb <;> rfl
theorem gone6_of (q : TSs c n kd b V H (.ret v) V' H1) (hp : hlen H = 6) (hv : view [0,1,2,3,4,5] [false,false,false,false,false,false] anyO H1 = some gone6) : TSs c n kd b V H (.ret (sb [0,1,2,3,4,5] anyO v)) [] gone6:=tss_wk q (by rw [hp]; exact wk_view [] (by kernel_rfl) hv)
theorem settled_v (W : Wo c K x) {L : List Gd} (hL : ∀ g ∈ L,okG g) (hc : cntT L ≤ 3) (hq : ∀ e b,okE (Gx x) ce345 f_345.kd e = true → okSs (Gx x) b345 f_345.kd b = true → EndV c 20 e b k 1 up dg Vh (Hs0 n k g) (sett up L [])) (w : Addr) : TC c 41 (.fn 345) [.loc 1,.loc 5,.loc 3,.fn w] (Hs0 n k g) (ansV dg (sett up L [])) gone6:=by
  have B0:=W.b0 (D:=0)
  have main : ∀ body,okSs (Gx x) f_345.bd f_345.kd body = true → TSs c 40 f_345.kd body (V345 w) (Hs0 n k g) (.ret (ansV dg (sett up L []))) [] gone6:=fun body ok=>by
    rw [f345_bd] at ok
    refine oks_cons (M:=fun b=>TSs c 40 f_345.kd b (V345 w) (Hs0 n k g) (.ret (ansV dg (sett up L []))) [] gone6) ok fun t1 b h1 ok=>oks_cons (M:=fun b=>TSs c 40 f_345.kd (t1 :: b) (V345 w) (Hs0 n k g) (.ret (ansV dg (sett up L []))) [] gone6) ok fun t2 b h2 ok=>oks_nil (M:=fun b=>TSs c 40 f_345.kd (t1 :: t2 :: b) (V345 w) (Hs0 n k g) (.ret (ansV dg (sett up L []))) [] gone6) ok ?_
    refine oks_whl (M:=fun t1=>TSs c 40 f_345.kd [t1,t2] (V345 w) (Hs0 n k g) (.ret (ansV dg (sett up L []))) [] gone6) h1 fun e b pos he hb=>?_
    have Q:=hq e b he hb
    revert Q
    cases hs : sett up L [] with
    | none=>
      intro Q
      cases Q with
      | no r=>exact tss_ret (ts_while (tw_lr (H:=Hs0 n k g) (V0:=V345 w) (start_w g) (r.le (Nat.le_of_ble_eq_true (n:=20) (m:=40) rfl))))
    | some lo=>
      intro Q
      cases Q with
      | yes _ n' r=>
        obtain ⟨f1,f2,f3⟩:=sett_ok L [] hL List.nodup_nil (fun _ m=>nomatch m) (by simpa using hc) hs
        have T:=ar_v (n:=n') (k:=k) (j:=1) (up:=up) (dg:=dg) W f1 f2 f3
        have T2:=ts_ar W h2 T (fun call=>by kernel_rfl)
        have q:=tss_next (ts_while (pos:=pos) (tw_lr (H:=Hs0 n k g) (V0:=V345 w) (start_w g) (r.le (Nat.le_of_ble_eq_true (n:=20) (m:=40) rfl)))) (tss_ret (ts:=[]) T2)
        have q:=gone6_of q rfl (by kernel_rfl)
        unfold ansV
        dsimp only
        revert q
        cases conc dg lo <;> exact id
  exact tc_fn (G:=Gx x) (fn:=f_345) (fl:=.ret (ansV dg (sett up L []))) B0 rfl (Nat.le_refl 4) (Nat.le_refl 4) main
theorem settled_n (W : Wo c K x) {o : Option (List Nat)} {j : Nat} (hq : ∀ e b,okE (Gx x) ce345 f_345.kd e = true → okSs (Gx x) b345 f_345.kd b = true → EndN c 20 e b k j Vh (Hs0 n k g) o) (w : Addr) : TC c 41 (.fn 345) [.loc 1,.loc 5,.loc 3,.fn w] (Hs0 n k g) (ansN o) gone6:=by
  have B0:=W.b0 (D:=0)
  have main : ∀ body,okSs (Gx x) f_345.bd f_345.kd body = true → TSs c 40 f_345.kd body (V345 w) (Hs0 n k g) (.ret (ansN o)) [] gone6:=fun body ok=>by
    rw [f345_bd] at ok
    refine oks_cons (M:=fun b=>TSs c 40 f_345.kd b (V345 w) (Hs0 n k g) (.ret (ansN o)) [] gone6) ok fun t1 b h1 ok=>oks_cons (M:=fun b=>TSs c 40 f_345.kd (t1 :: b) (V345 w) (Hs0 n k g) (.ret (ansN o)) [] gone6) ok fun t2 b h2 ok=>oks_nil (M:=fun b=>TSs c 40 f_345.kd (t1 :: t2 :: b) (V345 w) (Hs0 n k g) (.ret (ansN o)) [] gone6) ok ?_
    refine oks_whl (M:=fun t1=>TSs c 40 f_345.kd [t1,t2] (V345 w) (Hs0 n k g) (.ret (ansN o)) [] gone6) h1 fun e b pos he hb=>?_
    have Q:=hq e b he hb
    revert Q
    cases o with
    | none=>
      intro Q
      cases Q with
      | no r=>exact tss_ret (ts_while (tw_lr (H:=Hs0 n k g) (V0:=V345 w) (start_w g) (r.le (Nat.le_of_ble_eq_true (n:=20) (m:=40) rfl))))
    | some lo=>
      intro Q
      cases Q with
      | yes _ n' r=>
        have T2:=ts_ar W h2 (ar_n (n:=n') (k:=k) (j:=j) W) (fun call=>by kernel_rfl)
        have q:=tss_next (ts_while (pos:=pos) (tw_lr (H:=Hs0 n k g) (V0:=V345 w) (start_w g) (r.le (Nat.le_of_ble_eq_true (n:=20) (m:=40) rfl)))) (tss_ret (ts:=[]) T2)
        exact gone6_of q rfl (by kernel_rfl)
  exact tc_fn (G:=Gx x) (fn:=f_345) (fl:=.ret (ansN o)) B0 rfl (Nat.le_refl 4) (Nat.le_refl 4) main
end
structure Shp where
  m : Nat
  ks : List (Option Nat)
  tl : Option (Option Nat)
  up : Bool
noncomputable def vT : AV:=.tup [.str z_var,.str z__84_46_50]
noncomputable def kdV (t : AV) (σ : Nat → AV) (o : Option Nat) : AV:=match o with | none=>t | some i=>nkv (σ i)
noncomputable def isT (o : Option Nat) : Bool:=match o with | none=>true | some _=>false
noncomputable def mapL {α β : Type} (f : α → β) (l : List α) : List β:=List.rec (motive:=fun _=>List β) [] (fun a _ ih=>f a :: ih) l
noncomputable def rowV (σ : Nat → AV) (l : List Nat) : AV:=.tup [.str z_tuple,.tup (fnv :: mapL (fun i=>nkv (σ i)) l),.none]
noncomputable def bodV (t : AV) (σ : Nat → AV) (s : Shp) : AV:=.tup [.str z_tuple,.tup (fnv :: mapL (kdV t σ) s.ks),match s.tl with | none=>.none | some o=>kdV t σ o]
noncomputable def anyT (l : List (Option Nat)) : Bool:=List.rec (motive:=fun _=>Bool) false (fun o _ ih=>match isT o with | true=>true | false=>ih) l
noncomputable def hasT (s : Shp) : Bool:=match anyT s.ks with | true=>true | false=>(match s.tl with | none=>false | some o=>isT o)
noncomputable def upN (up : Bool) : Nat:=match up with | true=>1 | false=>3
noncomputable def othU (u : AV) (σ : Nat → AV) (s : Shp) : AV:=match hasT s with
  | true=>.tup [.str z_all,.str z__84_46_50,.tup [.str z_bottom],u,bodV vT σ s]
  | false=>bodV vT σ s
noncomputable def othV (σ : Nat → AV) (s : Shp) : AV:=othU (nk (upN s.up)) σ s
noncomputable def rg (m : Nat) : List Nat:=match m with | 0=>[] | 1=>[0] | 2=>[0,1] | _=>[0,1,2]
noncomputable def cntL (l : List (Option Nat)) : Nat:=List.rec (motive:=fun _=>Nat) 0 (fun o _ ih=>match isT o with | true=>ih + 1 | false=>ih) l
noncomputable def dgS (s : Shp) : Bool:=Nat.ble 2 (cntL s.ks + match s.tl with | none=>0 | some o=>match isT o with | true=>2 | false=>0)
noncomputable def wan (s : Shp) (i : Nat) : Option Nat:=match hget s.ks i with | some o=>o | none=>(match s.tl with | some o=>o | none=>none)
noncomputable def goalsV (σ : Nat → AV) (s : Shp) : List AV:=mapL (fun i=>gl (nkv (σ i)) (kdV vT1 σ (wan s i))) (rg s.m).reverse ++ [gl fnv fnv]
noncomputable def σy : Nat → AV:=AV.sym
noncomputable def ιS (H : Hs) : List Nat:=match hget H 4 with
  | some (.dict _ [.loc s])=>(match hget H s with | some (.inst _ d)=>[0,1,2,3,4,5,d,s] | _=>[0,1,2,3,4,5])
  | _=>[0,1,2,3,4,5]
noncomputable def xrF (o : Option (Fl × Vs × Hs)) : Option (Fl × Vs × Hs):=match o with
  | some (fl,V,H)=>grd (preB 6 (ιS H) 0) (bn1 (view (ιS H) [] anyO H) fun H2=>bn1 (hget H2 5) fun o=>asList o fun _ r=>grd (Nat.ble r.length 20) (some (sbF (ιS H) anyO fl,vwV (ιS H) anyO V xsh,setN H2 5 (.list 30 r))))
  | none=>none
noncomputable def T1 (x : AO) (n : Nat) (k : Addr) (s : Shp) : Option (Fl × Vs × Hs):=xrF (exDs (Gx x) (run (Gx x) 60 20) b345 Vh (Hs0 (n + 1) k (gl (rowV σy (rg s.m)) (othV σy s)) ++ [.list 0 []]))
noncomputable def T1e (n : Nat) (k : Addr) (s : Shp) : Option (Fl × Vs × Hs):=match hasT s with
  | true=>some (.next,Vh,Hv n k 1 [] s.up (dgS s) [gl (rowV σy (rg s.m)) (bodV vT1 σy s)])
  | false=>some (.next,Vh,Hn n k 0 (goalsV σy s))
noncomputable def T2 (x : AO) (n : Nat) (k : Addr) (s : Shp) : Option (Fl × Vs × Hs):=xrF (exDs (Gx x) (run (Gx x) 60 20) b345 Vh (Hv (n + 1) k 1 [] s.up (dgS s) [gl (rowV σy (rg s.m)) (bodV vT1 σy s)] ++ [.list 0 []]))
noncomputable def T2e (n : Nat) (k : Addr) (s : Shp) : Option (Fl × Vs × Hs):=some (.next,Vh,Hv n k 1 [] s.up (dgS s) (goalsV σy s))
abbrev QO:=Nat × List Bool × Bool × Bool
abbrev QR:=List Bool × Bool
noncomputable def ksF (p : List Bool) : Nat → List (Option Nat):=List.rec (motive:=fun _=>Nat → List (Option Nat)) (fun _=>[]) (fun b _ ih i=>(match b with | true=>none | false=>some i) :: ih (i + 1)) p
noncomputable def llen (p : List Bool) : Nat:=List.rec (motive:=fun _=>Nat) 0 (fun _ _ ih=>ih + 1) p
noncomputable def mkO (q : QO) : Shp:=⟨q.1,ksF q.2.1 3,some (match q.2.2.1 with | true=>none | false=>some 6),q.2.2.2⟩
noncomputable def mkR (q : QR) : Shp:=⟨llen q.1,ksF q.1 3,none,q.2⟩
def allO0 : List QO:=[(0,[],false,false),(0,[],true,false),(0,[],true,true),(1,[],false,false),(1,[],true,false),(1,[],true,true),(1,[false],false,false),(1,[false],true,false),(1,[false],true,true),(1,[true],false,false),(1,[true],false,true),(1,[true],true,false),(1,[true],true,true),(2,[],false,false),(2,[],true,false),(2,[],true,true)]
def allO1 : List QO:=[(2,[false],false,false),(2,[false],true,false),(2,[false],true,true),(2,[true],false,false),(2,[true],false,true),(2,[true],true,false),(2,[true],true,true),(2,[false,false],false,false),(2,[false,false],true,false),(2,[false,false],true,true),(2,[false,true],false,false),(2,[false,true],false,true),(2,[false,true],true,false),(2,[false,true],true,true),(2,[true,false],false,false),(2,[true,false],false,true)]
def allO2 : List QO:=[(2,[true,false],true,false),(2,[true,false],true,true),(2,[true,true],false,false),(2,[true,true],false,true),(2,[true,true],true,false),(2,[true,true],true,true),(3,[],false,false),(3,[],true,false),(3,[],true,true),(3,[false],false,false),(3,[false],true,false),(3,[false],true,true),(3,[true],false,false),(3,[true],false,true),(3,[true],true,false),(3,[true],true,true)]
def allO3 : List QO:=[(3,[false,false],false,false),(3,[false,false],true,false),(3,[false,false],true,true),(3,[false,true],false,false),(3,[false,true],false,true),(3,[false,true],true,false),(3,[false,true],true,true),(3,[true,false],false,false),(3,[true,false],false,true),(3,[true,false],true,false),(3,[true,false],true,true),(3,[true,true],false,false),(3,[true,true],false,true),(3,[true,true],true,false),(3,[true,true],true,true),(3,[false,false,false],false,false)]
def allO4 : List QO:=[(3,[false,false,false],true,false),(3,[false,false,false],true,true),(3,[false,false,true],false,false),(3,[false,false,true],false,true),(3,[false,false,true],true,false),(3,[false,false,true],true,true),(3,[false,true,false],false,false),(3,[false,true,false],false,true),(3,[false,true,false],true,false),(3,[false,true,false],true,true),(3,[false,true,true],false,false),(3,[false,true,true],false,true),(3,[false,true,true],true,false),(3,[false,true,true],true,true),(3,[true,false,false],false,false),(3,[true,false,false],false,true)]
def allO5 : List QO:=[(3,[true,false,false],true,false),(3,[true,false,false],true,true),(3,[true,false,true],false,false),(3,[true,false,true],false,true),(3,[true,false,true],true,false),(3,[true,false,true],true,true),(3,[true,true,false],false,false),(3,[true,true,false],false,true),(3,[true,true,false],true,false),(3,[true,true,false],true,true),(3,[true,true,true],false,false),(3,[true,true,true],false,true),(3,[true,true,true],true,false),(3,[true,true,true],true,true)]
def allO : List QO:=allO0 ++ (allO1 ++ (allO2 ++ (allO3 ++ (allO4 ++ (allO5)))))
def allP0 : List QO:=[(0,[],false,false),(0,[],true,false),(1,[],false,false),(1,[],true,false),(1,[false],false,false),(1,[false],true,false),(1,[true],false,false),(1,[true],true,false),(2,[],false,false),(2,[],true,false),(2,[false],false,false),(2,[false],true,false),(2,[true],false,false)]
def allP1 : List QO:=[(2,[true],true,false),(2,[false,false],false,false),(2,[false,false],true,false),(2,[false,true],false,false),(2,[false,true],true,false),(2,[true,false],false,false),(2,[true,false],true,false),(2,[true,true],false,false),(2,[true,true],true,false),(3,[],false,false),(3,[],true,false),(3,[false],false,false),(3,[false],true,false)]
def allP2 : List QO:=[(3,[true],false,false),(3,[true],true,false),(3,[false,false],false,false),(3,[false,false],true,false),(3,[false,true],false,false),(3,[false,true],true,false),(3,[true,false],false,false),(3,[true,false],true,false),(3,[true,true],false,false),(3,[true,true],true,false),(3,[false,false,false],false,false),(3,[false,false,false],true,false),(3,[false,false,true],false,false)]
def allP3 : List QO:=[(3,[false,false,true],true,false),(3,[false,true,false],false,false),(3,[false,true,false],true,false),(3,[false,true,true],false,false),(3,[false,true,true],true,false),(3,[true,false,false],false,false),(3,[true,false,false],true,false),(3,[true,false,true],false,false),(3,[true,false,true],true,false),(3,[true,true,false],false,false),(3,[true,true,false],true,false),(3,[true,true,true],false,false),(3,[true,true,true],true,false)]
def allP : List QO:=allP0 ++ (allP1 ++ (allP2 ++ (allP3)))
def allR0 : List QR:=[([true],false),([true],true),([false,true],false),([false,true],true),([true,false],false),([true,false],true),([true,true],false),([true,true],true),([false,false,true],false),([false,false,true],true),([false,true,false],false)]
def allR1 : List QR:=[([false,true,false],true),([false,true,true],false),([false,true,true],true),([true,false,false],false),([true,false,false],true),([true,false,true],false),([true,false,true],true),([true,true,false],false),([true,true,false],true),([true,true,true],false),([true,true,true],true)]
def allR : List QR:=allR0 ++ (allR1)
def allS0 : List QR:=[([true],false),([false,true],false),([true,false],false),([true,true],false),([false,false,true],false),([false,true,false],false),([false,true,true],false),([true,false,false],false),([true,false,true],false),([true,true,false],false),([true,true,true],false)]
def allS : List QR:=allS0
abbrev QN:=Nat × Nat
noncomputable def rpF (m : Nat) : List Bool:=match m with | 0=>[] | 1=>[false] | 2=>[false,false] | _=>[false,false,false]
noncomputable def mkN (q : QN) : Shp:=⟨q.1,ksF (rpF q.1) 3,none,false⟩
def allN : List QN:=[(1,0),(2,0),(2,1),(3,0),(3,1),(3,2)]
noncomputable def knF (f : Nat) : Nat → Nat → Option Bool:=fun i j=>match Nat.beq i f with | true=>(match Nat.beq j (3 + f) with | true=>some false | false=>none) | false=>none
noncomputable def T1N (x : AO) (n : Nat) (k : Addr) (q : QN) : Option (Fl × Vs × Hs):=xrF (exDs (Gk x (knF q.2)) (run (Gk x (knF q.2)) 60 20) b345 Vh (Hs0 (n + 1) k (gl (rowV σy (rg q.1)) (othV σy (mkN q))) ++ [.list 0 []]))
theorem mem_or {α : Type} {l m : List α} {P : α → Prop} (h : ∀ q ∈ l,P q) (k : ∀ q ∈ m,P q) : ∀ q ∈ l ++ m,P q:=fun q z=>(List.mem_append.mp z).elim (h q) (k q)
theorem T1O_all_0 (x : AO) (n : Nat) (k : Addr) : allO0.map (fun q=>T1 x n k (mkO q)) = allO0.map (fun q=>T1e n k (mkO q)):=by kernel_rfl
theorem T1O_all_1 (x : AO) (n : Nat) (k : Addr) : allO1.map (fun q=>T1 x n k (mkO q)) = allO1.map (fun q=>T1e n k (mkO q)):=by kernel_rfl
theorem T1O_all_2 (x : AO) (n : Nat) (k : Addr) : allO2.map (fun q=>T1 x n k (mkO q)) = allO2.map (fun q=>T1e n k (mkO q)):=by kernel_rfl
theorem T1O_all_3 (x : AO) (n : Nat) (k : Addr) : allO3.map (fun q=>T1 x n k (mkO q)) = allO3.map (fun q=>T1e n k (mkO q)):=by kernel_rfl
theorem T1O_all_4 (x : AO) (n : Nat) (k : Addr) : allO4.map (fun q=>T1 x n k (mkO q)) = allO4.map (fun q=>T1e n k (mkO q)):=by kernel_rfl
theorem T1O_all_5 (x : AO) (n : Nat) (k : Addr) : allO5.map (fun q=>T1 x n k (mkO q)) = allO5.map (fun q=>T1e n k (mkO q)):=by kernel_rfl
theorem T1O_all (x : AO) (n : Nat) (k : Addr) : ∀ q ∈ allO,T1 x n k (mkO q) = T1e n k (mkO q):=mem_or (List.map_inj_left.mp (T1O_all_0 x n k)) (mem_or (List.map_inj_left.mp (T1O_all_1 x n k)) (mem_or (List.map_inj_left.mp (T1O_all_2 x n k)) (mem_or (List.map_inj_left.mp (T1O_all_3 x n k)) (mem_or (List.map_inj_left.mp (T1O_all_4 x n k)) (List.map_inj_left.mp (T1O_all_5 x n k))))))
theorem T1R_all_0 (x : AO) (n : Nat) (k : Addr) : allR0.map (fun q=>T1 x n k (mkR q)) = allR0.map (fun q=>T1e n k (mkR q)):=by kernel_rfl
theorem T1R_all_1 (x : AO) (n : Nat) (k : Addr) : allR1.map (fun q=>T1 x n k (mkR q)) = allR1.map (fun q=>T1e n k (mkR q)):=by kernel_rfl
theorem T1R_all (x : AO) (n : Nat) (k : Addr) : ∀ q ∈ allR,T1 x n k (mkR q) = T1e n k (mkR q):=mem_or (List.map_inj_left.mp (T1R_all_0 x n k)) (List.map_inj_left.mp (T1R_all_1 x n k))
theorem T1N_all_0 (x : AO) (n : Nat) (k : Addr) : allN.map (fun q=>T1N x n k q) = allN.map (fun q=>T1e n k (mkN q)):=by kernel_rfl
theorem T1N_all (x : AO) (n : Nat) (k : Addr) : ∀ q ∈ allN,T1N x n k q = T1e n k (mkN q):=List.map_inj_left.mp (T1N_all_0 x n k)
theorem T2O_all_0 (x : AO) (n : Nat) (k : Addr) : allO0.map (fun q=>T2 x n k (mkO q)) = allO0.map (fun q=>T2e n k (mkO q)):=by kernel_rfl
theorem T2O_all_1 (x : AO) (n : Nat) (k : Addr) : allO1.map (fun q=>T2 x n k (mkO q)) = allO1.map (fun q=>T2e n k (mkO q)):=by kernel_rfl
theorem T2O_all_2 (x : AO) (n : Nat) (k : Addr) : allO2.map (fun q=>T2 x n k (mkO q)) = allO2.map (fun q=>T2e n k (mkO q)):=by kernel_rfl
theorem T2O_all_3 (x : AO) (n : Nat) (k : Addr) : allO3.map (fun q=>T2 x n k (mkO q)) = allO3.map (fun q=>T2e n k (mkO q)):=by kernel_rfl
theorem T2O_all_4 (x : AO) (n : Nat) (k : Addr) : allO4.map (fun q=>T2 x n k (mkO q)) = allO4.map (fun q=>T2e n k (mkO q)):=by kernel_rfl
theorem T2O_all_5 (x : AO) (n : Nat) (k : Addr) : allO5.map (fun q=>T2 x n k (mkO q)) = allO5.map (fun q=>T2e n k (mkO q)):=by kernel_rfl
theorem T2O_all (x : AO) (n : Nat) (k : Addr) : ∀ q ∈ allO,T2 x n k (mkO q) = T2e n k (mkO q):=mem_or (List.map_inj_left.mp (T2O_all_0 x n k)) (mem_or (List.map_inj_left.mp (T2O_all_1 x n k)) (mem_or (List.map_inj_left.mp (T2O_all_2 x n k)) (mem_or (List.map_inj_left.mp (T2O_all_3 x n k)) (mem_or (List.map_inj_left.mp (T2O_all_4 x n k)) (List.map_inj_left.mp (T2O_all_5 x n k))))))
theorem T2R_all_0 (x : AO) (n : Nat) (k : Addr) : allR0.map (fun q=>T2 x n k (mkR q)) = allR0.map (fun q=>T2e n k (mkR q)):=by kernel_rfl
theorem T2R_all_1 (x : AO) (n : Nat) (k : Addr) : allR1.map (fun q=>T2 x n k (mkR q)) = allR1.map (fun q=>T2e n k (mkR q)):=by kernel_rfl
theorem T2R_all (x : AO) (n : Nat) (k : Addr) : ∀ q ∈ allR,T2 x n k (mkR q) = T2e n k (mkR q):=mem_or (List.map_inj_left.mp (T2R_all_0 x n k)) (List.map_inj_left.mp (T2R_all_1 x n k))
noncomputable def goneAt (ι : List Nat) (H : Hs) : Hs:=List.rec (motive:=fun _=>Hs) H (fun j _ ih=>setN ih j .gone) ι
noncomputable def ι345 (i l s : Nat) : List Nat:=[i - 1,i,s - 1,s,s + 1,l]
noncomputable def isO (o : Option AO) (x : AO) : Bool:=match o with | some y=>sO y x | none=>false
noncomputable def okV (ok : Bool) (s : Nat) : AV:=match ok with | true=>.loc s | false=>.none
noncomputable def gS3 (g0 : AV) (ok : Bool) (i l s w n kx : Nat) (as : List AV) (H : Hs) : Option (AV × Hs):=grd (b2 (sV (.tup as) (.tup [.loc i,.loc l,.loc s,.loc w])) (b2 (isO (hget H (i - 1)) (.ns [z_kinds,z_fuel,z_known] [.bs 9,.int (.ofNat n),.loc kx])) (b2 (Nat.ble 100 n) (b2 (isO (hget H i) (.inst 439 (i - 1))) (b2 (isO (hget H (s - 1)) (SiO (.loc (s + 1)) 0)) (b2 (isO (hget H s) (.inst 263 (s - 1))) (b2 (isO (hget H (s + 1)) (.dict [] [])) (b2 (isO (hget H l) (.list 1 [g0])) (ndB (w :: kx :: ι345 i l s))))))))))
  (some (okV ok s,goneAt (ι345 i l s) H))
noncomputable def ltN (v : Option AV) : Nat:=match v with | some (.loc m)=>m | some (.int (.ofNat m))=>m | _=>0
noncomputable def nsV (o : Option AO) : List AV:=match o with | some (.ns _ vs)=>vs | _=>[]
noncomputable def gS2 (g0 : AV) (ok : Bool) (i l s w : Nat) (as : List AV) (H : Hs) : Option (AV × Hs):=gS3 g0 ok i l s w (ltN (hget (nsV (hget H (i - 1))) 1)) (ltN (hget (nsV (hget H (i - 1))) 2)) as H
noncomputable def gSet (g0 : AV) (ok : Bool) (as : List AV) (H : Hs) : Option (AV × Hs):=gS2 g0 ok (ltN (hget as 0)) (ltN (hget as 1)) (ltN (hget as 2)) (ltN (hget as 3)) as H
noncomputable def ovS (g0 : AV) (ok : Bool) : Addr → Option (List AV → Hs → Option (AV × Hs)):=fun a=>iff (Nat.beq a 345) (some (gSet g0 ok)) none
noncomputable def Gs (x : AO) (g0 : AV) (ok : Bool) (kn : Nat → Nat → Option Bool) : Pg:=⟨gl1,FF x,fn1,cl1,ovS g0 ok,kn,noKl⟩
noncomputable def u7 : AV:=nkv (.sym 7)
noncomputable def isubR (x : AO) (ok : Bool) (kn : Nat → Nat → Option Bool) (s : Shp) : Option (AV × Hs):=(run (Gs x (gl (rowV σy (rg s.m)) (othU u7 σy s)) ok kn) 60 20).call (.fn 496) [.bs 9,rowV σy (rg s.m),othU u7 σy s] []
noncomputable def isubW (x : AO) (s : Shp) : Option (AV × Hs):=(run (Gx x) 60 20).call (.fn 496) [.bs 9,othV σy s,rowV σy (rg s.m)] []
theorem isO_eq {o : Option AO} {x : AO} (h : isO o x = true) : o = some x:=match o,h with | some y,h=>congrArg some (sO_eq h)
theorem goneAt_len (ι : List Nat) (H : Hs) : (goneAt ι H).length = H.length:=by
  induction ι with
  | nil=>rfl
  | cons j ι ih=>exact (setN_len ..).trans ih
theorem goneAt_in {ι : List Nat} {H : Hs} {j : Nat} (m : j ∈ ι) (h : j < H.length) : hget (goneAt ι H) j = some .gone:=by
  obtain ⟨o,e⟩:=hget_of_lt (show j < (goneAt ι H).length by rw [goneAt_len]; exact h)
  rw [e]
  induction ι generalizing o with
  | nil=>cases m
  | cons i ι ih=>
    have e : hget (setN (goneAt ι H) i .gone) j = some o:=e
    refine (setN_get e).elim (fun q=>congrArg some q.2) fun q=>?_
    exact ih ((List.mem_cons.mp m).resolve_left fun z=>q.1 z.symm) o q.2
theorem pos_nd {ι : List Nat} {i j : Nat} (hn : ι.Nodup) (h : hget ι i = some j) : pos ι j = some i:=match e : pos ι j with
  | some k=>congrArg some (hget_inj hn (pos_get e) h)
  | none=>(pos_no e h).elim
theorem pos_out {ι : List Nat} {j : Nat} (h : j ∉ ι) : pos ι j = none:=match e : pos ι j with
  | none=>rfl
  | some i=>absurd (hget_mem (pos_get e)) h
section
variable {c : Cx} {K : Frag} {x : AO} {N n : Nat} {g0 v : AV} {ok : Bool} {as : List AV} {H H' : Hs}
theorem gS3_ok {i l s w n kx : Nat} (hg : noLo g0 = true) (T : ∀ n w k,100 ≤ n → TC c N (.fn 345) [.loc 1,.loc 5,.loc 3,.fn w] (Hs0 n k g0) (pkV ok) gone6) (h : gS3 g0 ok i l s w n kx as H = some (v,H')) : TC c N (.fn 345) as H v H':=by
  refine grd_el h fun hc h=>b2_el hc fun c1 hc=>b2_el hc fun c2 hc=>b2_el hc fun c3 hc=>b2_el hc fun c4 hc=>b2_el hc fun c5 hc=>b2_el hc fun c6 hc=>b2_el hc fun c7 hc=>b2_el hc fun c8 c9=>?_
  cases h
  have e0:=sV_eq _ _ c1
  injection e0 with e0
  subst e0
  have e1:=isO_eq c2
  have e2:=isO_eq c4
  have e3:=isO_eq c5
  have e4:=isO_eq c6
  have e5:=isO_eq c7
  have e6:=isO_eq c8
  have nd:=nd_ok c9
  have nd2 : (kx :: ι345 i l s).Nodup:=(List.nodup_cons.mp nd).2
  have nd3 : (ι345 i l s).Nodup:=(List.nodup_cons.mp nd2).2
  have ow : pos (ι345 i l s) w = none:=pos_out fun m=>(List.nodup_cons.mp nd).1 (List.mem_cons_of_mem _ m)
  have ok' : pos (ι345 i l s) kx = none:=pos_out (List.nodup_cons.mp nd2).1
  have ndb : ndB (ι345 i l s) = true:=by
    have h : (match pos (kx :: ι345 i l s) w with | none=>(match pos (ι345 i l s) kx with | none=>ndB (ι345 i l s) | some _=>false) | some _=>false) = true:=c9
    cases q : pos (kx :: ι345 i l s) w with
    | some _=>rw [q] at h; cases h
    | none=>rw [q,ok'] at h; exact h
  have p0 : pos (ι345 i l s) (i - 1) = some 0:=pos_nd nd3 rfl
  have p1 : pos (ι345 i l s) i = some 1:=pos_nd nd3 rfl
  have p2 : pos (ι345 i l s) (s - 1) = some 2:=pos_nd nd3 rfl
  have p3 : pos (ι345 i l s) s = some 3:=pos_nd nd3 rfl
  have p4 : pos (ι345 i l s) (s + 1) = some 4:=pos_nd nd3 rfl
  have p5 : pos (ι345 i l s) l = some 5:=pos_nd nd3 rfl
  have hin : ∀ j ∈ ι345 i l s,j < H.length:=fun j m=>by
    rcases List.mem_cons.mp m with rfl | m
    · exact hget_lt e1
    rcases List.mem_cons.mp m with rfl | m
    · exact hget_lt e2
    rcases List.mem_cons.mp m with rfl | m
    · exact hget_lt e3
    rcases List.mem_cons.mp m with rfl | m
    · exact hget_lt e4
    rcases List.mem_cons.mp m with rfl | m
    · exact hget_lt e5
    rcases List.mem_cons.mp m with rfl | m
    · exact hget_lt e6
    · cases m
  refine tc_frame (ι:=ι345 i l s) (κ:=[]) (H':=goneAt (ι345 i l s) H) ⟨goneAt_len _ _,fun i j e=>(hget_no e).elim,fun j y m e=>?_,?_,fun j y _ hp e=>?_⟩ fun α=>.mk (Hs0 n (α kx) g0) gone6 ?_ ?_ ?_
  · rw [List.append_nil] at m
    rw [goneAt_in m (hin j m)] at e
    cases e; rfl
  · rw [goneAt_len]
    cases ok
    · rfl
    · exact Nat.blt_eq.mpr (hget_lt e4)
  · have ht : ∀ (ι : List Nat),pos ι j = none → hget (goneAt ι H) j = some y → hget H j = some y:=fun ι=>by
      induction ι with
      | nil=>exact fun _ e=>e
      | cons k ι ih=>
        intro hp e
        have hp : (match Nat.beq k j with | true=>some 0 | false=>(match pos ι j with | some i=>some (i + 1) | none=>none)) = none:=hp
        have e : hget (setN (goneAt ι H) k .gone) j = some y:=e
        cases q : Nat.beq k j with
        | true=>rw [q] at hp; cases hp
        | false=>
          rw [q] at hp
          have hk : k ≠ j:=fun z=>by rw [z,Nat.beq_refl] at q; cases q
          refine ih ?_ ((setN_get e).elim (fun z=>absurd z.1 hk) fun z=>z.2)
          cases q' : pos ι j with
          | none=>rfl
          | some _=>rw [q'] at hp; cases hp
    exact ht _ hp e
  · show grd (ndB (ι345 i l s)) (bn1 (hget H (i - 1)) fun x0=>bn1 (bn1 (hget H i) fun x1=>bn1 (bn1 (hget H (s - 1)) fun x2=>bn1 (bn1 (hget H s) fun x3=>bn1 (bn1 (hget H (s + 1)) fun x4=>bn1 (bn1 (hget H l) fun x5=>bn1 (some []) fun t=>some (sbO (ι345 i l s) (outA α) x5 :: t)) fun t=>some (sbO (ι345 i l s) (outA α) x4 :: t)) fun t=>some (sbO (ι345 i l s) (outA α) x3 :: t)) fun t=>some (sbO (ι345 i l s) (outA α) x2 :: t)) fun t=>some (sbO (ι345 i l s) (outA α) x1 :: t)) fun t=>some (sbO (ι345 i l s) (outA α) x0 :: t)) = _
    rw [ndb,e1,e2,e3,e4,e5,e6]
    show some [AO.ns _ [.bs 9,.int (.ofNat n),(match pos (ι345 i l s) kx with | some i=>AV.loc i | none=>.fn (α kx))],(match pos (ι345 i l s) (i - 1) with | some i=>AO.inst 439 i | none=>.gone),AO.ns _ [(match pos (ι345 i l s) (s + 1) with | some i=>AV.loc i | none=>.fn (α (s + 1))),.int (.ofNat 0)],(match pos (ι345 i l s) (s - 1) with | some i=>AO.inst 263 i | none=>.gone),.dict [] [],.list 1 [sb (ι345 i l s) (outA α) g0]] = _
    rw [ok',p0,p4,p2,sb_noLo _ _ g0 hg]; rfl
  · rw [List.append_nil]
    show grd (ndB (ι345 i l s)) (vwL (ι345 i l s) (outA α) (goneAt (ι345 i l s) H) (ι345 i l s) []) = _
    have gi:=fun j m=>goneAt_in (ι:=ι345 i l s) (H:=H) (j:=j) m (hin j m)
    show grd (ndB (ι345 i l s)) (bn1 (hget (goneAt (ι345 i l s) H) (i - 1)) fun x0=>bn1 (bn1 (hget (goneAt (ι345 i l s) H) i) fun x1=>bn1 (bn1 (hget (goneAt (ι345 i l s) H) (s - 1)) fun x2=>bn1 (bn1 (hget (goneAt (ι345 i l s) H) s) fun x3=>bn1 (bn1 (hget (goneAt (ι345 i l s) H) (s + 1)) fun x4=>bn1 (bn1 (hget (goneAt (ι345 i l s) H) l) fun x5=>bn1 (some []) fun t=>some (sbO (ι345 i l s) (outA α) x5 :: t)) fun t=>some (sbO (ι345 i l s) (outA α) x4 :: t)) fun t=>some (sbO (ι345 i l s) (outA α) x3 :: t)) fun t=>some (sbO (ι345 i l s) (outA α) x2 :: t)) fun t=>some (sbO (ι345 i l s) (outA α) x1 :: t)) fun t=>some (sbO (ι345 i l s) (outA α) x0 :: t)) = _
    rw [ndb,gi (i - 1) (hget_mem (show hget (ι345 i l s) 0 = some (i - 1) from rfl)),gi (i) (hget_mem (show hget (ι345 i l s) 1 = some (i) from rfl)),gi (s - 1) (hget_mem (show hget (ι345 i l s) 2 = some (s - 1) from rfl)),gi (s) (hget_mem (show hget (ι345 i l s) 3 = some (s) from rfl)),gi (s + 1) (hget_mem (show hget (ι345 i l s) 4 = some (s + 1) from rfl)),gi (l) (hget_mem (show hget (ι345 i l s) 5 = some (l) from rfl))]; rfl
  · rw [List.append_nil]
    show TC c N (.fn 345) [(match pos (ι345 i l s) i with | some i=>AV.loc i | none=>.fn (α i)),(match pos (ι345 i l s) l with | some i=>AV.loc i | none=>.fn (α l)),(match pos (ι345 i l s) s with | some i=>AV.loc i | none=>.fn (α s)),(match pos (ι345 i l s) w with | some i=>AV.loc i | none=>.fn (α w))] _ (sb (ι345 i l s) (outA α) (okV ok s)) _
    rw [p1,p5,p3,ow]
    have ev : sb (ι345 i l s) (outA α) (okV ok s) = pkV ok:=by
      cases ok
      · rfl
      · show (match pos (ι345 i l s) s with | some i=>AV.loc i | none=>.fn (α s)) = .loc 3
        rw [p3]
    rw [ev]
    exact T n (α w) (α kx) (Nat.le_of_ble_eq_true c3)
theorem gSet_ok (hg : noLo g0 = true) (T : ∀ n w k,100 ≤ n → TC c N (.fn 345) [.loc 1,.loc 5,.loc 3,.fn w] (Hs0 n k g0) (pkV ok) gone6) (h : gSet g0 ok as H = some (v,H')) : TC c N (.fn 345) as H v H':=gS3_ok hg T h
end
noncomputable def bs2 (b : Bool) : Option (AV × Hs):=some (.bool b,[])
theorem sbOt_all_0 (x : AO) : allP0.map (fun q=>isubR x true noKn (mkO q)) = allP0.map (fun q=>bs2 true):=by kernel_rfl
theorem sbOt_all_1 (x : AO) : allP1.map (fun q=>isubR x true noKn (mkO q)) = allP1.map (fun q=>bs2 true):=by kernel_rfl
theorem sbOt_all_2 (x : AO) : allP2.map (fun q=>isubR x true noKn (mkO q)) = allP2.map (fun q=>bs2 true):=by kernel_rfl
theorem sbOt_all_3 (x : AO) : allP3.map (fun q=>isubR x true noKn (mkO q)) = allP3.map (fun q=>bs2 true):=by kernel_rfl
theorem sbOt_all (x : AO) : ∀ q ∈ allP,isubR x true noKn (mkO q) = bs2 true:=mem_or (List.map_inj_left.mp (sbOt_all_0 x)) (mem_or (List.map_inj_left.mp (sbOt_all_1 x)) (mem_or (List.map_inj_left.mp (sbOt_all_2 x)) (List.map_inj_left.mp (sbOt_all_3 x))))
theorem sbOf_all_0 (x : AO) : allP0.map (fun q=>isubR x false noKn (mkO q)) = allP0.map (fun q=>bs2 false):=by kernel_rfl
theorem sbOf_all_1 (x : AO) : allP1.map (fun q=>isubR x false noKn (mkO q)) = allP1.map (fun q=>bs2 false):=by kernel_rfl
theorem sbOf_all_2 (x : AO) : allP2.map (fun q=>isubR x false noKn (mkO q)) = allP2.map (fun q=>bs2 false):=by kernel_rfl
theorem sbOf_all_3 (x : AO) : allP3.map (fun q=>isubR x false noKn (mkO q)) = allP3.map (fun q=>bs2 false):=by kernel_rfl
theorem sbOf_all (x : AO) : ∀ q ∈ allP,isubR x false noKn (mkO q) = bs2 false:=mem_or (List.map_inj_left.mp (sbOf_all_0 x)) (mem_or (List.map_inj_left.mp (sbOf_all_1 x)) (mem_or (List.map_inj_left.mp (sbOf_all_2 x)) (List.map_inj_left.mp (sbOf_all_3 x))))
theorem sbRt_all_0 (x : AO) : allS0.map (fun q=>isubR x true noKn (mkR q)) = allS0.map (fun q=>bs2 true):=by kernel_rfl
theorem sbRt_all (x : AO) : ∀ q ∈ allS,isubR x true noKn (mkR q) = bs2 true:=List.map_inj_left.mp (sbRt_all_0 x)
theorem sbRf_all_0 (x : AO) : allS0.map (fun q=>isubR x false noKn (mkR q)) = allS0.map (fun q=>bs2 false):=by kernel_rfl
theorem sbRf_all (x : AO) : ∀ q ∈ allS,isubR x false noKn (mkR q) = bs2 false:=List.map_inj_left.mp (sbRf_all_0 x)
theorem sbN_all_0 (x : AO) : allN.map (fun q=>isubR x false (knF q.2) (mkN q)) = allN.map (fun q=>bs2 false):=by kernel_rfl
theorem sbN_all (x : AO) : ∀ q ∈ allN,isubR x false (knF q.2) (mkN q) = bs2 false:=List.map_inj_left.mp (sbN_all_0 x)
theorem sbW_all_0 (x : AO) : allO0.map (fun q=>isubW x (mkO q)) = allO0.map (fun q=>bs2 false):=by kernel_rfl
theorem sbW_all_1 (x : AO) : allO1.map (fun q=>isubW x (mkO q)) = allO1.map (fun q=>bs2 false):=by kernel_rfl
theorem sbW_all_2 (x : AO) : allO2.map (fun q=>isubW x (mkO q)) = allO2.map (fun q=>bs2 false):=by kernel_rfl
theorem sbW_all_3 (x : AO) : allO3.map (fun q=>isubW x (mkO q)) = allO3.map (fun q=>bs2 false):=by kernel_rfl
theorem sbW_all_4 (x : AO) : allO4.map (fun q=>isubW x (mkO q)) = allO4.map (fun q=>bs2 false):=by kernel_rfl
theorem sbW_all_5 (x : AO) : allO5.map (fun q=>isubW x (mkO q)) = allO5.map (fun q=>bs2 false):=by kernel_rfl
theorem sbW_all (x : AO) : ∀ q ∈ allO,isubW x (mkO q) = bs2 false:=mem_or (List.map_inj_left.mp (sbW_all_0 x)) (mem_or (List.map_inj_left.mp (sbW_all_1 x)) (mem_or (List.map_inj_left.mp (sbW_all_2 x)) (mem_or (List.map_inj_left.mp (sbW_all_3 x)) (mem_or (List.map_inj_left.mp (sbW_all_4 x)) (List.map_inj_left.mp (sbW_all_5 x))))))
noncomputable def strS (s : Shp) : Shp:=⟨s.m,mapL (wan s) (rg s.m),none,s.up⟩
noncomputable def gTab (l : List (List AV × Bool)) (as : List AV) (H : Hs) : Option (AV × Hs):=List.rec (motive:=fun _=>Option (AV × Hs)) none (fun p _ ih=>match sVs as p.1 with | true=>some (.bool p.2,H) | false=>ih) l
noncomputable def ovT (a : Addr) (l : List (List AV × Bool)) : Addr → Option (List AV → Hs → Option (AV × Hs)):=fun b=>iff (Nat.beq b a) (some (gTab l)) none
noncomputable def Gt (x : AO) (a : Addr) (l : List (List AV × Bool)) : Pg:=⟨gl1,FF x,fn1,cl1,ovT a l,noKn,noKl⟩
noncomputable def rowS (s : Shp) : AV:=rowV σy (rg s.m)
noncomputable def opnS (s : Shp) : AV:=othU u7 σy s
noncomputable def tabM (s : Shp) (b1 b2 : Bool) : List (List AV × Bool):=match b1 with
  | true=>[([.bs 9,rowS s,opnS s],true),([.bs 9,opnS s,rowS s],false)]
  | false=>[([.bs 9,rowS s,opnS s],false),([.bs 9,rowS s,opnS (strS s)],b2)]
noncomputable def tabW (s : Shp) : List (List AV × Bool):=[([.bs 9,opnS s,rowS s],false)]
noncomputable def isM (x : AO) (b1 b2 : Bool) (s : Shp) : Option (AV × Hs):=(run (Gt x 496 (tabM s b1 b2)) 60 20).call (.fn 524) [.bs 9,rowS s,opnS s] []
noncomputable def isMw (x : AO) (s : Shp) : Option (AV × Hs):=(run (Gt x 496 (tabW s)) 60 20).call (.fn 524) [.bs 9,opnS s,rowS s] []
noncomputable def nmS (o : Option Nat) : AV:=match o with | none=>.str z_T | some i=>.sym i
noncomputable def alen {α : Type} (l : List α) : Nat:=List.rec (motive:=fun _=>Nat) 0 (fun _ _ ih=>ih + 1) l
noncomputable def smO (s : Shp) : AO:=.list s.m (mapL AV.sym (rg s.m).reverse)
noncomputable def ahO (s : Shp) : AO:=.list (alen s.ks) (mapL nmS s.ks).reverse
noncomputable def waO (s : Shp) : AO:=.list s.m (mapL (fun i=>nmS (wan s i)) (rg s.m).reverse)
noncomputable def tlS (s : Shp) : AV:=match s.tl with | some o=>nmS o | none=>.none
noncomputable def klT : Nat → Str → Option Bool:=fun _ t=>iff (seqb t z_T) (some false) none
noncomputable def Gl (x : AO) : Pg:=⟨gl1,FF x,fn1,cl1,noOv,noKn,klT⟩
noncomputable def forB : CS → List CS:=fun s=>match s with | .for _ _ _ b=>b | _=>[]
noncomputable def bd770 : List CS:=match f_770.bd with | [_,_,_,s,_]=>forB s | _=>[]
noncomputable def lDraw : List CS:=bd770.take 6
noncomputable def lR1 : List CS:=(bd770.drop 6).take 2
noncomputable def lR2 : List CS:=(bd770.drop 8).take 1
noncomputable def lR3 : List CS:=bd770.drop 9
noncomputable def V1a (s : Shp) : Vs:=[(z_script,.bs 7),(z_kinds,.bs 9),(z_some,.loc 0),(z_upper,.sym 7),(z_ahead,.loc 1),(z_tail,tlS s)]
noncomputable def V1b (s : Shp) : Vs:=[(z_script,.bs 7),(z_kinds,.bs 9),(z_some,.loc 0),(z_upper,.sym 7),(z_ahead,.loc 1),(z_row,rowS s),(z_open_one,opnS s),(z_wanted,.loc 2)]
noncomputable def xrG (p : Nat) (o : Option (Fl × Vs × Hs)) (ιf : Hs → List Nat) (fs : List Bool) (xs : List Str) : Option (Fl × Vs × Hs):=match o with
  | some (fl,V,H)=>grd (preB p (ιf H) 0) (bn1 (view (ιf H) fs anyO H) fun H2=>some (sbF (ιf H) anyO fl,vwV (ιf H) anyO V xs,H2))
  | none=>none
noncomputable def lst1 (H : Hs) : List Nat:=[0,1,hlen H - 1]
noncomputable def xsb : List Str:=[z_script,z_kinds,z_some,z_upper,z_ahead,z_row,z_open_one,z_wanted]
noncomputable def R1 (x : AO) (s : Shp) : Option (Fl × Vs × Hs):=xrG 2 (exDs (Gl x) (run (Gl x) 60 20) lR1 (V1a s) [smO s,ahO s]) lst1 [] xsb
noncomputable def R1e (s : Shp) : Option (Fl × Vs × Hs):=some (.next,V1b s,[smO s,ahO s,waO s])
noncomputable def gFit (s : Shp) (b : Bool) (as : List AV) (H : Hs) : Option (AV × Hs):=grd (b2 (sV (.tup as) (.tup [.loc 0,.loc 2,.sym 7])) (b2 (isO (hget H 0) (smO s)) (isO (hget H 2) (waO s)))) (some (.bool b,H))
noncomputable def ovR2 (s : Shp) (b : Bool) : Addr → Option (List AV → Hs → Option (AV × Hs)):=fun a=>iff (Nat.beq a 524) (some (gTab [([.bs 9,rowS s,opnS s],b)])) (iff (Nat.beq a 765) (some (gFit s b)) none)
noncomputable def G2 (x : AO) (s : Shp) (b : Bool) : Pg:=⟨gl1,FF x,fn1,cl1,ovR2 s b,noKn,klT⟩
noncomputable def R2 (x : AO) (b : Bool) (s : Shp) : Option (Fl × Vs × Hs):=xrG 3 (exDs (G2 x s b) (run (G2 x s b) 60 20) lR2 (V1b s) [smO s,ahO s,waO s]) (fun _=>[0,1,2]) [] xsb
noncomputable def R2e (s : Shp) : Option (Fl × Vs × Hs):=some (.next,V1b s,[smO s,ahO s,waO s])
noncomputable def G3 (x : AO) (s : Shp) : Pg:=⟨gl1,FF x,fn1,cl1,ovT 524 [([.bs 9,opnS s,rowS s],false)],noKn,klT⟩
noncomputable def R3 (x : AO) (s : Shp) : Option (Fl × Vs × Hs):=xrG 3 (exDs (G3 x s) (run (G3 x s) 60 20) lR3 (V1b s) [smO s,ahO s,waO s]) (fun _=>[0,1,2]) [false,false,false] [z_script,z_kinds]
noncomputable def R3e : Option (Fl × Vs × Hs):=some (.next,[(z_script,.bs 7),(z_kinds,.bs 9)],[.gone,.gone,.gone])
theorem isMt_all_0 (x : AO) : allP0.map (fun q=>isM x true false (mkO q)) = allP0.map (fun q=>bs2 true):=by kernel_rfl
theorem isMt_all_1 (x : AO) : allP1.map (fun q=>isM x true false (mkO q)) = allP1.map (fun q=>bs2 true):=by kernel_rfl
theorem isMt_all_2 (x : AO) : allP2.map (fun q=>isM x true false (mkO q)) = allP2.map (fun q=>bs2 true):=by kernel_rfl
theorem isMt_all_3 (x : AO) : allP3.map (fun q=>isM x true false (mkO q)) = allP3.map (fun q=>bs2 true):=by kernel_rfl
theorem isMt_all (x : AO) : ∀ q ∈ allP,isM x true false (mkO q) = bs2 true:=mem_or (List.map_inj_left.mp (isMt_all_0 x)) (mem_or (List.map_inj_left.mp (isMt_all_1 x)) (mem_or (List.map_inj_left.mp (isMt_all_2 x)) (List.map_inj_left.mp (isMt_all_3 x))))
theorem isMs_all_0 (x : AO) : allP0.map (fun q=>isM x false true (mkO q)) = allP0.map (fun q=>bs2 true):=by kernel_rfl
theorem isMs_all_1 (x : AO) : allP1.map (fun q=>isM x false true (mkO q)) = allP1.map (fun q=>bs2 true):=by kernel_rfl
theorem isMs_all_2 (x : AO) : allP2.map (fun q=>isM x false true (mkO q)) = allP2.map (fun q=>bs2 true):=by kernel_rfl
theorem isMs_all_3 (x : AO) : allP3.map (fun q=>isM x false true (mkO q)) = allP3.map (fun q=>bs2 true):=by kernel_rfl
theorem isMs_all (x : AO) : ∀ q ∈ allP,isM x false true (mkO q) = bs2 true:=mem_or (List.map_inj_left.mp (isMs_all_0 x)) (mem_or (List.map_inj_left.mp (isMs_all_1 x)) (mem_or (List.map_inj_left.mp (isMs_all_2 x)) (List.map_inj_left.mp (isMs_all_3 x))))
theorem isMf_all_0 (x : AO) : allP0.map (fun q=>isM x false false (mkO q)) = allP0.map (fun q=>bs2 false):=by kernel_rfl
theorem isMf_all_1 (x : AO) : allP1.map (fun q=>isM x false false (mkO q)) = allP1.map (fun q=>bs2 false):=by kernel_rfl
theorem isMf_all_2 (x : AO) : allP2.map (fun q=>isM x false false (mkO q)) = allP2.map (fun q=>bs2 false):=by kernel_rfl
theorem isMf_all_3 (x : AO) : allP3.map (fun q=>isM x false false (mkO q)) = allP3.map (fun q=>bs2 false):=by kernel_rfl
theorem isMf_all (x : AO) : ∀ q ∈ allP,isM x false false (mkO q) = bs2 false:=mem_or (List.map_inj_left.mp (isMf_all_0 x)) (mem_or (List.map_inj_left.mp (isMf_all_1 x)) (mem_or (List.map_inj_left.mp (isMf_all_2 x)) (List.map_inj_left.mp (isMf_all_3 x))))
theorem isMw_all_0 (x : AO) : allP0.map (fun q=>isMw x (mkO q)) = allP0.map (fun q=>bs2 false):=by kernel_rfl
theorem isMw_all_1 (x : AO) : allP1.map (fun q=>isMw x (mkO q)) = allP1.map (fun q=>bs2 false):=by kernel_rfl
theorem isMw_all_2 (x : AO) : allP2.map (fun q=>isMw x (mkO q)) = allP2.map (fun q=>bs2 false):=by kernel_rfl
theorem isMw_all_3 (x : AO) : allP3.map (fun q=>isMw x (mkO q)) = allP3.map (fun q=>bs2 false):=by kernel_rfl
theorem isMw_all (x : AO) : ∀ q ∈ allP,isMw x (mkO q) = bs2 false:=mem_or (List.map_inj_left.mp (isMw_all_0 x)) (mem_or (List.map_inj_left.mp (isMw_all_1 x)) (mem_or (List.map_inj_left.mp (isMw_all_2 x)) (List.map_inj_left.mp (isMw_all_3 x))))
theorem R1_all_0 (x : AO) : allP0.map (fun q=>R1 x (mkO q)) = allP0.map (fun q=>R1e (mkO q)):=by kernel_rfl
theorem R1_all_1 (x : AO) : allP1.map (fun q=>R1 x (mkO q)) = allP1.map (fun q=>R1e (mkO q)):=by kernel_rfl
theorem R1_all_2 (x : AO) : allP2.map (fun q=>R1 x (mkO q)) = allP2.map (fun q=>R1e (mkO q)):=by kernel_rfl
theorem R1_all_3 (x : AO) : allP3.map (fun q=>R1 x (mkO q)) = allP3.map (fun q=>R1e (mkO q)):=by kernel_rfl
theorem R1_all (x : AO) : ∀ q ∈ allP,R1 x (mkO q) = R1e (mkO q):=mem_or (List.map_inj_left.mp (R1_all_0 x)) (mem_or (List.map_inj_left.mp (R1_all_1 x)) (mem_or (List.map_inj_left.mp (R1_all_2 x)) (List.map_inj_left.mp (R1_all_3 x))))
theorem R2t_all_0 (x : AO) : allP0.map (fun q=>R2 x true (mkO q)) = allP0.map (fun q=>R2e (mkO q)):=by kernel_rfl
theorem R2t_all_1 (x : AO) : allP1.map (fun q=>R2 x true (mkO q)) = allP1.map (fun q=>R2e (mkO q)):=by kernel_rfl
theorem R2t_all_2 (x : AO) : allP2.map (fun q=>R2 x true (mkO q)) = allP2.map (fun q=>R2e (mkO q)):=by kernel_rfl
theorem R2t_all_3 (x : AO) : allP3.map (fun q=>R2 x true (mkO q)) = allP3.map (fun q=>R2e (mkO q)):=by kernel_rfl
theorem R2t_all (x : AO) : ∀ q ∈ allP,R2 x true (mkO q) = R2e (mkO q):=mem_or (List.map_inj_left.mp (R2t_all_0 x)) (mem_or (List.map_inj_left.mp (R2t_all_1 x)) (mem_or (List.map_inj_left.mp (R2t_all_2 x)) (List.map_inj_left.mp (R2t_all_3 x))))
theorem R2f_all_0 (x : AO) : allP0.map (fun q=>R2 x false (mkO q)) = allP0.map (fun q=>R2e (mkO q)):=by kernel_rfl
theorem R2f_all_1 (x : AO) : allP1.map (fun q=>R2 x false (mkO q)) = allP1.map (fun q=>R2e (mkO q)):=by kernel_rfl
theorem R2f_all_2 (x : AO) : allP2.map (fun q=>R2 x false (mkO q)) = allP2.map (fun q=>R2e (mkO q)):=by kernel_rfl
theorem R2f_all_3 (x : AO) : allP3.map (fun q=>R2 x false (mkO q)) = allP3.map (fun q=>R2e (mkO q)):=by kernel_rfl
theorem R2f_all (x : AO) : ∀ q ∈ allP,R2 x false (mkO q) = R2e (mkO q):=mem_or (List.map_inj_left.mp (R2f_all_0 x)) (mem_or (List.map_inj_left.mp (R2f_all_1 x)) (mem_or (List.map_inj_left.mp (R2f_all_2 x)) (List.map_inj_left.mp (R2f_all_3 x))))
theorem R3_all_0 (x : AO) : allP0.map (fun q=>R3 x (mkO q)) = allP0.map (fun q=>R3e):=by kernel_rfl
theorem R3_all_1 (x : AO) : allP1.map (fun q=>R3 x (mkO q)) = allP1.map (fun q=>R3e):=by kernel_rfl
theorem R3_all_2 (x : AO) : allP2.map (fun q=>R3 x (mkO q)) = allP2.map (fun q=>R3e):=by kernel_rfl
theorem R3_all_3 (x : AO) : allP3.map (fun q=>R3 x (mkO q)) = allP3.map (fun q=>R3e):=by kernel_rfl
theorem R3_all (x : AO) : ∀ q ∈ allP,R3 x (mkO q) = R3e:=mem_or (List.map_inj_left.mp (R3_all_0 x)) (mem_or (List.map_inj_left.mp (R3_all_1 x)) (mem_or (List.map_inj_left.mp (R3_all_2 x)) (List.map_inj_left.mp (R3_all_3 x))))
theorem okE_gl {G G' : Pg} (h : G.gl = G'.gl) : okE G = okE G':=by
  obtain ⟨gl,F,fn,cl,ov,kn,kl⟩:=G
  obtain ⟨gl',F',fn',cl',ov',kn',kl'⟩:=G'
  obtain rfl : gl = gl':=h
  rfl
theorem okSs_gl {G G' : Pg} (h : G.gl = G'.gl) : okSs G = okSs G':=by
  obtain ⟨gl,F,fn,cl,ov,kn,kl⟩:=G
  obtain ⟨gl',F',fn',cl',ov',kn',kl'⟩:=G'
  obtain rfl : gl = gl':=h
  rfl
theorem xrF_el {o : Option (Fl × Vs × Hs)} {fl : Fl} {V : Vs} {H : Hs} (h : xrF o = some (fl,V,H)) : ∃ f V1 H1,o = some (f,V1,H1) ∧ isNx f = isNx fl ∧ ∀ (c : Cx) (kd : Kd),Wk c kd 6 f V1 H1 fl V H:=match o,h with
  | some (f,V1,H1),h=>grd_el (show grd (preB 6 (ιS H1) 0) (bn1 (view (ιS H1) [] anyO H1) fun H2=>bn1 (hget H2 5) fun o=>asList o fun _ r=>grd (Nat.ble r.length 20) (some (sbF (ιS H1) anyO f,vwV (ιS H1) anyO V1 xsh,setN H2 5 (.list 30 r)))) = some (fl,V,H) from h) fun h1 h=>bn1_el h fun H2 h2 h=>bn1_el h fun o h3 h=>by
    cases o with
    | list m r=>
      refine grd_el (show grd (Nat.ble r.length 20) (some (sbF (ιS H1) anyO f,vwV (ιS H1) anyO V1 xsh,setN H2 5 (.list 30 r))) = some (fl,V,H) from h) fun h4 h=>?_
      cases h
      exact ⟨f,V1,H1,rfl,isNx_sb f,fun c kd=>(wk_view xsh h1 h2).trans (wk_bound h3 (Nat.le_trans (Nat.le_of_ble_eq_true h4) (by decide)))⟩
    | _=>cases h
section
variable {c : Cx} {K : Frag} {x : AO} {n : Nat} {k : Addr} {e : Expr} {b : List Stmt} {G : Pg} {H H2 : Hs} {fl : Fl}
theorem turn_run (B : Base c K G 0) (hg : G.gl = gl1) (he : okE (Gx x) ce345 f_345.kd e = true) (hb : okSs (Gx x) b345 f_345.kd b = true) (ht : evD G (run G 60 20) ce345 Vh H = some (.bool true,H ++ [.list 0 []])) (h : xrF (exDs G (run G 60 20) b345 Vh (H ++ [.list 0 []])) = some (fl,Vh,H2)) : Turn c 20 e b H fl Vh H2:=by
  obtain ⟨f,V1,H1,e1,e2,e3⟩:=xrF_el h
  have CO:=run_ok B 60 20
  have eg : (Gx x).gl = G.gl:=hg.symm
  exact .mk f V1 _ H1 (tt_run B CO (by rw [okE_gl eg] at he; exact he) ht) (tss_run B CO (by rw [okSs_gl eg] at hb; exact hb) e1) e2 (e3 c _)
theorem dsV_look : ∀ {V : Vs} {y : Str} {v : AV} {σ : Nat → Str},Mine.look (dsV σ V) y = some v → ∃ w,Mine.look V y = some w ∧ v = ds σ w
  | p :: V,y,v,σ,h=>by
    have h : iff (seqb p.1 y) (some (ds σ p.2)) (Mine.look (dsV σ V) y) = some v:=h
    show ∃ w,iff (seqb p.1 y) (some p.2) (Mine.look V y) = some w ∧ v = ds σ w
    cases q : seqb p.1 y with
    | true=>rw [q] at h; exact ⟨p.2,rfl,(Option.some.inj h).symm⟩
    | false=>rw [q] at h; exact dsV_look (V:=V) h
theorem wk_ds {kd : Kd} {p : Nat} {V : Vs} : Wk c kd p fl V H (dsF c.σ fl) (dsV c.σ V) (dsH c.σ H):=fun env ρ0 s0 f s' hl q=>match q with
  | .mk ρ' R RV F S M=>.mk ρ' ((ds_H ⟨rfl,rfl,rfl,rfl⟩).mp R) ⟨RV.kind,RV.names,RV.glob,RV.blt,match RV.loc with | .mk m hn hv=>.mk m hn fun y v e k=>(dsV_look e).elim fun w z=>(hv y w z.1 k).elim fun u q=>⟨u,q.1,by rw [z.2,← ds_V ⟨rfl,rfl,rfl,rfl⟩]; exact q.2⟩,RV.locNew,RV.locρ,RV.cells,RV.apart,RV.has,fun y v a e k f=>(dsV_look e).elim fun w z=>match RV.cvar y w a z.1 k f with | .mk u h1 h2=>.mk u h1 (by rw [z.2,← ds_V ⟨rfl,rfl,rfl,rfl⟩]; exact h2)⟩
    (match fl,F with
      | .next,F=>F
      | .ret v,.mk u hu=>.mk u (by rw [← ds_V ⟨rfl,rfl,rfl,rfl⟩]; exact hu)) S M
theorem Turn.wk {V2 : Vs} {V3 : Vs} {H3 : Hs} (t : Turn c n e b H .next V2 H2) (w : Wk c f_345.kd 6 .next V2 H2 .next V3 H3) : Turn c n e b H .next V3 H3:=match t with
  | .mk f V' H1 H' t T q w'=>.mk f V' H1 H' t T q (w'.trans w)
end
noncomputable def σd (dn : Nat → Nat) : Nat → Str:=fun i=>nm (dn i)
noncomputable def gG (dn : Nat → Nat) (s : Shp) (i : Nat) : Gd:=match wan s i with | none=>.nt (dn i) | some j=>.nn (dn i) (dn j)
noncomputable def goalsG (dn : Nat → Nat) (s : Shp) : List Gd:=mapL (gG dn s) (rg s.m).reverse ++ [.fn]
theorem mapL_map {α β : Type} (f : α → β) (l : List α) : mapL f l = l.map f:=by
  induction l with
  | nil=>rfl
  | cons a l ih=>exact congrArg (f a :: ·) ih
theorem dsL_app (σ : Nat → Str) : ∀ a b,dsL σ (a ++ b) = dsL σ a ++ dsL σ b:=fun a b=>by
  induction a with
  | nil=>rfl
  | cons x a ih=>exact congrArg (ds σ x :: ·) ih
theorem dsL_map {α : Type} (σ : Nat → Str) (f : α → AV) (l : List α) : dsL σ (l.map f) = l.map fun a=>ds σ (f a):=by
  induction l with
  | nil=>rfl
  | cons x a ih=>exact congrArg (ds σ (f x) :: ·) ih
theorem goals_ds (dn : Nat → Nat) (s : Shp) : dsL (σd dn) (goalsV σy s) = (goalsG dn s).map gv:=by
  unfold goalsV goalsG
  rw [dsL_app,mapL_map,mapL_map,dsL_map,List.map_append,List.map_map]
  congr 1
  refine List.map_congr_left fun i _=>?_
  show ds (σd dn) (gl (nkv (.sym i)) (kdV vT1 σy (wan s i))) = gv (gG dn s i)
  unfold gG
  cases wan s i <;> rfl
noncomputable def pass (dn : Nat → Nat) (s : Shp) : Bool:=match sett s.up (goalsG dn s) [] with
  | some lo=>(match hasT s with | true=>conc (dgS s) lo | false=>true)
  | none=>false
section
variable {c : Cx} {K : Frag} {x : AO} {n : Nat} {k w : Addr} {dn : Nat → Nat} {s : Shp}
theorem goals_ok (hd : ∀ i,dn i < 5) : ∀ g ∈ goalsG dn s,okG g:=fun g m=>by
  unfold goalsG at m
  rw [mapL_map] at m
  rcases List.mem_append.mp m with m | m
  · obtain ⟨i,_,rfl⟩:=List.mem_map.mp m
    unfold gG
    cases wan s i with
    | none=>exact hd i
    | some j=>exact ⟨hd i,hd j⟩
  · obtain rfl:=List.mem_singleton.mp m; exact trivial
theorem cntT_le : ∀ L : List Gd,cntT L ≤ L.length
  | []=>Nat.le_refl _
  | .fn :: L=>Nat.le_succ_of_le (cntT_le L)
  | .nn _ _ :: L=>Nat.le_succ_of_le (cntT_le L)
  | .nt _ :: L=>Nat.succ_le_succ (cntT_le L)
theorem rg_len (m : Nat) : (rg m).length ≤ 3:=match m with | 0=>by decide | 1=>by decide | 2=>by decide | m + 3=>Nat.le_refl 3
theorem cntT_app : ∀ (L : List Gd),cntT (L ++ [.fn]) = cntT L
  | []=>rfl
  | .fn :: L=>cntT_app L
  | .nn _ _ :: L=>cntT_app L
  | .nt _ :: L=>congrArg (· + 1) (cntT_app L)
theorem goals_cnt : cntT (goalsG dn s) ≤ 3 ∧ (goalsG dn s).length ≤ 4:=by
  unfold goalsG
  rw [cntT_app,mapL_map,List.length_append,List.length_map,List.length_reverse]
  have h:=cntT_le ((rg s.m).reverse.map (gG dn s))
  rw [List.length_map,List.length_reverse] at h
  have:=rg_len s.m
  exact ⟨by omega,by show (rg s.m).length + 1 ≤ 4; omega⟩
theorem start_T (W : Wo c K x) (hd : ∀ i,dn i < 5) (hσ : c.σ = σd dn) (hT : hasT s = true) (h1 : ∀ n k,T1 x n k s = T1e n k s) (h2 : ∀ n k,T2 x n k s = T2e n k s) (hn : 20 ≤ n) : TC c 41 (.fn 345) [.loc 1,.loc 5,.loc 3,.fn w] (Hs0 (n + 2) k (gl (rowV σy (rg s.m)) (othV σy s))) (pkV (pass dn s)) gone6:=by
  have q:=settled_v (n:=n + 2) (k:=k) (g:=gl (rowV σy (rg s.m)) (othV σy s)) (dg:=dgS s) (up:=s.up) W (goals_ok (s:=s) hd) goals_cnt.1 (fun e b he hb=>by
    have a1:=h1 (n + 1) k
    unfold T1 T1e at a1
    rw [hT] at a1
    have a2:=h2 n k
    unfold T2 T2e at a2
    have t1:=turn_run (x:=x) (W.b0 (D:=0)) rfl he hb (by kernel_rfl) a1
    have t2:=turn_run (x:=x) (W.b0 (D:=0)) rfl he hb (by kernel_rfl) a2
    refine EndV.turn t1 (EndV.turn (t2.wk (V3:=Vh) (H3:=Hv n k 1 (nkL []) s.up (dgS s) ((goalsG dn s).map gv)) ?_) (loop_v W he hb (goalsG dn s) [] n (goals_ok hd) (fun _ m=>nomatch m) (by simpa using goals_cnt.1) (Nat.le_trans goals_cnt.2 (by decide)) (by have:=(goals_cnt (dn:=dn) (s:=s)); omega)))
    have z:=wk_ds (c:=c) (kd:=f_345.kd) (p:=6) (fl:=.next) (V:=Vh) (H:=Hv n k 1 [] s.up (dgS s) (goalsV σy s))
    rw [hσ] at z
    have e1 : dsH (σd dn) (Hv n k 1 [] s.up (dgS s) (goalsV σy s)) = Hv n k 1 (nkL []) s.up (dgS s) ((goalsG dn s).map gv):=by
      rw [← goals_ds]
      cases s.up <;> rfl
    rw [e1] at z
    exact z) w
  have e : ansV (dgS s) (sett s.up (goalsG dn s) []) = pkV (pass dn s):=by
    unfold ansV pass
    rw [hT]
    cases sett s.up (goalsG dn s) [] <;> rfl
  rw [e] at q
  exact q
theorem start_N {kn : Nat → Nat → Option Bool} (W : Wo c K x) (hkn : ∀ i j t,kn i j = some t → (c.σ i == c.σ j) = t) (hd : ∀ i,dn i < 5) (hσ : c.σ = σd dn) (hT : hasT s = false) (h0 : cntT (goalsG dn s) = 0)
    (h1 : ∀ n k,xrF (exDs (Gk x kn) (run (Gk x kn) 60 20) b345 Vh (Hs0 (n + 1) k (gl (rowV σy (rg s.m)) (othV σy s)) ++ [.list 0 []])) = T1e n k s) (hn : 20 ≤ n) : TC c 41 (.fn 345) [.loc 1,.loc 5,.loc 3,.fn w] (Hs0 (n + 2) k (gl (rowV σy (rg s.m)) (othV σy s))) (pkV (pass dn s)) gone6:=by
  have B : Base c K (Gk x kn) 0:=W.base (fun _ e=>nomatch e) (fun _ _ e=>nomatch e) hkn (fun _ _ _ e=>nomatch e)
  have q:=settled_n (n:=n + 2) (k:=k) (g:=gl (rowV σy (rg s.m)) (othV σy s)) (o:=sett s.up (goalsG dn s) []) (j:=0) W (fun e b he hb=>by
    have a1:=h1 (n + 1) k
    unfold T1e at a1
    rw [hT] at a1
    have t1:=turn_run (x:=x) B rfl he hb (by kernel_rfl) a1
    refine EndN.turn (t1.wk (V3:=Vh) (H3:=Hn (n + 1) k 0 ((goalsG dn s).map gv)) ?_) (loop_n W he hb (goalsG dn s) (n + 1) (goals_ok hd) h0 (by have:=(goals_cnt (dn:=dn) (s:=s)); omega))
    have z:=wk_ds (c:=c) (kd:=f_345.kd) (p:=6) (fl:=.next) (V:=Vh) (H:=Hn (n + 1) k 0 (goalsV σy s))
    rw [hσ] at z
    have e1 : dsH (σd dn) (Hn (n + 1) k 0 (goalsV σy s)) = Hn (n + 1) k 0 ((goalsG dn s).map gv):=by
      rw [← goals_ds]; rfl
    rw [e1] at z
    exact z) w
  have e : ansN (sett s.up (goalsG dn s) []) = pkV (pass dn s):=by
    unfold ansN pass
    rw [hT]
    cases sett s.up (goalsG dn s) [] <;> rfl
  rw [e] at q
  exact q
end
noncomputable def g0S (s : Shp) : AV:=gl (rowS s) (opnS s)
theorem nlO_all : ∀ q ∈ allP,noLo (g0S (mkO q)) = true:=List.map_inj_left.mp (show allP.map (fun q=>noLo (g0S (mkO q))) = allP.map (fun _=>true) by kernel_rfl)
theorem nlR_all : ∀ q ∈ allS,noLo (g0S (mkR q)) = true:=List.map_inj_left.mp (show allS.map (fun q=>noLo (g0S (mkR q))) = allS.map (fun _=>true) by kernel_rfl)
theorem nlN_all : ∀ q ∈ allN,noLo (g0S (mkN q)) = true:=List.map_inj_left.mp (show allN.map (fun q=>noLo (g0S (mkN q))) = allN.map (fun _=>true) by kernel_rfl)
theorem nlP_all : ∀ q ∈ allP,b2 (noLo (rowS (mkO q))) (noLo (opnS (mkO q))) = true:=List.map_inj_left.mp (show allP.map (fun q=>b2 (noLo (rowS (mkO q))) (noLo (opnS (mkO q)))) = allP.map (fun _=>true) by kernel_rfl)
theorem opnS_up (m : Nat) (p : List Bool) (tT up : Bool) : opnS (mkO (m,p,tT,up)) = opnS (mkO (m,p,tT,false)):=by kernel_rfl
theorem T1N_eq (x : AO) (n : Nat) (k : Addr) (m f : Nat) : T1N x n k (m,f) = xrF (exDs (Gk x (knF f)) (run (Gk x (knF f)) 60 20) b345 Vh (Hs0 (n + 1) k (gl (rowV σy (rg (mkN (m,f)).m)) (othV σy (mkN (m,f)))) ++ [.list 0 []])):=by kernel_rfl
section
variable {c : Cx} {K : Frag} {x : AO} {n N : Nat} {k w : Addr} {dn : Nat → Nat} {s : Shp} {H : Hs}
theorem refl_E : CxE c c:=⟨rfl,rfl,rfl,rfl⟩
theorem ds_u (hσ : c.σ = σd dn) (h7 : hasT s = true → dn 7 = upN s.up) : ds c.σ (opnS s) = ds c.σ (othV σy s):=by
  unfold opnS othV othU
  cases hT : hasT s with
  | false=>rfl
  | true=>
    have e : ds c.σ u7 = ds c.σ (nk (upN s.up)):=by
      show AV.tup [.str z_name,.str (c.σ 7),.tup []] = nk (upN s.up)
      rw [hσ]
      show AV.tup [.str z_name,.str (nm (dn 7)),.tup []] = nk (upN s.up)
      rw [h7 hT]; rfl
    show AV.tup [.str z_all,.str z__84_46_50,.tup [.str z_bottom],ds c.σ u7,ds c.σ (bodV vT σy s)] = AV.tup [.str z_all,.str z__84_46_50,.tup [.str z_bottom],ds c.σ (nk (upN s.up)),ds c.σ (bodV vT σy s)]
    rw [e]
theorem gs_base {kn : Nat → Nat → Option Bool} {ok : Bool} {g0 : AV} (W : Wo c K x) (hkn : ∀ i j t,kn i j = some t → (c.σ i == c.σ j) = t) (hg : noLo g0 = true) (T : ∀ n w k,100 ≤ n → TC c 41 (.fn 345) [.loc 1,.loc 5,.loc 3,.fn w] (Hs0 n k g0) (pkV ok) gone6) : Base c K (Gs x g0 ok kn) 41:=by
  refine W.base (fun b h=>?_) (fun b g hg' as H v H' q=>?_) hkn (fun _ _ _ e=>nomatch e)
  · have h : (iff (Nat.beq b 345) (some (gSet g0 ok)) none).isSome = true:=h
    cases z : Nat.beq b 345 with
    | false=>rw [z] at h; cases h
    | true=>obtain rfl:=Nat.eq_of_beq_eq_true z; exact W.keepFn (f:=f_345) rfl
  · have hg' : iff (Nat.beq b 345) (some (gSet g0 ok)) none = some g:=hg'
    cases z : Nat.beq b 345 with
    | false=>rw [z] at hg'; cases hg'
    | true=>
      rw [z] at hg'
      obtain rfl:=Option.some.inj hg'
      obtain rfl:=Nat.eq_of_beq_eq_true z
      exact gSet_ok hg T q
theorem to_u (hσ : c.σ = σd dn) (h7 : hasT s = true → dn 7 = upN s.up) {ok : Bool} (T : ∀ n w k,20 ≤ n → TC c 41 (.fn 345) [.loc 1,.loc 5,.loc 3,.fn w] (Hs0 (n + 2) k (gl (rowV σy (rg s.m)) (othV σy s))) (pkV ok) gone6) : ∀ n w k,100 ≤ n → TC c 41 (.fn 345) [.loc 1,.loc 5,.loc 3,.fn w] (Hs0 n k (g0S s)) (pkV ok) gone6:=fun n w k hn=>by
  obtain ⟨m,rfl⟩ : ∃ m,n = m + 2:=⟨n - 2,by omega⟩
  refine (ds_TC refl_E).mpr ?_
  have q:=(ds_TC refl_E).mp (T m w k (by omega))
  have e : dsH c.σ (Hs0 (m + 2) k (g0S s)) = dsH c.σ (Hs0 (m + 2) k (gl (rowV σy (rg s.m)) (othV σy s))):=by
    show [AO.ns _ _,.inst 439 0,.ns _ _,.inst 263 2,.dict [] [],.list 1 [AV.tup [.str z_sub,ds c.σ (rowS s),ds c.σ (opnS s)]]] = [AO.ns _ _,.inst 439 0,.ns _ _,.inst 263 2,.dict [] [],.list 1 [AV.tup [.str z_sub,ds c.σ (rowV σy (rg s.m)),ds c.σ (othV σy s)]]]
    rw [ds_u hσ h7]; rfl
  rw [e]
  exact q
theorem sub_O (W : Wo c K x) (hd : ∀ i,dn i < 5) (hσ : c.σ = σd dn) {m : Nat} {p : List Bool} {tT up : Bool} (hq : (m,p,tT,up) ∈ allO) (hq' : (m,p,tT,false) ∈ allP) (h7 : hasT (mkO (m,p,tT,up)) = true → dn 7 = upN up) (hcn : hasT (mkO (m,p,tT,up)) = false → cntT (goalsG dn (mkO (m,p,tT,up))) = 0) :
    TC c 61 (.fn 496) [.bs 9,rowS (mkO (m,p,tT,up)),opnS (mkO (m,p,tT,up))] H (.bool (pass dn (mkO (m,p,tT,up)))) H:=by
  have hg : noLo (g0S (mkO (m,p,tT,up))) = true:=nlO_all (m,p,tT,false) hq'
  have T : ∀ n w k,20 ≤ n → TC c 41 (.fn 345) [.loc 1,.loc 5,.loc 3,.fn w] (Hs0 (n + 2) k (gl (rowV σy (rg (mkO (m,p,tT,up)).m)) (othV σy (mkO (m,p,tT,up))))) (pkV (pass dn (mkO (m,p,tT,up)))) gone6:=fun n w k hn=>by
    cases hT : hasT (mkO (m,p,tT,up)) with
    | true=>exact start_T W hd hσ hT (fun n k=>T1O_all x n k _ hq) (fun n k=>T2O_all x n k _ hq) hn
    | false=>exact start_N (kn:=noKn) W (fun _ _ _ e=>nomatch e) hd hσ hT (hcn hT) (fun n k=>T1O_all x n k _ hq) hn
  have B:=gs_base (kn:=noKn) W (fun _ _ _ e=>nomatch e) hg (to_u hσ h7 T)
  have hn:=nlP_all (m,p,tT,false) hq'
  refine b2_el hn fun n1 n2=>tc_pure (by show b2 true (b2 (noLo (rowS (mkO (m,p,tT,false)))) (b2 (noLo (opnS (mkO (m,p,tT,false)))) true)) = true; rw [n1,n2]; rfl) rfl ?_
  revert B
  cases pass dn (mkO (m,p,tT,up)) with
  | true=>exact fun B=>sound B (sbOt_all x (m,p,tT,false) hq')
  | false=>exact fun B=>sound B (sbOf_all x (m,p,tT,false) hq')
theorem sub_R (W : Wo c K x) (hd : ∀ i,dn i < 5) (hσ : c.σ = σd dn) {p : List Bool} {up : Bool} (hq : (p,up) ∈ allR) (hq' : (p,false) ∈ allS) (hT : hasT (mkR (p,up)) = true) (h7 : dn 7 = upN up) :
    TC c 61 (.fn 496) [.bs 9,rowS (mkR (p,up)),opnS (mkR (p,up))] [] (.bool (pass dn (mkR (p,up)))) []:=by
  have hg : noLo (g0S (mkR (p,up))) = true:=nlR_all (p,false) hq'
  have T : ∀ n w k,20 ≤ n → TC c 41 (.fn 345) [.loc 1,.loc 5,.loc 3,.fn w] (Hs0 (n + 2) k (gl (rowV σy (rg (mkR (p,up)).m)) (othV σy (mkR (p,up))))) (pkV (pass dn (mkR (p,up)))) gone6:=fun n w k hn=>start_T W hd hσ hT (fun n k=>T1R_all x n k _ hq) (fun n k=>T2R_all x n k _ hq) hn
  have B:=gs_base (kn:=noKn) W (fun _ _ _ e=>nomatch e) hg (to_u hσ (fun _=>h7) T)
  revert B
  cases pass dn (mkR (p,up)) with
  | true=>exact fun B=>sound B (sbRt_all x (p,false) hq')
  | false=>exact fun B=>sound B (sbRf_all x (p,false) hq')
theorem knF_ok {f : Nat} (hne : (c.σ f == c.σ (3 + f)) = false) : ∀ i j t,knF f i j = some t → (c.σ i == c.σ j) = t:=fun i j t h=>by
  unfold knF at h
  cases e1 : Nat.beq i f with
  | false=>rw [e1] at h; cases h
  | true=>
    rw [e1] at h
    cases e2 : Nat.beq j (3 + f) with
    | false=>rw [e2] at h; cases h
    | true=>
      rw [e2] at h
      cases h
      obtain rfl:=Nat.eq_of_beq_eq_true e1
      obtain rfl:=Nat.eq_of_beq_eq_true e2
      exact hne
theorem sett_no {up : Bool} {d e : Nat} (h : sub d e = false) : ∀ (L : List Gd) (lo : List Nat),.nn d e ∈ L → sett up L lo = none
  | .fn :: L,lo,m=>sett_no h L lo ((List.mem_cons.mp m).resolve_left fun q=>nomatch q)
  | .nn d' e' :: L,lo,m=>by
    show (if sub d' e' then sett up L lo else none) = none
    split
    · rename_i hs
      exact sett_no h L lo ((List.mem_cons.mp m).resolve_left fun q=>by cases q; rw [h] at hs; cases hs)
    · rfl
  | .nt d' :: L,lo,m=>by
    have m:=(List.mem_cons.mp m).resolve_left fun q=>nomatch q
    show (if lo.any (Nat.beq · d') then sett up L lo else if up && !sub d' 1 then none else sett up L (lo ++ [d'])) = none
    split
    · exact sett_no h L lo m
    · split
      · rfl
      · exact sett_no h L _ m
theorem sub_N (W : Wo c K x) (hd : ∀ i,dn i < 5) (hσ : c.σ = σd dn) {m f : Nat} (hq : (m,f) ∈ allN) (hf : sub (dn f) (dn (3 + f)) = false) (hmem : .nn (dn f) (dn (3 + f)) ∈ goalsG dn (mkN (m,f))) (hcn : cntT (goalsG dn (mkN (m,f))) = 0) (hT : hasT (mkN (m,f)) = false) :
    TC c 61 (.fn 496) [.bs 9,rowS (mkN (m,f)),opnS (mkN (m,f))] [] (.bool false) []:=by
  have hp : pass dn (mkN (m,f)) = false:=by unfold pass; rw [sett_no hf _ _ hmem]
  have hne : (c.σ f == c.σ (3 + f)) = false:=by
    rw [hσ]
    show (nm (dn f) == nm (dn (3 + f))) = false
    rw [nm_eq (hd _) (hd _)]
    cases z : Nat.beq (dn f) (dn (3 + f)) with
    | false=>rfl
    | true=>
      rw [← Nat.eq_of_beq_eq_true z] at hf
      have : ∀ d,sub d d = true:=fun d=>match d with | 0=>rfl | 1=>rfl | 2=>rfl | 3=>rfl | d + 4=>by show Nat.ble 3 (d + 4) = true; exact Nat.ble_eq.mpr (by omega)
      rw [this] at hf
      cases hf
  have hg : noLo (g0S (mkN (m,f))) = true:=nlN_all _ hq
  have T : ∀ n w k,20 ≤ n → TC c 41 (.fn 345) [.loc 1,.loc 5,.loc 3,.fn w] (Hs0 (n + 2) k (gl (rowV σy (rg (mkN (m,f)).m)) (othV σy (mkN (m,f))))) (pkV (pass dn (mkN (m,f)))) gone6:=fun n w k hn=>start_N (kn:=knF f) W (knF_ok hne) hd hσ hT hcn (fun n k=>(T1N_eq x n k m f).symm.trans (T1N_all x n k (m,f) hq)) hn
  have B:=gs_base (kn:=knF f) W (knF_ok hne) hg (to_u hσ (fun e=>by rw [hT] at e; cases e) T)
  rw [hp] at B
  exact sound B (sbN_all x _ hq)
theorem sub_W (W : Wo c K x) (hσ : c.σ = σd dn) {m : Nat} {p : List Bool} {tT up : Bool} (hq : (m,p,tT,up) ∈ allO) (hq' : (m,p,tT,false) ∈ allP) (h7 : hasT (mkO (m,p,tT,up)) = true → dn 7 = upN up) :
    TC c 61 (.fn 496) [.bs 9,opnS (mkO (m,p,tT,up)),rowS (mkO (m,p,tT,up))] H (.bool false) H:=by
  have hn:=nlP_all (m,p,tT,false) hq'
  refine b2_el hn fun n1 n2=>tc_pure (by rw [opnS_up]; show b2 true (b2 (noLo (opnS (mkO (m,p,tT,false)))) (b2 (noLo (rowS (mkO (m,p,tT,up)))) true)) = true; rw [n2]; show b2 true (b2 true (b2 (noLo (rowS (mkO (m,p,tT,up)))) true)) = true; rw [show noLo (rowS (mkO (m,p,tT,up))) = true from n1]; rfl) rfl ?_
  refine (ds_TC refl_E).mpr ?_
  have q:=(ds_TC refl_E).mp (TC.le (sound (W.b0 (D:=0)) (sbW_all x _ hq)) (show 20 + 0 ≤ 61 by decide))
  have e:=ds_u hσ h7
  show TC c 61 (.fn 496) [.bs 9,ds c.σ (opnS (mkO (m,p,tT,up))),ds c.σ (rowS (mkO (m,p,tT,up)))] [] (.bool false) []
  rw [e]
  exact q
end
noncomputable def pR (s : Shp) : List Bool:=mapL (fun i=>isT (wan s i)) (rg s.m)
noncomputable def dnR (dn : Nat → Nat) (s : Shp) (i : Nat) : Nat:=match Nat.blt i 3 with
  | true=>dn i
  | false=>(match Nat.beq i 7 with | true=>dn 7 | false=>(match wan s (i - 3) with | some j=>dn j | none=>0))
noncomputable def qS (q : QO) : Shp:=mkO (q.1,q.2.1,q.2.2.1,false)
noncomputable def rS (q : QO) : Shp:=mkR (pR (qS q),false)
noncomputable def wT (q : QO) : Bool:=anyT (strS (qS q)).ks
theorem strR_all (dn : Nat → Nat) : ∀ q ∈ allP,dsL (σd (dnR dn (qS q))) [.bs 9,rowS (rS q),opnS (rS q)] = dsL (σd dn) [.bs 9,rowS (qS q),opnS (strS (qS q))]:=List.map_inj_left.mp (by kernel_rfl : allP.map (fun q=>dsL (σd (dnR dn (qS q))) [.bs 9,rowS (rS q),opnS (rS q)]) = allP.map (fun q=>dsL (σd dn) [.bs 9,rowS (qS q),opnS (strS (qS q))]))
theorem goalsR_all (dn : Nat → Nat) : ∀ q ∈ allP,goalsG (dnR dn (qS q)) (rS q) = goalsG dn (qS q):=List.map_inj_left.mp (by kernel_rfl : allP.map (fun q=>goalsG (dnR dn (qS q)) (rS q)) = allP.map (fun q=>goalsG dn (qS q)))
noncomputable def memL (p : List Bool) (up : Bool) (l : List QR) : Bool:=l.any fun q=>decide (q = (p,up))
theorem memL_ok {p : List Bool} {up : Bool} {l : List QR} (h : memL p up l = true) : (p,up) ∈ l:=by
  obtain ⟨q,m,e⟩:=List.any_eq_true.mp h
  exact of_decide_eq_true e ▸ m
theorem shp_all : ∀ q ∈ allP,((!wT q || (memL (pR (qS q)) true allR && memL (pR (qS q)) false allR && memL (pR (qS q)) false allS && hasT (rS q))) && (wT q || decide (q.1 = 0) || (hasT (mkN (q.1,0)) == false)) && (!(dgS (rS q)) || dgS (qS q)) && (wT q == decide (1 ≤ cntT (goalsG (fun _=>0) (qS q)))) && (!wT q || hasT (qS q)) && (dgS (rS q) == decide (2 ≤ cntT (goalsG (fun _=>0) (qS q)))) && (hasT (qS q) || !wT q)) = true:=
  List.map_inj_left.mp (by kernel_rfl : allP.map (fun q=>((!wT q || (memL (pR (qS q)) true allR && memL (pR (qS q)) false allR && memL (pR (qS q)) false allS && hasT (rS q))) && (wT q || decide (q.1 = 0) || (hasT (mkN (q.1,0)) == false)) && (!(dgS (rS q)) || dgS (qS q)) && (wT q == decide (1 ≤ cntT (goalsG (fun _=>0) (qS q)))) && (!wT q || hasT (qS q)) && (dgS (rS q) == decide (2 ≤ cntT (goalsG (fun _=>0) (qS q)))) && (hasT (qS q) || !wT q))) = allP.map (fun _=>true))
noncomputable def pk : List Gd → List Nat
  | []=>[]
  | .nt d :: L=>d :: pk L
  | _ :: L=>pk L
noncomputable def nOk : List Gd → Bool
  | []=>true
  | .nn d e :: L=>sub d e && nOk L
  | _ :: L=>nOk L
noncomputable def addA (lo : List Nat) : List Nat → List Nat
  | []=>lo
  | d :: ps=>if lo.any (Nat.beq · d) then addA lo ps else addA (lo ++ [d]) ps
theorem sett_eq (up : Bool) : ∀ (L : List Gd) (lo : List Nat),(∀ a ∈ lo,(!up || sub a 1) = true) → sett up L lo = if nOk L && (pk L).all (fun d=>!up || sub d 1) then some (addA lo (pk L)) else none
  | [],lo,_=>rfl
  | .fn :: L,lo,h=>sett_eq up L lo h
  | .nn d e :: L,lo,h=>by
    show (if sub d e then sett up L lo else none) = if (sub d e && nOk L) && (pk L).all (fun d=>!up || sub d 1) then some (addA lo (pk L)) else none
    rw [sett_eq up L lo h]
    cases sub d e <;> rfl
  | .nt d :: L,lo,h=>by
    show (if lo.any (Nat.beq · d) then sett up L lo else if up && !sub d 1 then none else sett up L (lo ++ [d])) = if nOk L && (d :: pk L).all (fun d=>!up || sub d 1) then some (if lo.any (Nat.beq · d) then addA lo (pk L) else addA (lo ++ [d]) (pk L)) else none
    rw [List.all_cons]
    cases q : lo.any (Nat.beq · d) with
    | true=>
      obtain ⟨a,ha,e⟩:=List.any_eq_true.mp q
      have e : a = d:=Nat.eq_of_beq_eq_true e
      have hd:=e ▸ h a ha
      rw [hd]
      simp only [if_true,Bool.true_and]
      exact sett_eq up L lo h
    | false=>
      simp only [Bool.false_eq_true,if_false]
      cases hu : (!up || sub d 1) with
      | false=>
        have : (up && !sub d 1) = true:=by revert hu; cases up <;> cases sub d 1 <;> simp
        rw [this]; simp
      | true=>
        have : (up && !sub d 1) = false:=by revert hu; cases up <;> cases sub d 1 <;> simp
        rw [this]
        simp only [Bool.false_eq_true,if_false,Bool.true_and]
        exact sett_eq up L (lo ++ [d]) fun a m=>(List.mem_append.mp m).elim (h a) fun m=>List.mem_singleton.mp m ▸ hu
theorem addA_len : ∀ (ps lo : List Nat),lo.length ≤ (addA lo ps).length
  | [],lo=>Nat.le_refl _
  | d :: ps,lo=>by
    show lo.length ≤ (if lo.any (Nat.beq · d) then addA lo ps else addA (lo ++ [d]) ps).length
    split
    · exact addA_len ps lo
    · have:=addA_len ps (lo ++ [d])
      rw [List.length_append] at this
      exact Nat.le_trans (Nat.le_add_right _ _) this
theorem addA_one (d : Nat) : ∀ ps : List Nat,(ps.all (Nat.beq d ·) = true ∧ addA [d] ps = [d]) ∨ (ps.all (Nat.beq d ·) = false ∧ 2 ≤ (addA [d] ps).length)
  | []=>.inl ⟨rfl,rfl⟩
  | e :: ps=>by
    have e1 : addA [d] (e :: ps) = if [d].any (Nat.beq · e) then addA [d] ps else addA ([d] ++ [e]) ps:=rfl
    have e2 : [d].any (Nat.beq · e) = Nat.beq d e:=by simp
    rw [e1,e2,List.all_cons]
    cases q : Nat.beq d e with
    | true=>simpa using addA_one d ps
    | false=>exact .inr ⟨rfl,by simpa using addA_len ps ([d] ++ [e])⟩
noncomputable def one1 (ps : List Nat) : Bool:=match ps with | []=>true | d :: ps=>ps.all (Nat.beq d ·) && leafB d
theorem conc_eq (dg : Bool) (ps : List Nat) : conc dg (addA [] ps) = (!dg || one1 ps):=by
  cases ps with
  | nil=>rfl
  | cons d ps=>
    have e : addA [] (d :: ps) = addA [d] ps:=rfl
    rw [e]
    have o : one1 (d :: ps) = (ps.all (Nat.beq d ·) && leafB d):=rfl
    rw [o]
    unfold conc
    rcases addA_one d ps with ⟨h1,h2⟩ | ⟨h1,h2⟩
    · rw [h1,h2]; simp
    · rw [h1]
      match addA [d] ps,h2 with
      | _ :: _ :: _,_=>simp
theorem pk_len : ∀ L,(pk L).length = cntT L
  | []=>rfl
  | .fn :: L=>pk_len L
  | .nn _ _ :: L=>pk_len L
  | .nt _ :: L=>congrArg (· + 1) (pk_len L)
noncomputable def fitsE (up : Bool) (L : List Gd) : Bool:=nOk L && (pk L).all (fun d=>sub d (upN up)) && (match pk L with | []=>true | [_]=>true | ps=>one1 ps)
theorem sub_up {d : Nat} (hd : d < 5) (up : Bool) : sub d (upN up) = (!up || sub d 1):=by
  cases up with
  | true=>rfl
  | false=>match d,hd with | 0,_=>rfl | 1,_=>rfl | 2,_=>rfl | 3,_=>rfl | 4,_=>rfl
theorem pk_lt : ∀ {L : List Gd},(∀ g ∈ L,okG g) → ∀ d ∈ pk L,d < 5
  | .fn :: L,h,d,m=>pk_lt (L:=L) (fun g z=>h g (List.mem_cons_of_mem _ z)) d m
  | .nn _ _ :: L,h,d,m=>pk_lt (L:=L) (fun g z=>h g (List.mem_cons_of_mem _ z)) d m
  | .nt e :: L,h,d,m=>(List.mem_cons.mp m).elim (fun q=>q ▸ h _ (List.mem_cons_self ..)) (pk_lt (L:=L) (fun g z=>h g (List.mem_cons_of_mem _ z)) d)
theorem all_up {L : List Gd} (h : ∀ g ∈ L,okG g) (up : Bool) : (pk L).all (fun d=>sub d (upN up)) = (pk L).all (fun d=>!up || sub d 1):=by
  have:=pk_lt h
  revert this
  induction pk L with
  | nil=>intro _; rfl
  | cons d ps ih=>intro h; rw [List.all_cons,List.all_cons,sub_up (h d (List.mem_cons_self ..)),ih fun a m=>h a (List.mem_cons_of_mem _ m)]
noncomputable def passL (up hT dg : Bool) (L : List Gd) : Bool:=match sett up L [] with
  | some lo=>(match hT with | true=>conc dg lo | false=>true)
  | none=>false
theorem passL_eq {L : List Gd} (h : ∀ g ∈ L,okG g) (up hT dg : Bool) : passL up hT dg L = (nOk L && (pk L).all (fun d=>sub d (upN up)) && (!hT || !dg || one1 (pk L))):=by
  unfold passL
  rw [sett_eq up L [] (fun _ m=>nomatch m),all_up h]
  cases nOk L && (pk L).all (fun d=>!up || sub d 1) with
  | false=>rfl
  | true=>
    simp only [if_true,Bool.true_and]
    cases hT with
    | false=>rfl
    | true=>rw [conc_eq]; rfl
theorem law_T {L : List Gd} (h : ∀ g ∈ L,okG g) (up dg dr : Bool) (h1 : dr = true → dg = true) (h2 : dr = decide (2 ≤ cntT L)) : (passL up true dg L || passL up true dr L) = true ↔ fitsE up L = true:=by
  rw [passL_eq h,passL_eq h]
  unfold fitsE
  have e : (match pk L with | []=>true | [_]=>true | ps=>one1 ps) = (!dr || one1 (pk L)):=by
    have l:=pk_len L
    rw [← l] at h2
    match pk L,h2 with
    | [],h2=>rw [h2]; rfl
    | [_],h2=>rw [h2]; rfl
    | a :: b :: ps,h2=>
      have : decide (2 ≤ (a :: b :: ps).length) = true:=decide_eq_true (by show 2 ≤ ps.length + 1 + 1; omega)
      rw [h2,this]; rfl
  rw [e]
  cases nOk L && (pk L).all (fun d=>sub d (upN up)) <;> cases dg <;> cases dr <;> cases one1 (pk L) <;> simp_all
theorem law_N {L : List Gd} (h : ∀ g ∈ L,okG g) (up hT dg : Bool) (h2 : cntT L = 0) (up' : Bool) : passL up hT dg L = fitsE up' L:=by
  rw [passL_eq h]
  unfold fitsE
  have l:=pk_len L
  rw [h2] at l
  have : pk L = []:=List.eq_nil_of_length_eq_zero l
  rw [this]
  have o : one1 [] = true:=rfl
  rw [o]
  simp
theorem shpN_all : ∀ q ∈ allP,(match wT q with | true=>mkN (0,0) | false=>rS q) = (match wT q with | true=>mkN (0,0) | false=>mkN (q.1,0)):=List.map_inj_left.mp (by kernel_rfl : allP.map (fun q=>match wT q with | true=>mkN (0,0) | false=>rS q) = allP.map (fun q=>match wT q with | true=>mkN (0,0) | false=>mkN (q.1,0)))
theorem m3_all : ∀ q ∈ allP,q.1 ≤ 3:=by decide +kernel
theorem cnt_all (dn : Nat → Nat) : ∀ q ∈ allP,cntT (goalsG dn (qS q)) = cntT (goalsG (fun _=>0) (qS q)):=List.map_inj_left.mp (by kernel_rfl : allP.map (fun q=>cntT (goalsG dn (qS q))) = allP.map (fun q=>cntT (goalsG (fun _=>0) (qS q))))
section
variable {c : Cx} {K : Frag} {x : AO} {n N : Nat} {k w a : Addr} {dn : Nat → Nat} {s : Shp} {H H' : Hs} {l : List (List AV × Bool)} {as : List AV} {v : AV}
theorem gTab_ok : ∀ {l : List (List AV × Bool)},(∀ e ∈ l,∀ H,TC c n (.fn a) e.1 H (.bool e.2) H) → gTab l as H = some (v,H') → TC c n (.fn a) as H v H'
  | [],_,h=>nomatch h
  | p :: l,T,h=>by
    have h : (match sVs as p.1 with | true=>some (AV.bool p.2,H) | false=>gTab l as H) = some (v,H'):=h
    cases q : sVs as p.1 with
    | true=>
      rw [q] at h
      cases h
      rw [sVs_eq q]
      exact T p (List.mem_cons_self ..) H
    | false=>rw [q] at h; exact gTab_ok (fun e m=>T e (List.mem_cons_of_mem _ m)) h
theorem tab_base (W : Wo c K x) {f : Fn} (hf : fn1 a = some f) (T : ∀ e ∈ l,∀ H,TC c n (.fn a) e.1 H (.bool e.2) H) : Base c K (Gt x a l) n:=by
  refine W.base (fun b h=>?_) (fun b g hg' as H v H' q=>?_) (fun _ _ _ e=>nomatch e) (fun _ _ _ e=>nomatch e)
  · have h : (iff (Nat.beq b a) (some (gTab l)) none).isSome = true:=h
    cases z : Nat.beq b a with
    | false=>rw [z] at h; cases h
    | true=>obtain rfl:=Nat.eq_of_beq_eq_true z; exact W.keepFn hf
  · have hg' : iff (Nat.beq b a) (some (gTab l)) none = some g:=hg'
    cases z : Nat.beq b a with
    | false=>rw [z] at hg'; cases hg'
    | true=>
      rw [z] at hg'
      obtain rfl:=Option.some.inj hg'
      obtain rfl:=Nat.eq_of_beq_eq_true z
      exact gTab_ok T q
theorem dnR_lt {s : Shp} (hd : ∀ i,dn i < 5) : ∀ i,dnR dn s i < 5:=fun i=>by
  unfold dnR
  cases Nat.blt i 3 with
  | true=>exact hd _
  | false=>
    cases Nat.beq i 7 with
    | true=>exact hd _
    | false=>cases wan s (i - 3) with
      | some j=>exact hd _
      | none=>exact (by decide : 0 < 5)
theorem str_up (q : QO) (up : Bool) : [AV.bs 9,rowS (mkR (pR (qS q),up)),opnS (mkR (pR (qS q),up))] = [AV.bs 9,rowS (rS q),opnS (rS q)]:=by kernel_rfl
theorem to_str {q : QO} (hq : q ∈ allP) (hσ : c.σ = σd dn) {b : Bool} (T : TC (cx c (σd (dnR dn (qS q)))) n (.fn a) [.bs 9,rowS (rS q),opnS (rS q)] [] (.bool b) []) : TC c n (.fn a) [.bs 9,rowS (qS q),opnS (strS (qS q))] [] (.bool b) []:=by
  have T1:=(ds_TC (cx_E c _)).mp T
  have e:=strR_all dn q hq
  refine (ds_TC refl_E).mpr ?_
  rw [hσ]
  have e1 : dsL (cx c (σd (dnR dn (qS q)))).σ [.bs 9,rowS (rS q),opnS (rS q)] = dsL (σd dn) [.bs 9,rowS (qS q),opnS (strS (qS q))]:=e
  rw [e1] at T1
  exact T1
theorem nlS_all : ∀ q ∈ allP,noLoL [.bs 9,rowS (qS q),opnS (strS (qS q))] = true:=List.map_inj_left.mp (by kernel_rfl : allP.map (fun q=>noLoL [.bs 9,rowS (qS q),opnS (strS (qS q))]) = allP.map (fun _=>true))
theorem nlM_all : ∀ q ∈ allP,noLoL [.bs 9,rowS (qS q),opnS (qS q)] = true:=List.map_inj_left.mp (by kernel_rfl : allP.map (fun q=>noLoL [.bs 9,rowS (qS q),opnS (qS q)]) = allP.map (fun _=>true))
theorem nlW_all : ∀ q ∈ allP,noLoL [.bs 9,opnS (qS q),rowS (qS q)] = true:=List.map_inj_left.mp (by kernel_rfl : allP.map (fun q=>noLoL [.bs 9,opnS (qS q),rowS (qS q)]) = allP.map (fun _=>true))
structure Cell (dn : Nat → Nat) (m : Nat) (p : List Bool) (tT up : Bool) : Prop where
  hd : ∀ i,dn i < 5
  hP : (m,p,tT,false) ∈ allP
  hO : (m,p,tT,hasT (mkO (m,p,tT,false)) && up) ∈ allO
  h7 : dn 7 = upN up
theorem passL_eq' (dn : Nat → Nat) (s : Shp) : pass dn s = passL s.up (hasT s) (dgS s) (goalsG dn s):=rfl
theorem sub_O' (W : Wo c K x) (hσ : c.σ = σd dn) {m : Nat} {p : List Bool} {tT up : Bool} (C : Cell dn m p tT up) : TC c 61 (.fn 496) [.bs 9,rowS (qS (m,p,tT,false)),opnS (qS (m,p,tT,false))] H (.bool (passL (hasT (qS (m,p,tT,false)) && up) (hasT (qS (m,p,tT,false))) (dgS (qS (m,p,tT,false))) (goalsG dn (qS (m,p,tT,false))))) H:=
  sub_O W C.hd hσ C.hO C.hP (fun h=>by rw [show hasT (mkO (m,p,tT,false)) = true from h]; exact C.h7) fun h=>by
    have e:=shp_all _ C.hP
    have ec:=cnt_all dn _ C.hP
    simp only [Bool.and_eq_true] at e
    have e1 : wT (m,p,tT,false) = decide (1 ≤ cntT (goalsG (fun _=>0) (qS (m,p,tT,false)))):=by simpa using e.1.1.1.2
    have e2 : (!wT (m,p,tT,false) || hasT (qS (m,p,tT,false))) = true:=e.1.1.2
    have h' : hasT (qS (m,p,tT,false)) = false:=h
    rw [h',Bool.or_false] at e2
    have e3 : wT (m,p,tT,false) = false:=by simpa using e2
    rw [e3] at e1
    have e4 : ¬ 1 ≤ cntT (goalsG (fun _=>0) (qS (m,p,tT,false))):=of_decide_eq_false e1.symm
    show cntT (goalsG dn (qS (m,p,tT,false))) = 0
    omega
theorem sub_W' (W : Wo c K x) (hσ : c.σ = σd dn) {m : Nat} {p : List Bool} {tT up : Bool} (C : Cell dn m p tT up) : TC c 61 (.fn 496) [.bs 9,opnS (qS (m,p,tT,false)),rowS (qS (m,p,tT,false))] H (.bool false) H:=
  sub_W (up:=hasT (mkO (m,p,tT,false)) && up) W hσ C.hO C.hP fun h=>by rw [show hasT (mkO (m,p,tT,false)) = true from h]; exact C.h7
end
theorem goalsN (dn : Nat → Nat) : allN.map (fun q=>goalsG dn (mkN q)) = allN.map (fun q=>match q.1 with | 1=>[.nn (dn 0) (dn 3),.fn] | 2=>[.nn (dn 1) (dn 4),.nn (dn 0) (dn 3),.fn] | _=>[.nn (dn 2) (dn 5),.nn (dn 1) (dn 4),.nn (dn 0) (dn 3),.fn]):=by kernel_rfl
section
variable {c : Cx} {K : Frag} {x : AO} {n N : Nat} {k w a : Addr} {dn : Nat → Nat} {H H' : Hs} {m : Nat} {p : List Bool} {tT up : Bool}
theorem str_T (W : Wo c K x) (hσ : c.σ = σd dn) (C : Cell dn m p tT up) (hw : wT (m,p,tT,false) = true) : TC c 61 (.fn 496) [.bs 9,rowS (qS (m,p,tT,false)),opnS (strS (qS (m,p,tT,false)))] H (.bool (passL up true (dgS (rS (m,p,tT,false))) (goalsG dn (qS (m,p,tT,false))))) H:=by
  have e:=shp_all _ C.hP
  simp only [Bool.and_eq_true] at e
  have e0:=e.1.1.1.1.1.1
  rw [hw] at e0
  simp only [Bool.not_true,Bool.false_or,Bool.and_eq_true] at e0
  obtain ⟨⟨⟨ea,eb⟩,ec⟩,eT⟩:=e0
  have hR : (pR (qS (m,p,tT,false)),up) ∈ allR:=by cases up <;> first | exact memL_ok ea | exact memL_ok eb
  have hS : (pR (qS (m,p,tT,false)),false) ∈ allS:=memL_ok ec
  refine tc_pure (nlS_all _ C.hP) rfl (to_str C.hP hσ ?_)
  have T:=sub_R (c:=cx c (σd (dnR dn (qS (m,p,tT,false))))) (dn:=dnR dn (qS (m,p,tT,false))) (up:=up) (W.to (cx_E' c _)) (dnR_lt C.hd) rfl hR hS (show hasT (mkR (pR (qS (m,p,tT,false)),up)) = true from eT) C.h7
  rw [str_up (m,p,tT,false) up] at T
  have ep : pass (dnR dn (qS (m,p,tT,false))) (mkR (pR (qS (m,p,tT,false)),up)) = passL up true (dgS (rS (m,p,tT,false))) (goalsG dn (qS (m,p,tT,false))):=by
    rw [passL_eq',← goalsR_all dn _ C.hP]
    have : hasT (mkR (pR (qS (m,p,tT,false)),up)) = true:=eT
    rw [this]; rfl
  rw [ep] at T
  exact T
theorem str_N (W : Wo c K x) (hσ : c.σ = σd dn) (C : Cell dn m p tT up) (hw : wT (m,p,tT,false) = false) (hc : cntT (goalsG dn (qS (m,p,tT,false))) = 0) (hn : nOk (goalsG dn (qS (m,p,tT,false))) = false) : TC c 61 (.fn 496) [.bs 9,rowS (qS (m,p,tT,false)),opnS (strS (qS (m,p,tT,false)))] H (.bool false) H:=by
  have es:=shpN_all _ C.hP
  rw [hw] at es
  have es : rS (m,p,tT,false) = mkN (m,0):=es
  have e:=shp_all _ C.hP
  simp only [Bool.and_eq_true] at e
  have eT:=e.1.1.1.1.1.2
  have hm:=m3_all _ C.hP
  have hm : m ≤ 3:=hm
  refine tc_pure (nlS_all _ C.hP) rfl (to_str C.hP hσ ?_)
  have eg:=goalsR_all dn _ C.hP
  rw [← eg,es] at hn hc
  rw [es]
  have hd:=dnR_lt (s:=qS (m,p,tT,false)) C.hd
  have hT : ∀ f,1 ≤ m → hasT (mkN (m,f)) = false:=fun f h1=>by
    rw [hw] at eT
    have : decide (m = 0) = false:=decide_eq_false (by omega)
    rw [show decide ((m,p,tT,false).1 = 0) = false from this] at eT
    show hasT (mkN (m,0)) = false
    simpa using eT
  have W':=W.to (cx_E' c (σd (dnR dn (qS (m,p,tT,false)))))
  have go : ∀ f,(m,f) ∈ allN → sub (dnR dn (qS (m,p,tT,false)) f) (dnR dn (qS (m,p,tT,false)) (3 + f)) = false → .nn (dnR dn (qS (m,p,tT,false)) f) (dnR dn (qS (m,p,tT,false)) (3 + f)) ∈ goalsG (dnR dn (qS (m,p,tT,false))) (mkN (m,f)) → 1 ≤ m → TC (cx c (σd (dnR dn (qS (m,p,tT,false))))) 61 (.fn 496) [.bs 9,rowS (mkN (m,0)),opnS (mkN (m,0))] [] (.bool false) []:=fun f h1 h2 h3 h4=>
    show TC (cx c (σd (dnR dn (qS (m,p,tT,false))))) 61 (.fn 496) [.bs 9,rowS (mkN (m,f)),opnS (mkN (m,f))] [] (.bool false) [] from sub_N (f:=f) (c:=cx c (σd (dnR dn (qS (m,p,tT,false))))) (dn:=dnR dn (qS (m,p,tT,false))) W' hd rfl h1 h2 h3 hc (hT f h4)
  generalize dnR dn (qS (m,p,tT,false)) = dr at *
  have key:=List.map_inj_left.mp (goalsN dr)
  obtain rfl | rfl | rfl | rfl : m = 0 ∨ m = 1 ∨ m = 2 ∨ m = 3:=(by decide : ∀ k,k < 4 → k = 0 ∨ k = 1 ∨ k = 2 ∨ k = 3) m (Nat.lt_succ_of_le hm)
  · cases hn
  · skip
    have k1 : goalsG dr (mkN (1,0)) = [.nn (dr 0) (dr 3),.fn]:=key (1,0) (by decide +kernel)
    rw [k1] at hn
    have hn : (sub (dr 0) (dr 3) && true) = false:=hn
    refine go 0 (by decide +kernel) (by simpa using hn) ?_ (Nat.le_refl _)
    rw [k1]; exact List.mem_cons_self ..
  · skip
    have k0 : goalsG dr (mkN (2,0)) = [.nn (dr 1) (dr 4),.nn (dr 0) (dr 3),.fn]:=key (2,0) (by decide +kernel)
    have k1 : goalsG dr (mkN (2,1)) = [.nn (dr 1) (dr 4),.nn (dr 0) (dr 3),.fn]:=key (2,1) (by decide +kernel)
    rw [k0] at hn
    have hn : (sub (dr 1) (dr 4) && (sub (dr 0) (dr 3) && true)) = false:=hn
    cases q : sub (dr 1) (dr 4) with
    | false=>exact go 1 (by decide +kernel) q (by rw [k1]; exact List.mem_cons_self ..) (by decide)
    | true=>
      rw [q] at hn
      exact go 0 (by decide +kernel) (by simpa using hn) (by rw [k0]; exact List.mem_cons_of_mem _ (List.mem_cons_self ..)) (by decide)
  · skip
    have k0 : goalsG dr (mkN (3,0)) = [.nn (dr 2) (dr 5),.nn (dr 1) (dr 4),.nn (dr 0) (dr 3),.fn]:=key (3,0) (by decide +kernel)
    have k1 : goalsG dr (mkN (3,1)) = [.nn (dr 2) (dr 5),.nn (dr 1) (dr 4),.nn (dr 0) (dr 3),.fn]:=key (3,1) (by decide +kernel)
    have k2 : goalsG dr (mkN (3,2)) = [.nn (dr 2) (dr 5),.nn (dr 1) (dr 4),.nn (dr 0) (dr 3),.fn]:=key (3,2) (by decide +kernel)
    rw [k0] at hn
    have hn : (sub (dr 2) (dr 5) && (sub (dr 1) (dr 4) && (sub (dr 0) (dr 3) && true))) = false:=hn
    cases q2 : sub (dr 2) (dr 5) with
    | false=>exact go 2 (by decide +kernel) q2 (by rw [k2]; exact List.mem_cons_self ..) (by decide)
    | true=>
      rw [q2] at hn
      cases q : sub (dr 1) (dr 4) with
      | false=>exact go 1 (by decide +kernel) q (by rw [k1]; exact List.mem_cons_of_mem _ (List.mem_cons_self ..)) (by decide)
      | true=>
        rw [q] at hn
        exact go 0 (by decide +kernel) (by simpa using hn) (by rw [k0]; exact List.mem_cons_of_mem _ (List.mem_cons_of_mem _ (List.mem_cons_self ..))) (by decide)
theorem ims_ok (W : Wo c K x) (hσ : c.σ = σd dn) (C : Cell dn m p tT up) : TC c 81 (.fn 524) [.bs 9,rowS (qS (m,p,tT,false)),opnS (qS (m,p,tT,false))] H (.bool (fitsE up (goalsG dn (qS (m,p,tT,false))))) H:=by
  refine tc_pure (nlM_all _ C.hP) rfl ?_
  have hg:=goals_ok (s:=qS (m,p,tT,false)) C.hd
  have e:=shp_all _ C.hP
  simp only [Bool.and_eq_true] at e
  have eTT : (!wT (m,p,tT,false) || hasT (qS (m,p,tT,false))) = true:=e.1.1.2
  have edg : (!(dgS (rS (m,p,tT,false))) || dgS (qS (m,p,tT,false))) = true:=e.1.1.1.1.2
  have ewc : wT (m,p,tT,false) = decide (1 ≤ cntT (goalsG (fun _=>0) (qS (m,p,tT,false)))):=by simpa using e.1.1.1.2
  have edr : dgS (rS (m,p,tT,false)) = decide (2 ≤ cntT (goalsG (fun _=>0) (qS (m,p,tT,false)))):=by simpa using e.1.2
  rw [← cnt_all dn _ C.hP] at ewc edr
  have T1:=fun H=>sub_O' (H:=H) W hσ C
  have TW : ∀ H,TC c 61 (.fn 496) [.bs 9,opnS (qS (m,p,tT,false)),rowS (qS (m,p,tT,false))] H (.bool false) H:=fun H=>sub_W' W hσ C
  have yes : ∀ b,(∀ H,TC c 61 (.fn 496) [.bs 9,rowS (qS (m,p,tT,false)),opnS (qS (m,p,tT,false))] H (.bool b) H) → b = true → TC c 81 (.fn 524) [.bs 9,rowS (qS (m,p,tT,false)),opnS (qS (m,p,tT,false))] [] (.bool true) []:=fun b T hb=>by
    subst hb
    have B:=tab_base (c:=c) (n:=61) (a:=496) (f:=f_496) (l:=tabM (qS (m,p,tT,false)) true false) W rfl (fun e m=>by
      rcases List.mem_cons.mp m with rfl | m
      · exact T
      · obtain rfl:=List.mem_singleton.mp m; exact TW)
    exact sound B (isMt_all x _ C.hP)
  have no : ∀ b2,(∀ H,TC c 61 (.fn 496) [.bs 9,rowS (qS (m,p,tT,false)),opnS (qS (m,p,tT,false))] H (.bool false) H) → (∀ H,TC c 61 (.fn 496) [.bs 9,rowS (qS (m,p,tT,false)),opnS (strS (qS (m,p,tT,false)))] H (.bool b2) H) → TC c 81 (.fn 524) [.bs 9,rowS (qS (m,p,tT,false)),opnS (qS (m,p,tT,false))] [] (.bool b2) []:=fun b2 T T2=>by
    have B:=tab_base (c:=c) (n:=61) (a:=496) (f:=f_496) (l:=tabM (qS (m,p,tT,false)) false b2) W rfl (fun e m=>by
      rcases List.mem_cons.mp m with rfl | m
      · exact T
      · obtain rfl:=List.mem_singleton.mp m; exact T2)
    cases b2 with
    | true=>exact sound B (isMs_all x _ C.hP)
    | false=>exact sound B (isMf_all x _ C.hP)
  cases hw : wT (m,p,tT,false) with
  | true=>
    rw [hw] at eTT
    have hT : hasT (qS (m,p,tT,false)) = true:=by simpa using eTT
    rw [hT,Bool.true_and] at T1
    have L:=law_T hg up (dgS (qS (m,p,tT,false))) (dgS (rS (m,p,tT,false))) (fun h=>by rw [h] at edg; simpa using edg) edr
    cases q : passL up true (dgS (qS (m,p,tT,false))) (goalsG dn (qS (m,p,tT,false))) with
    | true=>
      have : fitsE up (goalsG dn (qS (m,p,tT,false))) = true:=L.mp (by rw [q]; rfl)
      rw [this]
      exact yes _ T1 q
    | false=>
      have T2:=fun H=>str_T (H:=H) W hσ C hw
      rw [q,Bool.false_or] at L
      have e2 : passL up true (dgS (rS (m,p,tT,false))) (goalsG dn (qS (m,p,tT,false))) = fitsE up (goalsG dn (qS (m,p,tT,false))):=Bool.eq_iff_iff.mpr L
      rw [e2] at T2
      rw [q] at T1
      exact no _ T1 T2
  | false=>
    rw [hw] at ewc
    have hc : cntT (goalsG dn (qS (m,p,tT,false))) = 0:=by
      have : ¬ 1 ≤ cntT (goalsG dn (qS (m,p,tT,false))):=of_decide_eq_false ewc.symm
      omega
    rw [law_N hg _ _ _ hc up] at T1
    cases q : fitsE up (goalsG dn (qS (m,p,tT,false))) with
    | true=>exact yes _ T1 q
    | false=>
      rw [q] at T1
      refine no false T1 fun H=>str_N W hσ C hw hc ?_
      unfold fitsE at q
      have l:=pk_len (goalsG dn (qS (m,p,tT,false)))
      rw [hc] at l
      rw [List.eq_nil_of_length_eq_zero l] at q
      simpa using q
theorem imsW_ok (W : Wo c K x) (hσ : c.σ = σd dn) (C : Cell dn m p tT up) : TC c 81 (.fn 524) [.bs 9,opnS (qS (m,p,tT,false)),rowS (qS (m,p,tT,false))] H (.bool false) H:=by
  refine tc_pure (nlW_all _ C.hP) rfl ?_
  have TW : ∀ H,TC c 61 (.fn 496) [.bs 9,opnS (qS (m,p,tT,false)),rowS (qS (m,p,tT,false))] H (.bool false) H:=fun H=>sub_W' W hσ C
  have B:=tab_base (c:=c) (n:=61) (a:=496) (f:=f_496) (l:=tabW (qS (m,p,tT,false))) W rfl (fun e m=>by
    obtain rfl:=List.mem_singleton.mp m; exact TW)
  exact sound B (isMw_all x _ C.hP)
end
noncomputable def nth4 (i : Nat) (l : List CS) : CS:=match hget l i with | some s=>s | none=>.bad
noncomputable def fS (i : Nat) : CS:=nth4 i f_765.bd
theorem f765_bd : f_765.bd = [fS 0,fS 1,fS 2,fS 3]:=by kernel_rfl
noncomputable def pkI (s : Shp) : List Nat:=(rg s.m).filter fun i=>isT (wan s i)
noncomputable def pkO (s : Shp) : AO:=.list (alen (pkI s)) (mapL AV.sym (pkI s).reverse)
noncomputable def V765 : Vs:=[(z_some,.loc 0),(z_wanted,.loc 1),(z_upper,.sym 7)]
noncomputable def V765b : Vs:=[(z_some,.loc 0),(z_wanted,.loc 1),(z_upper,.sym 7),(z_picked_ones,.loc 2)]
noncomputable def xsp : List Str:=[z_some,z_wanted,z_upper,z_picked_ones]
noncomputable def Fs1 (x : AO) (s : Shp) : Option (Fl × Vs × Hs):=xrG 2 (exDs (Gl x) (run (Gl x) 60 1) [fS 0] V765 [smO s,waO s]) (fun _=>[0,1,2]) [] xsp
theorem Fs1_all (x : AO) : ∀ q ∈ allP,Fs1 x (qS q) = some (.next,V765b,[smO (qS q),waO (qS q),pkO (qS q)]):=List.map_inj_left.mp (by kernel_rfl : allP.map (fun q=>Fs1 x (qS q)) = allP.map (fun q=>some (.next,V765b,[smO (qS q),waO (qS q),pkO (qS q)])))
noncomputable def l5 : List Nat:=[0,1,2,3,4]
noncomputable def lst5 : Nat → List (List Nat):=fun n=>Nat.rec [[]] (fun _ ih=>ih.flatMap fun l=>l5.map fun d=>d :: l) n
noncomputable def judge (up : Bool) (ps : List Nat) : Bool:=ps.all (fun d=>sub d (upN up)) && (match ps.reverse with | []=>true | [_]=>true | ps=>one1 ps)
noncomputable def V765c (up : Bool) : Vs:=[(z_some,.loc 0),(z_wanted,.loc 1),(z_upper,.str (nm (upN up))),(z_picked_ones,.loc 2)]
noncomputable def Fs2 (x X Y : AO) (up : Bool) (ps : List Nat) : Option (Fl × Vs × Hs):=xres 3 (exDs (Gx x) (run (Gx x) 60 1) [fS 1,fS 2] (V765c up) [X,Y,.list (alen ps) (mapL (fun d=>AV.str (nm d)) ps.reverse)]) [0,1,2] [2,2,0] [z_some,z_wanted]
noncomputable def Fs2e (X Y : AO) (up : Bool) (ps : List Nat) : Option (Fl × Vs × Hs):=some (match judge up ps with | true=>.next | false=>.ret (.bool false),[(z_some,.loc 0),(z_wanted,.loc 1)],[X,Y,.gone])
theorem Fs2_0 (x X Y : AO) (up : Bool) : (lst5 0).map (Fs2 x X Y true) = (lst5 0).map (Fs2e X Y true) ∧ (lst5 0).map (Fs2 x X Y false) = (lst5 0).map (Fs2e X Y false):=⟨by kernel_rfl,by kernel_rfl⟩
theorem Fs2_1 (x X Y : AO) : (lst5 1).map (Fs2 x X Y true) = (lst5 1).map (Fs2e X Y true) ∧ (lst5 1).map (Fs2 x X Y false) = (lst5 1).map (Fs2e X Y false):=⟨by kernel_rfl,by kernel_rfl⟩
theorem Fs2_2 (x X Y : AO) : (lst5 2).map (Fs2 x X Y true) = (lst5 2).map (Fs2e X Y true) ∧ (lst5 2).map (Fs2 x X Y false) = (lst5 2).map (Fs2e X Y false):=⟨by kernel_rfl,by kernel_rfl⟩
theorem Fs2_3t (x X Y : AO) : (lst5 3).map (Fs2 x X Y true) = (lst5 3).map (Fs2e X Y true):=by kernel_rfl
theorem Fs2_3f (x X Y : AO) : (lst5 3).map (Fs2 x X Y false) = (lst5 3).map (Fs2e X Y false):=by kernel_rfl
noncomputable def wS (o : Option Nat) : AV:=match o with | none=>.str z_T | some e=>.str (nm e)
noncomputable def badP (d : Nat) (o : Option Nat) : Bool:=match o with | none=>false | some e=>!sub d e
noncomputable def cs4 : List CE:=[.andl [(.cmp .NotEq (.var z_other) (.con (.str z_T))),(.cmp .NotIn (.var z_other) (.sub (.gv 62) (.var z_one)))]]
noncomputable def tg4 : TG:=.tp [z_one,z_other]
theorem fS3_eq : fS 3 = .ret (.cmp .Eq (.comp 2 (.con (.int (.ofNat 1))) tg4 [(.var z_some),(.var z_wanted)] cs4 []) (.lst [])):=by kernel_rfl
noncomputable def all30 : List (Nat × Option Nat):=l5.flatMap fun d=>(d,none) :: l5.map fun e=>(d,some e)
noncomputable def cj4 (x : AO) (H : Hs) (p : Nat × Option Nat) : Option (Bool × Hs):=(evDs (Gx x) (run (Gx x) 60 1) cs4).cj .And [(z_one,.str (nm p.1)),(z_other,wS p.2)] H
theorem cj4_all (x : AO) (H : Hs) : all30.map (cj4 x H) = all30.map (fun p=>some (badP p.1 p.2,H)):=by kernel_rfl
theorem mem5 {d : Nat} (h : d < 5) : d ∈ l5:=(by decide +kernel : ∀ d,d < 5 → d ∈ l5) d h
theorem mem30 {d : Nat} {o : Option Nat} (hd : d < 5) (ho : ∀ e,o = some e → e < 5) : (d,o) ∈ all30:=by
  refine List.mem_flatMap.mpr ⟨d,mem5 hd,?_⟩
  cases o with
  | none=>exact List.mem_cons_self ..
  | some e=>exact List.mem_cons_of_mem _ (List.mem_map.mpr ⟨e,mem5 (ho e rfl),rfl⟩)
theorem cj4_ok (x : AO) (H : Hs) {d : Nat} {o : Option Nat} (hd : d < 5) (ho : ∀ e,o = some e → e < 5) : cj4 x H (d,o) = some (badP d o,H):=List.map_inj_left.mp (cj4_all x H) (d,o) (mem30 hd ho)
abbrev Prs:=List (Nat × Option Nat)
noncomputable def okP (ps : Prs) : Prop:=∀ p ∈ ps,p.1 < 5 ∧ ∀ e,p.2 = some e → e < 5
noncomputable def L1 (ps : Prs) : AO:=.list ps.length (ps.map fun p=>AV.str (nm p.1)).reverse
noncomputable def L2 (ps : Prs) : AO:=.list ps.length (ps.map fun p=>wS p.2).reverse
noncomputable def ones (a : Nat) : List AV:=List.replicate a (.int (.ofNat 1))
noncomputable def Ha (ps : Prs) (a : Nat) : Hs:=[L1 ps,L2 ps,.gone,.list a (ones a)]
theorem noTupL_ok : ∀ {l : List AV},(∀ v ∈ l,noTup v = true) → noTupL l = true
  | [],_=>rfl
  | v :: l,h=>by
    show (match noTup v with | true=>noTupL l | false=>false) = true
    rw [h v (List.mem_cons_self ..)]
    exact noTupL_ok fun w m=>h w (List.mem_cons_of_mem _ m)
theorem noTup_wS (o : Option Nat) : noTup (wS o) = true:=by cases o <;> rfl
theorem noTup_Ha (ps : Prs) (a : Nat) : noTupH (Ha ps a) = true:=by
  have e1 : noTupO (L1 ps) = true:=noTupL_ok fun v m=>by
    obtain ⟨p,_,rfl⟩:=List.mem_map.mp (List.mem_reverse.mp m); rfl
  have e2 : noTupO (L2 ps) = true:=noTupL_ok fun v m=>by
    obtain ⟨p,_,rfl⟩:=List.mem_map.mp (List.mem_reverse.mp m); exact noTup_wS _
  have e3 : noTupO (.list a (ones a)) = true:=noTupL_ok fun v m=>by rw [List.eq_of_mem_replicate m]; rfl
  show (match noTupO (L1 ps) with | true=>(match noTupO (L2 ps) with | true=>(match noTupO AO.gone with | true=>(match noTupO (.list a (ones a)) with | true=>true | false=>false) | false=>false) | false=>false) | false=>false) = true
  rw [e1,e2,e3]; rfl
theorem next_Ha (ps : Prs) (a k : Nat) : nextS [] (Ha ps a) (.zip 0 1 k) = some (match hget (ps.map fun p=>AV.str (nm p.1)) k with | none=>none | some v=>(match hget (ps.map fun p=>wS p.2) k with | some w=>some (.tup [v,w],.zip 0 1 (k + 1)) | none=>none)):=by
  show grd true (grd (noTupH (Ha ps a)) (some (zipN 0 1 k (ps.map fun p=>AV.str (nm p.1)).reverse (ps.map fun p=>wS p.2).reverse))) = _
  rw [noTup_Ha]
  show some (zipN 0 1 k (ps.map fun p=>AV.str (nm p.1)).reverse (ps.map fun p=>wS p.2).reverse) = _
  unfold zipN
  rw [List.reverse_reverse,List.reverse_reverse]
  all_goals rfl
noncomputable def cnt (ps : Prs) : Nat:=match ps with | []=>0 | p :: ps=>(match badP p.1 p.2 with | true=>1 | false=>0) + cnt ps
noncomputable def loop4 (x : AO) (n : Nat) (s : Sr) (H : Hs) : Option Hs:=cmpL (evD (Gx x) (run (Gx x) 60 1) (.con (.int (.ofNat 1)))) tg4 (evDs (Gx x) (run (Gx x) 60 1) cs4) [] 3 n s H
theorem loop4_ok (x : AO) : ∀ (suf pre : Prs) (a n : Nat),okP (pre ++ suf) → suf.length + 1 ≤ n → a + suf.length ≤ 100 → loop4 x n (.zip 0 1 pre.length) (Ha (pre ++ suf) a) = some (Ha (pre ++ suf) (a + cnt suf))
  | [],pre,a,n + 1,hp,hn,ha=>by
    show bn1 (nextS [] (Ha (pre ++ []) a) (.zip 0 1 pre.length)) _ = _
    rw [next_Ha,List.append_nil,hget_none (by rw [List.length_map]; exact Nat.le_refl _)]
    rfl
  | p :: suf,pre,a,n + 1,hp,hn,ha=>by
    obtain ⟨h1,h2⟩:=hp p (List.mem_append.mpr (.inr (List.mem_cons_self ..)))
    have g1 : ∀ {β : Type} (f : Nat × Option Nat → β),hget ((pre ++ p :: suf).map f) pre.length = some (f p):=fun f=>by
      rw [hget_eq,List.getElem?_map,List.getElem?_append_right (Nat.le_refl _),Nat.sub_self]; rfl
    show bn1 (nextS [] (Ha (pre ++ p :: suf) a) (.zip 0 1 pre.length)) _ = _
    rw [next_Ha,g1,g1]
    have hc:=cj4_ok x (Ha (pre ++ p :: suf) a) h1 h2
    have e2 : pre ++ p :: suf = (pre ++ [p]) ++ suf:=by simp
    have lp : (pre ++ [p]).length = pre.length + 1:=by rw [List.length_append]; rfl
    have ls : (p :: suf).length = suf.length + 1:=rfl
    have ih:=fun a' (h : a' + suf.length ≤ 100)=>loop4_ok x suf (pre ++ [p]) a' n (e2 ▸ hp) (by omega) h
    show bnd (cj4 x (Ha (pre ++ p :: suf) a) (p.1,p.2)) (fun t H1=>iff t (bnd (some (AV.int (.ofNat 1),H1)) fun y H2=>bn1 (hget H2 3) fun o=>asList o fun m r=>grd (small m) (loop4 x n (.zip 0 1 (pre.length + 1)) (setN H2 3 (.list (m + 1) (y :: r))))) (loop4 x n (.zip 0 1 (pre.length + 1)) H1)) = _
    rw [hc]
    show iff (badP p.1 p.2) (grd (small a) (loop4 x n (.zip 0 1 (pre.length + 1)) [L1 (pre ++ p :: suf),L2 (pre ++ p :: suf),.gone,.list (a + 1) (.int (.ofNat 1) :: ones a)])) (loop4 x n (.zip 0 1 (pre.length + 1)) (Ha (pre ++ p :: suf) a)) = some (Ha (pre ++ p :: suf) (a + ((match badP p.1 p.2 with | true=>1 | false=>0) + cnt suf)))
    cases q : badP p.1 p.2 with
    | false=>
      show loop4 x n (.zip 0 1 (pre.length + 1)) (Ha (pre ++ p :: suf) a) = some (Ha (pre ++ p :: suf) (a + (0 + cnt suf)))
      rw [Nat.zero_add,← lp,e2]
      exact ih a (by omega)
    | true=>
      have hs : small a = true:=Nat.ble_eq.mpr (by omega)
      show grd (small a) (loop4 x n (.zip 0 1 (pre.length + 1)) (Ha (pre ++ p :: suf) (a + 1))) = some (Ha (pre ++ p :: suf) (a + (1 + cnt suf)))
      rw [hs,← Nat.add_assoc,← lp,e2]
      exact ih (a + 1) (by omega)
noncomputable def V2 : Vs:=[(z_some,.loc 0),(z_wanted,.loc 1)]
theorem fS3_run (x : AO) (ps : Prs) (hp : okP ps) (hl : ps.length ≤ 50) : exD (Gx x) (run (Gx x) 60 1) (fS 3) V2 [L1 ps,L2 ps,.gone] = some (.ret (.bool (Nat.beq (cnt ps) 0)),V2,Ha ps (cnt ps) ++ [.list 0 []]):=by
  rw [fS3_eq]
  have h:=loop4_ok x ps [] 0 60 hp (by omega) (by omega)
  have h : loop4 x 60 (.zip 0 1 0) (Ha ps 0) = some (Ha ps (0 + cnt ps)):=h
  rw [Nat.zero_add] at h
  show bnd (bnd (bn1 (loop4 x 60 (.zip 0 1 0) (Ha ps 0)) fun H2=>some (AV.loc 3,H2)) fun x1 H1=>bnd (dLst dNil V2 H1) fun y H2=>bn1 (cmpOp (Gx x) H2 .Eq x1 y) fun r=>some (AV.bool r,H2)) (fun v H1=>rtn v V2 H1) = _
  rw [h]
  have e : cmpOp (Gx x) (Ha ps (cnt ps) ++ [.list 0 []]) .Eq (.loc 3) (.loc 4) = some (Nat.beq (cnt ps) 0):=by
    show eqLs (Gx x) (ones (cnt ps)) [] = some (Nat.beq (cnt ps) 0)
    cases cnt ps <;> rfl
  show bnd (bn1 (cmpOp (Gx x) (Ha ps (cnt ps) ++ [.list 0 []]) .Eq (.loc 3) (.loc 4)) fun r=>some (AV.bool r,Ha ps (cnt ps) ++ [.list 0 []])) (fun v H1=>rtn v V2 H1) = _
  rw [e]; rfl
noncomputable def psS (dn : Nat → Nat) (s : Shp) : Prs:=(rg s.m).map fun i=>(dn i,(wan s i).map dn)
theorem sm_ds (dn : Nat → Nat) : ∀ q ∈ allP,dsO (σd dn) (smO (qS q)) = L1 (psS dn (qS q)):=List.map_inj_left.mp (by kernel_rfl : allP.map (fun q=>dsO (σd dn) (smO (qS q))) = allP.map (fun q=>L1 (psS dn (qS q))))
theorem wa_ds (dn : Nat → Nat) : ∀ q ∈ allP,dsO (σd dn) (waO (qS q)) = L2 (psS dn (qS q)):=List.map_inj_left.mp (by kernel_rfl : allP.map (fun q=>dsO (σd dn) (waO (qS q))) = allP.map (fun q=>L2 (psS dn (qS q))))
theorem pk_ds (dn : Nat → Nat) : ∀ q ∈ allP,dsO (σd dn) (pkO (qS q)) = .list (alen ((pkI (qS q)).map dn)) (mapL (fun d=>AV.str (nm d)) ((pkI (qS q)).map dn).reverse):=List.map_inj_left.mp (by kernel_rfl : allP.map (fun q=>dsO (σd dn) (pkO (qS q))) = allP.map (fun q=>.list (alen ((pkI (qS q)).map dn)) (mapL (fun d=>AV.str (nm d)) ((pkI (qS q)).map dn).reverse)))
theorem pk_goals (dn : Nat → Nat) : ∀ q ∈ allP,pk (goalsG dn (qS q)) = ((pkI (qS q)).map dn).reverse:=List.map_inj_left.mp (by kernel_rfl : allP.map (fun q=>pk (goalsG dn (qS q))) = allP.map (fun q=>((pkI (qS q)).map dn).reverse))
theorem nOk_iff : ∀ {L : List Gd},nOk L = true ↔ ∀ d e,.nn d e ∈ L → sub d e = true
  | []=>⟨fun _ _ _ m=>(nomatch m),fun _=>rfl⟩
  | .fn :: L=>(nOk_iff (L:=L)).trans ⟨fun h d e m=>h d e ((List.mem_cons.mp m).resolve_left fun q=>(nomatch q)),fun h d e m=>h d e (List.mem_cons_of_mem _ m)⟩
  | .nt d' :: L=>(nOk_iff (L:=L)).trans ⟨fun h d e m=>h d e ((List.mem_cons.mp m).resolve_left fun q=>(nomatch q)),fun h d e m=>h d e (List.mem_cons_of_mem _ m)⟩
  | .nn a b :: L=>by
    show (sub a b && nOk L) = true ↔ _
    rw [Bool.and_eq_true,nOk_iff (L:=L)]
    exact ⟨fun h d e m=>(List.mem_cons.mp m).elim (fun q=>by cases q; exact h.1) (h.2 d e),fun h=>⟨h a b (List.mem_cons_self ..),fun d e m=>h d e (List.mem_cons_of_mem _ m)⟩⟩
theorem cnt_iff : ∀ {ps : Prs},cnt ps = 0 ↔ ∀ p ∈ ps,badP p.1 p.2 = false
  | []=>⟨fun _ _ m=>(nomatch m),fun _=>rfl⟩
  | p :: ps=>by
    show (match badP p.1 p.2 with | true=>1 | false=>0) + cnt ps = 0 ↔ _
    cases q : badP p.1 p.2 with
    | true=>exact ⟨fun h=>absurd h (by show 1 + cnt ps ≠ 0; omega),fun h=>by have:=h p (List.mem_cons_self ..); rw [q] at this; cases this⟩
    | false=>
      show 0 + cnt ps = 0 ↔ _
      rw [Nat.zero_add,cnt_iff (ps:=ps)]
      exact ⟨fun h p' m=>(List.mem_cons.mp m).elim (fun z=>z ▸ q) (h p'),fun h p' m=>h p' (List.mem_cons_of_mem _ m)⟩
theorem nOk_cnt (dn : Nat → Nat) (s : Shp) : nOk (goalsG dn s) = Nat.beq (cnt (psS dn s)) 0:=by
  refine Bool.eq_iff_iff.mpr (nOk_iff.trans (Iff.trans ?_ ⟨fun h=>by rw [h]; rfl,fun h=>Nat.eq_of_beq_eq_true h⟩))
  rw [cnt_iff]
  constructor
  · intro h p m
    obtain ⟨i,hi,rfl⟩:=List.mem_map.mp m
    cases q : wan s i with
    | none=>rfl
    | some j=>
      have : Gd.nn (dn i) (dn j) ∈ goalsG dn s:=by
        unfold goalsG
        rw [mapL_map]
        refine List.mem_append.mpr (.inl (List.mem_map.mpr ⟨i,List.mem_reverse.mpr hi,?_⟩))
        unfold gG; rw [q]
      show (!sub (dn i) (dn j)) = false
      rw [h _ _ this]; rfl
  · intro h d e m
    unfold goalsG at m
    rw [mapL_map] at m
    rcases List.mem_append.mp m with m | m
    · obtain ⟨i,hi,e1⟩:=List.mem_map.mp m
      have hb:=h (dn i,(wan s i).map dn) (List.mem_map.mpr ⟨i,List.mem_reverse.mp hi,rfl⟩)
      unfold gG at e1
      cases q : wan s i with
      | none=>rw [q] at e1; cases e1
      | some j=>
        rw [q] at e1 hb
        cases e1
        have hb : (!sub (dn i) (dn j)) = false:=hb
        simpa using hb
    · exact nomatch List.mem_singleton.mp m
theorem fits_val (dn : Nat → Nat) (up : Bool) {q : QO} (hq : q ∈ allP) : fitsE up (goalsG dn (qS q)) = (judge up ((pkI (qS q)).map dn) && Nat.beq (cnt (psS dn (qS q))) 0):=by
  unfold fitsE judge
  rw [pk_goals dn q hq,nOk_cnt,List.all_reverse]
  cases Nat.beq (cnt (psS dn (qS q))) 0
  · simp
  · rw [Bool.true_and,Bool.and_true]; all_goals rfl
theorem mem_lst5 : ∀ {l : List Nat} {n : Nat},l.length = n → (∀ a ∈ l,a < 5) → l ∈ lst5 n
  | [],0,_,_=>List.mem_cons_self ..
  | a :: l,n + 1,h,ha=>List.mem_flatMap.mpr ⟨l,mem_lst5 (Nat.succ.inj h) fun b m=>ha b (List.mem_cons_of_mem _ m),List.mem_map.mpr ⟨a,mem5 (ha a (List.mem_cons_self ..)),rfl⟩⟩
theorem Fs2_ok (x X Y : AO) (up : Bool) {ps : List Nat} (hl : ps.length ≤ 3) (h : ∀ a ∈ ps,a < 5) : Fs2 x X Y up ps = Fs2e X Y up ps:=by
  have m:=mem_lst5 rfl h
  generalize hn : ps.length = n at m hl
  match n,hl with
  | 0,_=>cases up <;> first | exact List.map_inj_left.mp (Fs2_0 x X Y true).1 ps m | exact List.map_inj_left.mp (Fs2_0 x X Y true).2 ps m
  | 1,_=>cases up <;> first | exact List.map_inj_left.mp (Fs2_1 x X Y).1 ps m | exact List.map_inj_left.mp (Fs2_1 x X Y).2 ps m
  | 2,_=>cases up <;> first | exact List.map_inj_left.mp (Fs2_2 x X Y).1 ps m | exact List.map_inj_left.mp (Fs2_2 x X Y).2 ps m
  | 3,_=>cases up <;> first | exact List.map_inj_left.mp (Fs2_3t x X Y) ps m | exact List.map_inj_left.mp (Fs2_3f x X Y) ps m
theorem nmT : ∀ d,d < 5 → (nm d == z_T) = false:=by decide +kernel
theorem two_el {G : Pg} {R : Rec} {a b : CS} {V V1 : Vs} {H H1 : Hs} {f : Fl} (h : exDs G R [a,b] V H = some (f,V1,H1)) : (∃ Va Ha,exD G R a V H = some (.next,Va,Ha) ∧ exD G R b Va Ha = some (f,V1,H1)) ∨ (exD G R a V H = some (f,V1,H1) ∧ isNx f = false):=by
  have h : bn3 (exD G R a V H) (fun V H=>bn3 (exD G R b V H) nxt rtn) rtn = some (f,V1,H1):=h
  cases q : exD G R a V H with
  | none=>rw [q] at h; cases h
  | some z=>
    obtain ⟨g,Va,Hc⟩:=z
    rw [q] at h
    cases g with
    | ret v=>cases h; exact .inr ⟨rfl,rfl⟩
    | next=>
      refine .inl ⟨Va,Hc,rfl,?_⟩
      have h : bn3 (exD G R b Va Hc) nxt rtn = some (f,V1,H1):=h
      cases q2 : exD G R b Va Hc with
      | none=>rw [q2] at h; cases h
      | some z=>
        obtain ⟨g,Vb,Hb⟩:=z
        rw [q2] at h
        cases g <;> (cases h; rfl)
section
variable {c : Cx} {K : Frag} {x : AO} {n N : Nat} {dn : Nat → Nat} {H H' : Hs} {m : Nat} {p : List Bool} {tT up : Bool} {kd : Kd} {fl : Fl} {V : Vs}
theorem wk_sd {P : Nat} {v : AV} (hv : noSy v = true) : Wk c kd P (.ret v) [] (dsH c.σ H) (.ret v) [] H:=fun env ρ0 s0 f s' hl q=>match q with
  | .mk ρ' R RV F S M=>.mk ρ' ((ds_H refl_E).mpr R) RV F S M
theorem gl_base (W : Wo c K x) (hd : ∀ i,dn i < 5) (hσ : c.σ = σd dn) : Base c K (Gl x) 0:=W.base (fun _ e=>nomatch e) (fun _ _ e=>nomatch e) (fun _ _ _ e=>nomatch e) fun i t b h=>by
  have h : iff (seqb t z_T) (some false) none = some b:=h
  cases q : seqb t z_T with
  | false=>rw [q] at h; cases h
  | true=>
    rw [q] at h
    cases h
    rw [seqb_eq q,hσ]
    exact nmT _ (hd i)
theorem psS_ok (hd : ∀ i,dn i < 5) (s : Shp) : okP (psS dn s):=fun p m=>by
  obtain ⟨i,_,rfl⟩:=List.mem_map.mp m
  refine ⟨hd i,fun e h=>?_⟩
  cases q : wan s i with
  | none=>rw [q] at h; cases h
  | some j=>rw [q] at h; cases h; exact hd j
theorem noLoL_map {α : Type} {f : α → AV} (h : ∀ a,noLo (f a) = true) : ∀ l : List α,noLoL (l.map f) = true
  | []=>rfl
  | a :: l=>by show b2 (noLo (f a)) (noLoL (l.map f)) = true; rw [h a]; exact noLoL_map h l
theorem L1_noLo (ps : Prs) : noLoO (L1 ps) = true:=by
  show noLoL ((ps.map fun p=>AV.str (nm p.1)).reverse) = true
  rw [← List.map_reverse]; exact noLoL_map (fun _=>rfl) _
theorem L2_noLo (ps : Prs) : noLoO (L2 ps) = true:=by
  show noLoL ((ps.map fun p=>wS p.2).reverse) = true
  rw [← List.map_reverse]; exact noLoL_map (fun p=>by cases p.2 <;> rfl) _
theorem xrG_el {P : Nat} {o : Option (Fl × Vs × Hs)} {ιf : Hs → List Nat} {fs : List Bool} {xs : List Str} {fl : Fl} {V : Vs} {H : Hs} (h : xrG P o ιf fs xs = some (fl,V,H)) : ∃ f V1 H1,o = some (f,V1,H1) ∧ isNx f = isNx fl ∧ ∀ (c : Cx) (kd : Kd),Wk c kd P f V1 H1 fl V H:=match o,h with
  | some (f,V1,H1),h=>grd_el (show grd (preB P (ιf H1) 0) (bn1 (view (ιf H1) fs anyO H1) fun H2=>some (sbF (ιf H1) anyO f,vwV (ιf H1) anyO V1 xs,H2)) = some (fl,V,H) from h) fun h1 h=>bn1_el h fun H2 h2 h=>by
    cases h
    exact ⟨f,V1,H1,rfl,isNx_sb f,fun c kd=>wk_view xs h1 h2⟩
theorem one_el {G : Pg} {R : Rec} {a : CS} {V V1 : Vs} {H H1 : Hs} {f : Fl} (h : exDs G R [a] V H = some (f,V1,H1)) : exD G R a V H = some (f,V1,H1):=by
  have h : bn3 (exD G R a V H) nxt rtn = some (f,V1,H1):=h
  cases q2 : exD G R a V H with
  | none=>rw [q2] at h; cases h
  | some z=>
    obtain ⟨g,Vb,Hb⟩:=z
    rw [q2] at h
    cases g <;> (cases h; rfl)
theorem okS_gl {G G' : Pg} (h : G.gl = G'.gl) : okS G = okS G':=by
  obtain ⟨gl,F,fn,cl,ov,kn,kl⟩:=G
  obtain ⟨gl',F',fn',cl',ov',kn',kl'⟩:=G'
  obtain rfl : gl = gl':=h
  rfl
theorem ts_wk {t : Stmt} {V1 V' : Vs} {H1 : Hs} {fl' : Fl} (T : TS c n kd t V H fl V1 H1) (w : Wk c kd (hlen H) fl V1 H1 fl' V' H') : TS c n kd t V H fl' V' H':=fun A env ρ s X=>go (T A env ρ s X) fun f s' q=>w env ρ s f s' (by rw [X.R.len,← hlen_eq]) q
theorem isNx_t {f : Fl} (h : isNx f = true) : f = .next:=by cases f <;> first | rfl | cases h
theorem isNx_f {f : Fl} (h : isNx f = false) : ∃ v,f = .ret v:=by cases f with | next=>cases h | ret v=>exact ⟨v,rfl⟩
noncomputable def sames0 (H0 : Hs) : List Nat → Prop:=List.rec (motive:=fun _=>List Nat → Prop) (fun _=>True) (fun x _ ih f=>(match f with | 2 :: _=>noLoO x = true | _=>True) ∧ ih f.tail) H0
theorem vwS_same {ι0 : List Nat} {o : Nat → AV} {H : Hs} : ∀ {ι : List Nat} {f : List Nat} {H0 : Hs},vwS ι0 o H ι f = some H0 → sames0 H0 f → sames H ι f
  | [],f,H0,h,_=>trivial
  | k :: ι,f,H0,h,hs=>bn1_el (show bn1 (hget H k) (fun x=>bn1 (vwS ι0 o H ι f.tail) fun l=>some (kf3 f (sbO ι0 o x) .gone x :: l)) = some H0 from h) fun x e h=>bn1_el h fun l e' h=>by
    cases h
    obtain ⟨h1,h2⟩:=hs
    refine ⟨?_,vwS_same e' h2⟩
    rcases f with _ | ⟨_ | _ | _ | m,f⟩
    · trivial
    · trivial
    · trivial
    · exact fun y ey=>by rw [e] at ey; cases ey; exact h1
    · trivial
theorem xres_el0 {p : Nat} {o : Option (Fl × Vs × Hs)} {ι : List Nat} {fs : List Nat} {xs : List Str} {fl : Fl} {V : Vs} {H : Hs} (h : xres p o ι fs xs = some (fl,V,H)) (hs : sames0 H fs) : ∃ f V1 H1,o = some (f,V1,H1) ∧ isNx f = isNx fl ∧ ∀ (c : Cx) (kd : Kd),Wk c kd p f V1 H1 fl V H:=by
  refine xres_el h ?_
  cases o with
  | none=>trivial
  | some z=>
    obtain ⟨f,V1,H1⟩:=z
    exact grd_el (show grd (preB p ι 0) (bn1 (viewS ι fs anyO H1) fun H2=>some (sbF ι anyO f,vwV ι anyO V1 xs,H2)) = some (fl,V,H) from h) fun h1 h=>bn1_el h fun H2 h2 h=>by
      cases h
      exact grd_el h2 fun _ h2=>vwS_same h2 hs
theorem tss_2w {t2 t3 : Stmt} {ts : List Stmt} {Va V1 V2 V' : Vs} {Hb H1 H2 : Hs} (T2 : TS c n kd t2 V H .next Va Hb) (T3 : TS c n kd t3 Va Hb .next V1 H1) (w : Wk c kd (hlen H) .next V1 H1 .next V2 H2) (T : TSs c n kd ts V2 H2 fl V' H') : TSs c n kd (t2 :: t3 :: ts) V H fl V' H':=fun A env ρ s X=>wpAny_execs_cons (go (T2 A env ρ s X) fun fw s1 p=>by
  obtain ⟨ρ1,R1,RV1,F1,S1,M1⟩:=p
  obtain rfl : fw = .next:=F1
  refine wpAny_execs_cons (go (T3 A env ρ1 s1 ⟨X.a,R1,RV1⟩) fun fw s2 p=>?_)
  have q:=w env ρ s fw s2 (by rw [X.R.len,← hlen_eq]) (p.from S1 M1)
  obtain ⟨ρ2,R2,RV2,F2,S2,M2⟩:=q
  obtain rfl : fw = .next:=F2
  exact go (T A env ρ2 s2 ⟨X.a,R2,RV2⟩) fun _ _ q=>q.from S2 M2)
theorem fits_ok (W : Wo c K x) (hσ : c.σ = σd dn) (C : Cell dn m p tT up) : TC c 3 (.fn 765) [.loc 0,.loc 1,.sym 7] [smO (qS (m,p,tT,false)),waO (qS (m,p,tT,false))] (.bool (fitsE up (goalsG dn (qS (m,p,tT,false))))) [smO (qS (m,p,tT,false)),waO (qS (m,p,tT,false))]:=by
  have B0:=W.b0 (D:=1)
  have CO : CaOk c K 2 (run (Gx x) 60 1).call:=run_ok B0 60 1
  have Bl : Base c K (Gl x) 1:=W.base (fun _ e=>nomatch e) (fun _ _ e=>nomatch e) (fun _ _ _ e=>nomatch e) (gl_base W C.hd hσ).kl
  have COl : CaOk c K 2 (run (Gl x) 60 1).call:=run_ok Bl 60 1
  have hP:=C.hP
  have hm:=m3_all _ hP
  rw [fits_val dn up hP]
  have hs:=sm_ds dn _ hP
  have hw:=wa_ds dn _ hP
  have hpk:=pk_ds dn _ hP
  have F1:=Fs1_all x _ hP
  generalize hq : qS (m,p,tT,false) = s at *
  have hps:=psS_ok C.hd s
  have hpl : (psS dn s).length ≤ 3:=by unfold psS; rw [List.length_map]; exact rg_len _
  have hpk3 : ((pkI s).map dn).length ≤ 3:=by rw [List.length_map]; exact Nat.le_trans (List.length_filter_le _ _) (rg_len _)
  have hpk5 : ∀ a ∈ (pkI s).map dn,a < 5:=fun a ma=>by obtain ⟨i,_,rfl⟩:=List.mem_map.mp ma; exact C.hd i
  have main : ∀ body,okSs (Gx x) f_765.bd f_765.kd body = true → TSs c 2 f_765.kd body V765 [smO s,waO s] (.ret (.bool (judge up ((pkI s).map dn) && Nat.beq (cnt (psS dn s)) 0))) [] [smO s,waO s]:=fun body ok=>by
    rw [f765_bd] at ok
    refine oks_cons (M:=fun b=>TSs c 2 f_765.kd b V765 _ _ [] _) ok fun t1 b h1 ok=>oks_cons (M:=fun b=>TSs c 2 f_765.kd (t1 :: b) V765 _ _ [] _) ok fun t2 b h2 ok=>oks_cons (M:=fun b=>TSs c 2 f_765.kd (t1 :: t2 :: b) V765 _ _ [] _) ok fun t3 b h3 ok=>oks_cons (M:=fun b=>TSs c 2 f_765.kd (t1 :: t2 :: t3 :: b) V765 _ _ [] _) ok fun t4 b h4 ok=>oks_nil (M:=fun b=>TSs c 2 f_765.kd (t1 :: t2 :: t3 :: t4 :: b) V765 _ _ [] _) ok ?_
    -- the picked ones
    obtain ⟨f,V1,H1,e1,q1,w1⟩:=xrG_el F1
    obtain rfl:=isNx_t q1
    have e1:=one_el e1
    have T1 : TS c 2 f_765.kd t1 V765 [smO s,waO s] .next (V765c up) [L1 (psS dn s),L2 (psS dn s),.list (alen ((pkI s).map dn)) (mapL (fun d=>AV.str (nm d)) ((pkI s).map dn).reverse)]:=by
      refine ts_wk (ts_run Bl COl (by rw [okS_gl (show (Gx x).gl = (Gl x).gl from rfl)] at h1; exact h1) e1) ((w1 c _).trans ?_)
      have z:=wk_ds (c:=c) (kd:=f_765.kd) (p:=2) (fl:=.next) (V:=V765b) (H:=[smO s,waO s,pkO s])
      have eV : dsV c.σ V765b = V765c up:=by
        show [(z_some,AV.loc 0),(z_wanted,.loc 1),(z_upper,.str (c.σ 7)),(z_picked_ones,.loc 2)] = _
        rw [hσ]
        show [(z_some,AV.loc 0),(z_wanted,.loc 1),(z_upper,.str (nm (dn 7))),(z_picked_ones,.loc 2)] = _
        rw [C.h7]; rfl
      have eH : dsH c.σ [smO s,waO s,pkO s] = [L1 (psS dn s),L2 (psS dn s),.list (alen ((pkI s).map dn)) (mapL (fun d=>AV.str (nm d)) ((pkI s).map dn).reverse)]:=by
        show [dsO c.σ (smO s),dsO c.σ (waO s),dsO c.σ (pkO s)] = _
        rw [hσ,hs,hw,hpk]
      rw [eV,eH] at z
      exact z
    -- they are judged
    have F2:=Fs2_ok x (L1 (psS dn s)) (L2 (psS dn s)) up hpk3 hpk5
    unfold Fs2 Fs2e at F2
    have eb : [L1 (psS dn s),L2 (psS dn s)] = dsH c.σ [smO s,waO s]:=by
      show _ = [dsO c.σ (smO s),dsO c.σ (waO s)]
      rw [hσ,hs,hw]
    have fin2 : ∀ {b : Bool} {V' : Vs} {A : AO} {H' : Hs},Wk c f_765.kd 2 (.ret (.bool b)) V' (L1 (psS dn s) :: L2 (psS dn s) :: H') (.ret (.bool b)) [] [smO s,waO s]:=fun {b V' A H'}=>by
      have z : Wk c f_765.kd 2 (.ret (.bool b)) V' (L1 (psS dn s) :: L2 (psS dn s) :: H') (.ret (.bool b)) [] [L1 (psS dn s),L2 (psS dn s)]:=wk_viewS (ι:=[0,1]) (fs:=[2,2]) [] (by kernel_rfl) (by kernel_rfl) ⟨stays_of (L1_noLo _),stays_of (L2_noLo _),trivial⟩
      refine z.trans ?_
      rw [eb]
      exact wk_sd rfl
    obtain ⟨f,V1',H1',e2,q2,w2⟩:=xres_el0 F2 ⟨L1_noLo _,L2_noLo _,trivial,trivial⟩
    have w2:=w2 c f_765.kd
    rcases two_el e2 with ⟨Va,Hb,e3,e4⟩ | ⟨e3,e4⟩
    · have T2:=ts_run B0 CO h2 e3
      have T3:=ts_run B0 CO h3 e4
      cases hj : judge up ((pkI s).map dn) with
      | false=>
        rw [hj] at q2 w2
        obtain ⟨v,rfl⟩:=isNx_f q2
        exact tss_wk (tss_next T1 (tss_wk (tss_next T2 (tss_ret (ts:=[t4]) T3)) w2)) (fin2 (A:=.gone))
      | true=>
        rw [hj] at q2 w2
        obtain rfl:=isNx_t q2
        have T4:=ts_run B0 CO h4 (fS3_run x (psS dn s) hps (Nat.le_trans hpl (by decide)))
        exact tss_wk (tss_next T1 (tss_2w T2 T3 w2 (tss_ret (ts:=[]) T4))) (fin2 (A:=.gone))
    · cases hj : judge up ((pkI s).map dn) with
      | true=>rw [hj,e4] at q2; cases q2
      | false=>
        rw [hj] at w2
        obtain ⟨v,rfl⟩:=isNx_f e4
        exact tss_wk (tss_next T1 (tss_wk (tss_ret (ts:=[t3,t4]) (ts_run B0 CO h2 e3)) w2)) (fin2 (A:=.gone))
  exact tc_fn (G:=Gx x) (fn:=f_765) (fl:=.ret (.bool (judge up ((pkI s).map dn) && Nat.beq (cnt (psS dn s)) 0))) B0 rfl (Nat.le_refl 3) (Nat.le_refl 3) main
end
section
variable {c : Cx} {G : Pg} {K : Frag} {x : AO} {n N D P a : Nat} {dn : Nat → Nat} {H H' H1 H2 : Hs} {m : Nat} {p : List Bool} {tT up : Bool} {kd : Kd} {fl fl' : Fl} {V V' V1 V2 : Vs} {ts : List Stmt} {t : Stmt} {cs cs' : List CS} {R : Rec}
def TQ (c : Cx) (n : Nat) (kd : Kd) (P : Nat) (ts : List Stmt) (V : Vs) (H : Hs) (fl : Fl) (V' : Vs) (H' : Hs) : Prop:=∀ (A : Around) (env : Env) (ρ0 : List Addr) (s0 s : Shared),AOk A n → ρ0.length = P → PS c env kd ρ0 s0 .next V H .next s → wpAny (model c.prog c.w) A (execs ts env) (PS c env kd ρ0 s0 fl V' H') NoE s
theorem tq_of (T : TSs c n kd ts V H fl V' H') : TQ c n kd P ts V H fl V' H':=fun A env ρ0 s0 s ak hp q=>match q with
  | .mk ρ R RV F S M=>go (T A env ρ s ⟨ak,R,RV⟩) fun _ _ q=>q.from S M
theorem tq_pre (w : Wk c kd P .next V H .next V1 H1) (T : TQ c n kd P ts V1 H1 fl V' H') : TQ c n kd P ts V H fl V' H':=fun A env ρ0 s0 s ak hp q=>T A env ρ0 s0 s ak hp (w env ρ0 s0 .next s hp q)
theorem tq_post (T : TQ c n kd P ts V H fl V1 H1) (w : Wk c kd P fl V1 H1 fl' V' H') : TQ c n kd P ts V H fl' V' H':=fun A env ρ0 s0 s ak hp q=>go (T A env ρ0 s0 s ak hp q) fun f s' q=>w env ρ0 s0 f s' hp q
theorem tq_cons (T : TS c n kd t V H .next V1 H1) (Ts : TQ c n kd P ts V1 H1 fl V' H') : TQ c n kd P (t :: ts) V H fl V' H':=fun A env ρ0 s0 s ak hp q=>match q with
  | .mk ρ R RV F S M=>wpAny_execs_cons (go (T A env ρ s ⟨ak,R,RV⟩) fun fw s1 p=>by
    have p:=p.from S M
    obtain rfl : fw = .next:=match p with | .mk _ _ _ F _ _=>F
    exact Ts A env ρ0 s0 s1 ak hp p)
theorem tss_tq (T : TQ c n kd (hlen H) ts V H fl V' H') : TSs c n kd ts V H fl V' H':=fun A env ρ s X=>T A env ρ s s X.a (by rw [X.R.len,← hlen_eq]) (.mk ρ X.R X.RV rfl .refl (.refl s))
theorem tq_run (Bs : Base c K G D) (CO : CaOk c K n R.call) : ∀ {cs : List CS} {ts : List Stmt} {V : Vs} {H : Hs},okSs G (cs ++ cs') kd ts = true → exDs G R cs V H = some (.next,V1,H1) → (∀ ts',okSs G cs' kd ts' = true → TQ c n kd P ts' V1 H1 fl V' H') → TQ c n kd P ts V H fl V' H'
  | [],ts,V,H,ok,h,T=>by cases h; exact T ts ok
  | a :: cs,ts,V,H,ok,h,T=>oks_cons (M:=fun ts=>TQ c n kd P ts V H fl V' H') ok fun t ts' h1 ok=>by
    have h : bn3 (exD G R a V H) (exDs G R cs) rtn = some (.next,V1,H1):=h
    cases q : exD G R a V H with
    | none=>rw [q] at h; cases h
    | some z=>
      obtain ⟨f,Va,Hb⟩:=z
      rw [q] at h
      cases f with
      | ret v=>cases h
      | next=>exact tq_cons (ts_run Bs CO h1 q) (tq_run Bs CO ok h T)
theorem bd770_eq : bd770 = lDraw ++ (lR1 ++ (lR2 ++ lR3)):=by kernel_rfl
theorem lowL_noLo (N : Nat) : ∀ {l : List AV},noLoL l = true → lowL N l = true
  | [],_=>rfl
  | v :: l,h=>b2_el (show b2 (noLo v) (noLoL l) = true from h) fun a b=>(by
    show (match low N v with | true=>lowL N l | false=>false) = true
    rw [low_noLo N v a]
    exact lowL_noLo N b)
theorem back_noLo (N : Nat) (ι : List Nat) {o : AO} (h : noLoO o = true) : backO ι N o = true:=match o,h with
  | .list n r,h=>lowL_noLo N (l:=r) h
  | .dict ks r,h=>lowL_noLo N (l:=r) h
  | .ns ks r,h=>lowL_noLo N (l:=r) h
  | .gone,_=>rfl
theorem gFit_ok {s : Shp} {b : Bool} {as : List AV} {v : AV} (h1 : noLoO (smO s) = true) (h2 : noLoO (waO s) = true) (T : TC c n (.fn 765) [.loc 0,.loc 1,.sym 7] [smO s,waO s] (.bool b) [smO s,waO s]) (h : gFit s b as H = some (v,H')) : TC c n (.fn 765) as H v H':=by
  refine grd_el h fun hc h=>b2_el hc fun c0 hc=>b2_el hc fun c1 c2=>?_
  cases h
  have e0:=sV_eq _ _ c0
  injection e0 with e0
  subst e0
  have e1:=isO_eq c1
  have e2:=isO_eq c2
  have lw : ∀ {o : AO} (N : Nat) (ι : List Nat),noLoO o = true → backO ι N o = true:=fun N ι h=>back_noLo N ι h
  refine tc_frame (ι:=[0,2]) (κ:=[]) ⟨rfl,fun i j e=>(hget_no e).elim,fun j y m e=>?_,rfl,fun j y _ _ e=>e⟩ fun α=>.mk [smO s,waO s] [smO s,waO s] ?_ ?_ ?_
  · rcases List.mem_cons.mp m with rfl | m
    · rw [e1] at e; cases e; exact lw _ _ h1
    rcases List.mem_cons.mp m with rfl | m
    · rw [e2] at e; cases e; exact lw _ _ h2
    · cases m
  · show grd true (bn1 (hget H 0) fun x0=>bn1 (bn1 (hget H 2) fun x1=>bn1 (some []) fun t=>some (sbO [0,2] (outA α) x1 :: t)) fun t=>some (sbO [0,2] (outA α) x0 :: t)) = _
    rw [e1,e2]
    show some [sbO [0,2] (outA α) (smO s),sbO [0,2] (outA α) (waO s)] = _
    rw [sbO_noLo _ _ h1,sbO_noLo _ _ h2]
  · show grd true (bn1 (hget H 0) fun x0=>bn1 (bn1 (hget H 2) fun x1=>bn1 (some []) fun t=>some (sbO [0,2] (outA α) x1 :: t)) fun t=>some (sbO [0,2] (outA α) x0 :: t)) = _
    rw [e1,e2]
    show some [sbO [0,2] (outA α) (smO s),sbO [0,2] (outA α) (waO s)] = _
    rw [sbO_noLo _ _ h1,sbO_noLo _ _ h2]
  · exact T
theorem nlF_all : ∀ q ∈ allP,b2 (noLoO (smO (qS q))) (noLoO (waO (qS q))) = true:=List.map_inj_left.mp (by kernel_rfl : allP.map (fun q=>b2 (noLoO (smO (qS q))) (noLoO (waO (qS q)))) = allP.map (fun _=>true))
theorem rest_ok (W : Wo c K x) (hσ : c.σ = σd dn) (C : Cell dn m p tT up) (ok : okSs (Gx x) (lR1 ++ (lR2 ++ lR3)) f_770.kd ts = true) : TQ c 101 f_770.kd 2 ts (V1a (qS (m,p,tT,false))) [smO (qS (m,p,tT,false)),ahO (qS (m,p,tT,false))] .next [(z_script,.bs 7),(z_kinds,.bs 9)] [.gone,.gone]:=by
  have hP:=C.hP
  have Bl : Base c K (Gl x) 81:=W.base (fun _ e=>nomatch e) (fun _ _ e=>nomatch e) (fun _ _ _ e=>nomatch e) (gl_base W C.hd hσ).kl
  have f1:=R1_all x _ hP
  have f2 : ∀ b,R2 x b (qS (m,p,tT,false)) = R2e (qS (m,p,tT,false)):=fun b=>by cases b; exact R2f_all x _ hP; exact R2t_all x _ hP
  have f3:=R3_all x _ hP
  have TI:=fun H=>ims_ok (H:=H) W hσ C
  have TIw:=fun H=>imsW_ok (H:=H) W hσ C
  have TF:=(fits_ok W hσ C).le (show 3 ≤ 81 by decide)
  have hn:=nlF_all _ hP
  have f1 : R1 x (qS (m,p,tT,false)) = R1e (qS (m,p,tT,false)):=f1
  have f3 : R3 x (qS (m,p,tT,false)) = R3e:=f3
  generalize hb : fitsE up (goalsG dn (qS (m,p,tT,false))) = b at *
  generalize hq : qS (m,p,tT,false) = s at *
  obtain ⟨fa,Va,Ha',e1,q1,w1⟩:=xrG_el f1
  obtain rfl:=isNx_t q1
  obtain ⟨fb,Vb,Hb',e2,q2,w2⟩:=xrG_el (f2 b)
  obtain rfl:=isNx_t q2
  obtain ⟨fc,Vc,Hc',e3,q3,w3⟩:=xrG_el f3
  obtain rfl:=isNx_t q3
  have B2 : Base c K (G2 x s b) 81:=by
    refine W.base (fun a h=>?_) (fun a g hg as H v H' q=>?_) (fun _ _ _ e=>nomatch e) (gl_base W C.hd hσ).kl
    · have h : (iff (Nat.beq a 524) (some (gTab [([.bs 9,rowS s,opnS s],b)])) (iff (Nat.beq a 765) (some (gFit s b)) none)).isSome = true:=h
      cases z : Nat.beq a 524 with
      | true=>obtain rfl:=Nat.eq_of_beq_eq_true z; exact W.keepFn (f:=f_524) rfl
      | false=>
        rw [z] at h
        have h : (iff (Nat.beq a 765) (some (gFit s b)) none).isSome = true:=h
        cases z : Nat.beq a 765 with
        | true=>obtain rfl:=Nat.eq_of_beq_eq_true z; exact W.keepFn (f:=f_765) rfl
        | false=>rw [z] at h; cases h
    · have hg : iff (Nat.beq a 524) (some (gTab [([.bs 9,rowS s,opnS s],b)])) (iff (Nat.beq a 765) (some (gFit s b)) none) = some g:=hg
      cases z : Nat.beq a 524 with
      | true=>
        rw [z] at hg
        obtain rfl:=Option.some.inj hg
        obtain rfl:=Nat.eq_of_beq_eq_true z
        exact gTab_ok (fun e m=>by obtain rfl:=List.mem_singleton.mp m; exact TI) q
      | false=>
        rw [z] at hg
        have hg : iff (Nat.beq a 765) (some (gFit s b)) none = some g:=hg
        cases z : Nat.beq a 765 with
        | true=>
          rw [z] at hg
          obtain rfl:=Option.some.inj hg
          obtain rfl:=Nat.eq_of_beq_eq_true z
          exact b2_el hn fun n1 n2=>gFit_ok n1 n2 TF q
        | false=>rw [z] at hg; cases hg
  have B3 : Base c K (G3 x s) 81:=by
    refine W.base (fun b h=>?_) (fun b g hg' as H v H' q=>?_) (fun _ _ _ e=>nomatch e) (gl_base W C.hd hσ).kl
    · have h : (iff (Nat.beq b 524) (some (gTab [([.bs 9,opnS s,rowS s],false)])) none).isSome = true:=h
      cases z : Nat.beq b 524 with
      | false=>rw [z] at h; cases h
      | true=>obtain rfl:=Nat.eq_of_beq_eq_true z; exact W.keepFn (f:=f_524) rfl
    · have hg' : iff (Nat.beq b 524) (some (gTab [([.bs 9,opnS s,rowS s],false)])) none = some g:=hg'
      cases z : Nat.beq b 524 with
      | false=>rw [z] at hg'; cases hg'
      | true=>
        rw [z] at hg'
        obtain rfl:=Option.some.inj hg'
        obtain rfl:=Nat.eq_of_beq_eq_true z
        exact gTab_ok (fun e m=>by obtain rfl:=List.mem_singleton.mp m; exact TIw) q
  have g1 : (Gx x).gl = (Gl x).gl:=rfl
  refine tq_run Bl (run_ok Bl 60 20) (by rw [okSs_gl g1] at ok; exact ok) e1 fun ts1 ok1=>tq_pre (w1 c _) ?_
  have ok1 : okSs (G2 x s b) (lR2 ++ lR3) f_770.kd ts1 = true:=by rw [okSs_gl (show (Gl x).gl = (G2 x s b).gl from rfl)] at ok1; exact ok1
  have T : TSs c 101 f_770.kd ts1 (V1b s) [smO s,ahO s,waO s] .next [(z_script,.bs 7),(z_kinds,.bs 9)] [.gone,.gone,.gone]:=tss_tq (tq_run B2 (run_ok B2 60 20) ok1 e2 fun ts2 ok2=>tq_pre (w2 c _) (tq_of (tss_wk (tss_run B3 (run_ok B3 60 20) (by rw [okSs_gl (show (G2 x s b).gl = (G3 x s).gl from rfl)] at ok2; exact ok2) e3) (w3 c _))))
  exact tq_post (tq_of T) (wk_view (ι:=[0,1]) (fs:=[]) [z_script,z_kinds] (by kernel_rfl) (by kernel_rfl))
end
noncomputable def pl (a b : Int) : AO:=.list 2 [.int b,.int a]
noncomputable def nb (b : Int) : Int:=Int.fmod (b * Int.ofNat 7351 + Int.ofNat 277) (.ofNat 1999117)
noncomputable def gt (a b : Int) (m : Nat) : Int:=Int.fmod (a + Int.fdiv (nb b) (.ofNat 71)) (.ofNat m)
noncomputable def Vd (m : Nat) : Vs:=[(z_pail,.loc 0),(z_many,.int (.ofNat m))]
noncomputable def Vd' (a b : Int) (m : Nat) : Vs:=[(z_pail,.loc 0),(z_many,.int (.ofNat m)),(z_got,.int (gt a b m))]
theorem dr_run (x : AO) (a b : Int) (Ht : Hs) : ∀ m,1 ≤ m → m ≤ 5 → exDs (Gx x) (run (Gx x) 60 1) f_748.bd (Vd m) (pl a b :: Ht) = some (.ret (.int (gt a b m)),Vd' a b m,pl (Int.fdiv a (.ofNat m)) (nb b) :: Ht)
  | 1,_,_=>by kernel_rfl
  | 2,_,_=>by kernel_rfl
  | 3,_,_=>by kernel_rfl
  | 4,_,_=>by kernel_rfl
  | 5,_,_=>by kernel_rfl
theorem cut_same (n : Nat) : ∀ (k : Nat) (H H' : Hs),H.length = k → cutH n k H = some H' → H' = H
  | 0,[],H',_,h=>by cases h; rfl
  | k + 1,o :: r,H',hl,h=>grd_el (show grd (lowO n o) (bn1 (cutH n k r) fun r'=>some (o :: r')) = some H' from h) fun _ h=>bn1_el h fun r' e h=>by
    cases h
    rw [cut_same n k r r' (Nat.succ.inj hl) e]
theorem gcR_same {n : Nat} {v : AV} {H : Hs} (hl : H.length = n) (hv : low n v = true) : gcR n v H = some (v,H):=by
  unfold gcR
  rw [hv]
  cases e : cutH n n H with
  | none=>rfl
  | some H'=>rw [cut_same n n H H' hl e]
noncomputable abbrev R2c (x : AO) : Rec:=run (Gx x) 60 2
theorem dr_call (x : AO) (a b : Int) (Ht : Hs) {m : Nat} (h1 : 1 ≤ m) (h5 : m ≤ 5) : (R2c x).call (.fn 748) [.loc 0,.int (.ofNat m)] (pl a b :: Ht) = some (.int (gt a b m),pl (Int.fdiv a (.ofNat m)) (nb b) :: Ht):=by
  have e : (R2c x).call (.fn 748) [.loc 0,.int (.ofNat m)] (pl a b :: Ht) = bn3 (exDs (Gx x) (run (Gx x) 60 1) f_748.bd (Vd m) (pl a b :: Ht)) (fun _ H1=>gcR (hlen (pl a b :: Ht)) .none H1) (fun v _ H1=>gcR (hlen (pl a b :: Ht)) v H1):=by kernel_rfl
  rw [e,dr_run x a b Ht m h1 h5]
  exact gcR_same (n:=hlen (pl a b :: Ht)) (v:=.int (gt a b m)) (H:=pl (Int.fdiv a (.ofNat m)) (nb b) :: Ht) (by rw [hlen_eq]; rfl) rfl
theorem gt_nat (a b : Int) {m : Nat} (h1 : 1 ≤ m) : ∃ d,d < m ∧ gt a b m = .ofNat d:=by
  have hp : (0 : Int) < (.ofNat m : Int):=by show (0 : Int) < (m : Int); omega
  have l:=Int.fmod_nonneg_of_pos (a + Int.fdiv (nb b) (.ofNat 71)) hp
  have u:=Int.fmod_lt_of_pos (a + Int.fdiv (nb b) (.ofNat 71)) hp
  obtain ⟨d,hd⟩:=Int.eq_ofNat_of_zero_le l
  refine ⟨d,?_,hd⟩
  have : ((d : Nat) : Int) < (m : Int):=hd ▸ u
  omega
def Dr (x : AO) (a b : Int) (m d : Nat) (a' b' : Int) : Prop:=∀ Ht,(R2c x).call (.fn 748) [.loc 0,.int (.ofNat m)] (pl a b :: Ht) = some (.int (.ofNat d),pl a' b' :: Ht)
theorem dr_ex (x : AO) (a b : Int) {m : Nat} (h1 : 1 ≤ m) (h5 : m ≤ 5) : ∃ d a' b',d < m ∧ Dr x a b m d a' b':=by
  obtain ⟨d,hd,e⟩:=gt_nat a b h1
  exact ⟨d,_,_,hd,fun Ht=>by rw [dr_call x a b Ht h1 h5,e]⟩
section
variable {G : Pg} {R : Rec} {V : Vs} {H : Hs} {e f g : CE}
theorem evD_sub : evD G R (.sub e f) V H = bnd (evD G R e V H) fun o H1=>bnd (evD G R f V H1) fun k H2=>bn1 (getI G.F H2 o k) fun v=>some (v,H2):=rfl
theorem evD_ite : evD G R (.ite e f g) V H = bnd (evD G R e V H) fun x H1=>asBool x fun t=>iff t (evD G R f V H1) (evD G R g V H1):=rfl
theorem evD_cmp {op : CmpOp} : evD G R (.cmp op e f) V H = bnd (evD G R e V H) fun x H1=>bnd (evD G R f V H1) fun y H2=>bn1 (cmpOp G H2 op x y) fun r=>some (.bool r,H2):=rfl
end
noncomputable def drE (e : CE) : CE:=.call (.gv 68) [(.var z_pail),e]
noncomputable def namE (m : Nat) : CE:=.sub (.gv 67) (drE (.con (.int (.ofNat m))))
structure HasP (x : AO) (V : Vs) : Prop where
  dr : ∀ (m : Nat) (H : Hs),evD (Gx x) (R2c x) (drE (.con (.int (.ofNat m)))) V H = (R2c x).call (.fn 748) [.loc 0,.int (.ofNat m)] H
theorem getNames (x : AO) (H : Hs) : ∀ d,d < 5 → getI (FF x) H (.bs 6) (.int (.ofNat d)) = some (.str (nm d))
  | 0,_=>by kernel_rfl
  | 1,_=>by kernel_rfl
  | 2,_=>by kernel_rfl
  | 3,_=>by kernel_rfl
  | 4,_=>by kernel_rfl
theorem gv67 (x : AO) (V : Vs) (H : Hs) : evD (Gx x) (R2c x) (.gv 67) V H = some (.bs 6,H):=by kernel_rfl
theorem nam_ok {x : AO} {V : Vs} {a b a' b' : Int} {d : Nat} {Ht : Hs} (P : HasP x V) (D : Dr x a b 5 d a' b') (hd : d < 5) : evD (Gx x) (R2c x) (namE 5) V (pl a b :: Ht) = some (.str (nm d),pl a' b' :: Ht):=by
  unfold namE
  rw [evD_sub,gv67]
  show bnd (evD (Gx x) (R2c x) (drE (.con (.int (.ofNat 5)))) V (pl a b :: Ht)) (fun k H2=>bn1 (getI (FF x) H2 (.bs 6) k) fun v=>some (v,H2)) = _
  rw [P.dr,D]
  show bn1 (getI (FF x) (pl a' b' :: Ht) (.bs 6) (.int (.ofNat d))) (fun v=>some (v,pl a' b' :: Ht)) = _
  rw [getNames x _ d hd]; rfl
noncomputable def choE (m : Nat) : CE:=.ite (.cmp .Eq (drE (.con (.int (.ofNat m)))) (.con (.int (.ofNat 0)))) (.con (.str z_T)) (namE 5)
theorem cho_ok {x : AO} {V : Vs} (a b : Int) {m : Nat} (P : HasP x V) (h1 : 1 ≤ m) (h5 : m ≤ 5) : ∃ (o : Option Nat) (a' b' : Int),(∀ j,o = some j → j < 5) ∧ ∀ Ht,evD (Gx x) (R2c x) (choE m) V (pl a b :: Ht) = some (wS o,pl a' b' :: Ht):=by
  obtain ⟨d,a1,b1,hd,D⟩:=dr_ex x a b h1 h5
  have e : ∀ Ht,evD (Gx x) (R2c x) (.cmp .Eq (drE (.con (.int (.ofNat m)))) (.con (.int (.ofNat 0)))) V (pl a b :: Ht) = some (.bool (Nat.beq d 0),pl a1 b1 :: Ht):=fun Ht=>by
    rw [evD_cmp,P.dr,D]; rfl
  cases q : Nat.beq d 0 with
  | true=>
    refine ⟨none,a1,b1,fun _ h=>(nomatch h),fun Ht=>?_⟩
    unfold choE
    rw [evD_ite,e,q]; rfl
  | false=>
    obtain ⟨d2,a2,b2,hd2,D2⟩:=dr_ex x a1 b1 (m:=5) (by decide) (by decide)
    refine ⟨some d2,a2,b2,fun j h=>by cases h; exact hd2,fun Ht=>?_⟩
    unfold choE
    rw [evD_ite,e,q]
    exact nam_ok P D2 hd2
noncomputable def dS (i : Nat) : CS:=nth4 i bd770
theorem lDraw_eq : lDraw = [dS 0,dS 1,dS 2,dS 3,dS 4,dS 5]:=by kernel_rfl
noncomputable def V0k (k : Nat) : Vs:=[(z_script,.bs 7),(z_kinds,.bs 9),(z_k,.int (.ofNat k)),(z_pail,.loc 0)]
noncomputable def strsR (ds : List Nat) : List AV:=(ds.map fun d=>AV.str (nm d)).reverse
noncomputable def wsR (es : List (Option Nat)) : List AV:=(es.map wS).reverse
theorem blt_t (k r : Nat) : Nat.blt k (k + (r + 1)) = true:=Nat.blt_eq.mpr (by omega)
theorem blt_f (k : Nat) : Nat.blt k (k + 0) = false:=by
  cases e : Nat.blt k (k + 0) with
  | false=>rfl
  | true=>have:=Nat.blt_eq.mp e; omega
theorem small_50 {c : Nat} (h : c ≤ 50) : small c = true:=Nat.ble_eq.mpr (by omega)
theorem next_t {V : Vs} {H : Hs} {k n : Nat} (h : Nat.blt k n = true) : nextS V H (.rng k n) = some (some (.int (.ofNat k),.rng (k + 1) n)):=by unfold nextS; dsimp only; rw [h]
theorem next_f {V : Vs} {H : Hs} {k n : Nat} (h : Nat.blt k n = false) : nextS V H (.rng k n) = some none:=by unfold nextS; dsimp only; rw [h]
theorem cmpL_0 {elt : D1} {tg : TG} {cs : D2} {V : Vs} {j n : Nat} {s : Sr} {H : Hs} (h : nextS V H s = some none) : cmpL elt tg cs V j (n + 1) s H = some H:=by
  have e : cmpL elt tg cs V j (n + 1) s H = bn1 (nextS V H s) fun x=>match x with
    | none=>some H
    | some (v,s')=>bn1 (bindS s' tg v V) fun V1=>bnd (cs.cj .And V1 H) fun t H1=>iff t
      (bnd (elt V1 H1) fun x H2=>bn1 (hget H2 j) fun o=>asList o fun n' r=>grd (small n') (cmpL elt tg cs V j n s' (setN H2 j (.list (n' + 1) (x :: r)))))
      (cmpL elt tg cs V j n s' H1):=rfl
  rw [e,h]; rfl
theorem cmpL_1 {elt : D1} {tg : TG} {cs : D2} {V : Vs} {j n : Nat} {s s' : Sr} {v : AV} {H : Hs} (h : nextS V H s = some (some (v,s'))) : cmpL elt tg cs V j (n + 1) s H = bn1 (bindS s' tg v V) fun V1=>bnd (cs.cj .And V1 H) fun t H1=>iff t
      (bnd (elt V1 H1) fun x H2=>bn1 (hget H2 j) fun o=>asList o fun n' r=>grd (small n') (cmpL elt tg cs V j n s' (setN H2 j (.list (n' + 1) (x :: r)))))
      (cmpL elt tg cs V j n s' H1):=by
  have e : cmpL elt tg cs V j (n + 1) s H = bn1 (nextS V H s) fun x=>match x with
    | none=>some H
    | some (v,s')=>bn1 (bindS s' tg v V) fun V1=>bnd (cs.cj .And V1 H) fun t H1=>iff t
      (bnd (elt V1 H1) fun x H2=>bn1 (hget H2 j) fun o=>asList o fun n' r=>grd (small n') (cmpL elt tg cs V j n s' (setN H2 j (.list (n' + 1) (x :: r)))))
      (cmpL elt tg cs V j n s' H1):=rfl
  rw [e,h]; rfl
theorem forL_0 {t : TG} {b : D3} {n : Nat} {s : Sr} {V : Vs} {H : Hs} (h : nextS V H s = some none) : forL t b (n + 1) s V H = nxt V H:=by
  have e : forL t b (n + 1) s V H = bn1 (nextS V H s) fun x=>match x with
    | none=>nxt V H
    | some (v,s')=>bn1 (bindS s' t v V) fun V1=>bn3 (b V1 H) (forL t b n s') rtn:=rfl
  rw [e,h]; rfl
theorem forL_1 {t : TG} {b : D3} {n : Nat} {s s' : Sr} {v : AV} {V : Vs} {H : Hs} (h : nextS V H s = some (some (v,s'))) : forL t b (n + 1) s V H = bn1 (bindS s' t v V) fun V1=>bn3 (b V1 H) (forL t b n s') rtn:=by
  have e : forL t b (n + 1) s V H = bn1 (nextS V H s) fun x=>match x with
    | none=>nxt V H
    | some (v,s')=>bn1 (bindS s' t v V) fun V1=>bn3 (b V1 H) (forL t b n s') rtn:=rfl
  rw [e,h]; rfl
noncomputable def loopS (x : AO) (n : Nat) (s : Sr) (H : Hs) : Option Hs:=cmpL (evD (Gx x) (R2c x) (namE 5)) (.nm z_turn) dNil [(z_pail,.loc 0)] 1 n s H
theorem hasP_t (x : AO) (k : Nat) : HasP x [(z_pail,.loc 0),(z_turn,.int (.ofNat k))]:=⟨fun m H=>by kernel_rfl⟩
theorem some_ex (x : AO) : ∀ (r k n : Nat) (a b : Int) (c : Nat) (acc : List AV),r + 1 ≤ n → c + r ≤ 50 → ∃ ds a' b',ds.length = r ∧ (∀ d ∈ ds,d < 5) ∧ loopS x n (.rng k (k + r)) [pl a b,.list c acc] = some [pl a' b',.list (c + r) (strsR ds ++ acc)]
  | 0,k,n + 1,a,b,c,acc,hn,hc=>by
    refine ⟨[],a,b,rfl,fun _ m=>(nomatch m),?_⟩
    unfold loopS
    rw [cmpL_0 (next_f (blt_f k))]; rfl
  | r + 1,k,n + 1,a,b,c,acc,hn,hc=>by
    obtain ⟨d,a1,b1,hd,D⟩:=dr_ex x a b (m:=5) (by decide) (by decide)
    obtain ⟨ds,a',b',h1,h2,h3⟩:=some_ex x r (k + 1) n a1 b1 (c + 1) (.str (nm d) :: acc) (by omega) (by omega)
    refine ⟨d :: ds,a',b',congrArg (· + 1) h1,fun e m=>(List.mem_cons.mp m).elim (fun q=>q ▸ hd) (h2 e),?_⟩
    have ev:=nam_ok (hasP_t x k) D hd (Ht:=[.list c acc])
    unfold loopS
    rw [cmpL_1 (next_t (blt_t k r))]
    show bnd (evD (Gx x) (R2c x) (namE 5) [(z_pail,.loc 0),(z_turn,.int (.ofNat k))] [pl a b,.list c acc]) (fun y H2=>bn1 (hget H2 1) fun o=>asList o fun m r'=>grd (small m) (loopS x n (.rng (k + 1) (k + (r + 1))) (setN H2 1 (.list (m + 1) (y :: r'))))) = _
    rw [ev]
    show grd (small c) (loopS x n (.rng (k + 1) (k + (r + 1))) [pl a1 b1,.list (c + 1) (.str (nm d) :: acc)]) = _
    rw [small_50 (by omega),show k + (r + 1) = k + 1 + r by omega]
    show loopS x n (.rng (k + 1) (k + 1 + r)) [pl a1 b1,.list (c + 1) (.str (nm d) :: acc)] = _
    rw [h3]
    have e1 : strsR (d :: ds) ++ acc = strsR ds ++ (.str (nm d) :: acc):=by unfold strsR; simp
    rw [e1,show c + 1 + r = c + (r + 1) by omega]
theorem s2_eq (x : AO) (k : Nat) (a b : Int) : exD (Gx x) (R2c x) (dS 1) (V0k k) [pl a b] = bnd (bnd (bnd ((R2c x).call (.fn 748) [.loc 0,.int (.ofNat 4)] [pl a b]) fun v H1=>some ([v],H1)) fun vs H1=>bn1 (mkSr 1 (FF x) H1 vs) fun s=>bn1 (cmpL (evD (Gx x) (R2c x) (namE 5)) (.nm z_turn) dNil (restr (V0k k) [z_pail]) (hlen H1) 60 s (snoc H1 (.list 0 []))) fun H2=>some (AV.loc (hlen H1),H2)) fun v H1=>nxt (put (V0k k) z_some v) H1:=by kernel_rfl
noncomputable def V2k (k : Nat) : Vs:=[(z_script,.bs 7),(z_kinds,.bs 9),(z_k,.int (.ofNat k)),(z_pail,.loc 0),(z_some,.loc 1)]
theorem s2_ex (x : AO) (k : Nat) (a b : Int) : ∃ ds a' b',ds.length ≤ 3 ∧ (∀ d ∈ ds,d < 5) ∧ exD (Gx x) (R2c x) (dS 1) (V0k k) [pl a b] = some (.next,V2k k,[pl a' b',.list ds.length (strsR ds)]):=by
  obtain ⟨n,a1,b1,hn,D⟩:=dr_ex x a b (m:=4) (by decide) (by decide)
  obtain ⟨ds,a',b',h1,h2,h3⟩:=some_ex x n 0 60 a1 b1 0 [] (by omega) (by omega)
  refine ⟨ds,a',b',by omega,h2,?_⟩
  rw [s2_eq,D]
  show bnd (bn1 (grd (small n) (some (Sr.rng 0 n))) fun s=>bn1 (loopS x 60 s [pl a1 b1,.list 0 []]) fun H2=>some (AV.loc 1,H2)) (fun v H1=>nxt (put (V0k k) z_some v) H1) = _
  rw [small_50 (by omega)]
  rw [Nat.zero_add] at h3
  show bnd (bn1 (loopS x 60 (.rng 0 n) [pl a1 b1,.list 0 []]) fun H2=>some (AV.loc 1,H2)) (fun v H1=>nxt (put (V0k k) z_some v) H1) = _
  rw [h3,List.append_nil,h1]
  rfl
noncomputable def LO : AO:=.list 2 [.str z_Integer,.str z_Any]
noncomputable def V3k (k : Nat) (u : AV) : Vs:=[(z_script,.bs 7),(z_kinds,.bs 9),(z_k,.int (.ofNat k)),(z_pail,.loc 0),(z_some,.loc 1),(z_upper,u)]
theorem s3_eq (x : AO) (k : Nat) (a b : Int) (SO : AO) : exD (Gx x) (R2c x) (dS 2) (V2k k) [pl a b,SO] = bnd (bnd ((R2c x).call (.fn 748) [.loc 0,.int (.ofNat 2)] [pl a b,SO,LO]) fun v H2=>bn1 (getI (FF x) H2 (.loc 2) v) fun w=>some (w,H2)) fun v H1=>nxt (put (V2k k) z_upper v) H1:=by kernel_rfl
theorem s3_ex (x : AO) (k : Nat) (a b : Int) (SO : AO) : ∃ (up : Bool) (a' b' : Int),exD (Gx x) (R2c x) (dS 2) (V2k k) [pl a b,SO] = some (.next,V3k k (.str (nm (upN up))),[pl a' b',SO,LO]):=by
  obtain ⟨d,a1,b1,hd,D⟩:=dr_ex x a b (m:=2) (by decide) (by decide)
  match d,hd with
  | 0,_=>exact ⟨false,a1,b1,by rw [s3_eq,D]; kernel_rfl⟩
  | 1,_=>exact ⟨true,a1,b1,by rw [s3_eq,D]; kernel_rfl⟩
noncomputable def V4k (k : Nat) (u : AV) : Vs:=[(z_script,.bs 7),(z_kinds,.bs 9),(z_k,.int (.ofNat k)),(z_pail,.loc 0),(z_some,.loc 1),(z_upper,u),(z_ahead,.loc 3)]
noncomputable def trn (o : Option Nat) : Vs:=match o with | none=>[] | some j=>[(z_turn,.int (.ofNat j))]
noncomputable def Vtk (k : Nat) (u : AV) (o : Option Nat) : Vs:=V4k k u ++ trn o
theorem s4_eq (x : AO) (k : Nat) (u : AV) (p SO : AO) : exD (Gx x) (R2c x) (dS 3) (V3k k u) [p,SO,LO] = some (.next,V4k k u,[p,SO,LO,.list 0 []]):=by kernel_rfl
noncomputable def bodC : List CS:=[.ex (.meth (.var z_ahead) z_append [choE 3])]
noncomputable def bodD (x : AO) : D3:=exDs (Gx x) (R2c x) bodC
theorem body_eq (x : AO) (k j : Nat) (u : AV) (p SO : AO) (c : Nat) (acc : List AV) : bodD x (Vtk k u (some j)) [p,SO,LO,.list c acc] = bn3 (bnd (bnd (bnd (evD (Gx x) (R2c x) (choE 3) (Vtk k u (some j)) [p,SO,LO,.list c acc]) fun v H1=>some ([v],H1)) fun vs H2=>mop .append (FF x) (.loc 3) vs H2) fun v H1=>asNone v (nxt (Vtk k u (some j)) H1)) nxt rtn:=by kernel_rfl
theorem hasP_k (x : AO) (k : Nat) (u : AV) (o : Option Nat) : HasP x (Vtk k u o):=⟨fun m H=>by cases o <;> kernel_rfl⟩
theorem put_t (k : Nat) (u : AV) (o : Option Nat) (j : Nat) : put (Vtk k u o) z_turn (.int (.ofNat j)) = Vtk k u (some j):=by cases o <;> kernel_rfl
theorem ahead_ex (x : AO) (kk : Nat) (u : AV) (SO : AO) : ∀ (r k n : Nat) (o : Option Nat) (a b : Int) (c : Nat) (acc : List AV),r + 1 ≤ n → c + r ≤ 50 → ∃ es o' a' b',es.length = r ∧ (∀ e ∈ es,∀ j,e = some j → j < 5) ∧ forL (.nm z_turn) (bodD x) n (.rng k (k + r)) (Vtk kk u o) [pl a b,SO,LO,.list c acc] = some (.next,Vtk kk u o',[pl a' b',SO,LO,.list (c + r) (wsR es ++ acc)])
  | 0,k,n + 1,o,a,b,c,acc,hn,hc=>by
    refine ⟨[],o,a,b,rfl,fun _ m=>(nomatch m),?_⟩
    rw [forL_0 (next_f (blt_f k))]; rfl
  | r + 1,k,n + 1,o,a,b,c,acc,hn,hc=>by
    obtain ⟨e,a1,b1,he,E⟩:=cho_ok (x:=x) (V:=Vtk kk u (some k)) a b (m:=3) (hasP_k x kk u (some k)) (by decide) (by decide)
    obtain ⟨es,o',a',b',h1,h2,h3⟩:=ahead_ex x kk u SO r (k + 1) n (some k) a1 b1 (c + 1) (wS e :: acc) (by omega) (by omega)
    refine ⟨e :: es,o',a',b',congrArg (· + 1) h1,fun e' m=>(List.mem_cons.mp m).elim (fun q=>q ▸ he) (h2 e'),?_⟩
    rw [forL_1 (next_t (blt_t k r))]
    show bn3 (bodD x (put (Vtk kk u o) z_turn (.int (.ofNat k))) [pl a b,SO,LO,.list c acc]) (forL (.nm z_turn) (bodD x) n (.rng (k + 1) (k + (r + 1)))) rtn = _
    rw [put_t,body_eq,E]
    show bn3 (bn3 (bnd (grd (small c) (some (AV.none,[pl a1 b1,SO,LO,.list (c + 1) (wS e :: acc)]))) fun v H1=>asNone v (nxt (Vtk kk u (some k)) H1)) nxt rtn) (forL (.nm z_turn) (bodD x) n (.rng (k + 1) (k + (r + 1)))) rtn = _
    rw [small_50 (by omega),show k + (r + 1) = k + 1 + r by omega]
    show forL (.nm z_turn) (bodD x) n (.rng (k + 1) (k + 1 + r)) (Vtk kk u (some k)) [pl a1 b1,SO,LO,.list (c + 1) (wS e :: acc)] = _
    rw [h3]
    have e1 : wsR (e :: es) ++ acc = wsR es ++ (wS e :: acc):=by unfold wsR; simp
    rw [e1,show c + 1 + r = c + (r + 1) by omega]
noncomputable def SOd (ds : List Nat) : AO:=.list ds.length (strsR ds)
theorem s5_eq (x : AO) (k : Nat) (u : AV) (a b : Int) : ∀ ds : List Nat,ds.length ≤ 3 → exD (Gx x) (R2c x) (dS 4) (Vtk k u none) [pl a b,SOd ds,LO,.list 0 []] = bnd (bnd ((R2c x).call (.fn 748) [.loc 0,.int (.ofNat (ds.length + 1))] [pl a b,SOd ds,LO,.list 0 []]) fun v H1=>some ([v],H1)) fun vs H1=>bn1 (mkSr 1 (FF x) H1 vs) fun s=>forL (.nm z_turn) (bodD x) 60 s (Vtk k u none) H1
  | [],_=>by kernel_rfl
  | [_],_=>by kernel_rfl
  | [_,_],_=>by kernel_rfl
  | [_,_,_],_=>by kernel_rfl
theorem s5_ex (x : AO) (k : Nat) (u : AV) (a b : Int) (ds : List Nat) (hl : ds.length ≤ 3) : ∃ es o' a' b',es.length ≤ ds.length ∧ (∀ e ∈ es,∀ j,e = some j → j < 5) ∧ exD (Gx x) (R2c x) (dS 4) (Vtk k u none) [pl a b,SOd ds,LO,.list 0 []] = some (.next,Vtk k u o',[pl a' b',SOd ds,LO,.list es.length (wsR es)]):=by
  obtain ⟨n,a1,b1,hn,D⟩:=dr_ex x a b (m:=ds.length + 1) (by omega) (by omega)
  obtain ⟨es,o',a',b',h1,h2,h3⟩:=ahead_ex x k u (SOd ds) n 0 60 none a1 b1 0 [] (by omega) (by omega)
  refine ⟨es,o',a',b',by omega,h2,?_⟩
  rw [s5_eq x k u a b ds hl,D]
  show bn1 (grd (small n) (some (Sr.rng 0 n))) (fun s=>forL (.nm z_turn) (bodD x) 60 s (Vtk k u none) [pl a1 b1,SOd ds,LO,.list 0 []]) = _
  rw [small_50 (by omega)]
  rw [Nat.zero_add] at h3
  show forL (.nm z_turn) (bodD x) 60 (.rng 0 n) (Vtk k u none) [pl a1 b1,SOd ds,LO,.list 0 []] = _
  rw [h3,List.append_nil,h1]
theorem s6_eq (x : AO) (V : Vs) (H : Hs) : exD (Gx x) (R2c x) (dS 5) V H = bnd (evD (Gx x) (R2c x) (choE 2) V H) fun v H1=>nxt (put V z_tail v) H1:=by kernel_rfl
noncomputable def V6k (k : Nat) (u : AV) (o : Option Nat) (tl : Option Nat) : Vs:=put (Vtk k u o) z_tail (wS tl)
structure Dn (ds : List Nat) (es : List (Option Nat)) (tl : Option Nat) : Prop where
  l3 : ds.length ≤ 3
  d5 : ∀ d ∈ ds,d < 5
  el : es.length ≤ ds.length
  e5 : ∀ e ∈ es,∀ j,e = some j → j < 5
  t5 : ∀ j,tl = some j → j < 5
theorem draws (x : AO) (k : Nat) (a b : Int) : ∃ ds es tl up o a' b',Dn ds es tl ∧ exDs (Gx x) (R2c x) [dS 1,dS 2,dS 3,dS 4,dS 5] (V0k k) [pl a b] = some (.next,V6k k (.str (nm (upN up))) o tl,[pl a' b',SOd ds,LO,.list es.length (wsR es)]):=by
  obtain ⟨ds,a1,b1,h1,h2,e2⟩:=s2_ex x k a b
  obtain ⟨up,a2,b2,e3⟩:=s3_ex x k a1 b1 (SOd ds)
  have e4:=s4_eq x k (.str (nm (upN up))) (pl a2 b2) (SOd ds)
  obtain ⟨es,o,a4,b4,h3,h4,e5⟩:=s5_ex x k (.str (nm (upN up))) a2 b2 ds h1
  obtain ⟨tl,a5,b5,h5,e6⟩:=cho_ok (x:=x) a4 b4 (m:=2) (hasP_k x k (.str (nm (upN up))) o) (by decide) (by decide)
  refine ⟨ds,es,tl,up,o,a5,b5,⟨h1,h2,h3,h4,h5⟩,?_⟩
  show bn3 (exD (Gx x) (R2c x) (dS 1) (V0k k) [pl a b]) (fun V H=>bn3 (exD (Gx x) (R2c x) (dS 2) V H) (fun V H=>bn3 (exD (Gx x) (R2c x) (dS 3) V H) (fun V H=>bn3 (exD (Gx x) (R2c x) (dS 4) V H) (fun V H=>bn3 (exD (Gx x) (R2c x) (dS 5) V H) nxt rtn) rtn) rtn) rtn) rtn = _
  rw [e2]
  show bn3 (exD (Gx x) (R2c x) (dS 2) (V2k k) [pl a1 b1,SOd ds]) (fun V H=>bn3 (exD (Gx x) (R2c x) (dS 3) V H) (fun V H=>bn3 (exD (Gx x) (R2c x) (dS 4) V H) (fun V H=>bn3 (exD (Gx x) (R2c x) (dS 5) V H) nxt rtn) rtn) rtn) rtn = _
  rw [e3]
  show bn3 (exD (Gx x) (R2c x) (dS 3) (V3k k (.str (nm (upN up)))) [pl a2 b2,SOd ds,LO]) (fun V H=>bn3 (exD (Gx x) (R2c x) (dS 4) V H) (fun V H=>bn3 (exD (Gx x) (R2c x) (dS 5) V H) nxt rtn) rtn) rtn = _
  rw [e4]
  show bn3 (exD (Gx x) (R2c x) (dS 4) (Vtk k (.str (nm (upN up))) none) [pl a2 b2,SOd ds,LO,.list 0 []]) (fun V H=>bn3 (exD (Gx x) (R2c x) (dS 5) V H) nxt rtn) rtn = _
  rw [e5]
  show bn3 (exD (Gx x) (R2c x) (dS 5) (Vtk k (.str (nm (upN up))) o) [pl a4 b4,SOd ds,LO,.list es.length (wsR es)]) nxt rtn = _
  rw [s6_eq,e6]; rfl
noncomputable def gN (o : Option Nat) : Nat:=match o with | some d=>d | none=>0
noncomputable def gO (o : Option (Option Nat)) : Nat:=match o with | some o=>gN o | none=>0
noncomputable def dnOf (ds : List Nat) (es : List (Option Nat)) (tl : Option Nat) (up : Bool) (i : Nat) : Nat:=match i with
  | 0=>gN (hget ds 0) | 1=>gN (hget ds 1) | 2=>gN (hget ds 2) | 3=>gO (hget es 0) | 4=>gO (hget es 1) | 5=>gO (hget es 2) | 6=>gN tl | 7=>upN up | _=>0
theorem gN_lt {o : Option Nat} (h : ∀ j,o = some j → j < 5) : gN o < 5:=match o,h with | some d,h=>h d rfl | none,_=>by decide
theorem gO_lt {o : Option (Option Nat)} (h : ∀ e,o = some e → ∀ j,e = some j → j < 5) : gO o < 5:=match o,h with | some e,h=>gN_lt (h e rfl) | none,_=>by decide
theorem dnOf_lt {ds : List Nat} {es : List (Option Nat)} {tl : Option Nat} (D : Dn ds es tl) (up : Bool) : ∀ i,dnOf ds es tl up i < 5:=fun i=>by
  have a:=fun k=>gN_lt (o:=hget ds k) fun j e=>D.d5 j (hget_mem e)
  have b:=fun k=>gO_lt (o:=hget es k) fun e h=>D.e5 e (hget_mem h)
  match i with
  | 0=>exact a 0
  | 1=>exact a 1
  | 2=>exact a 2
  | 3=>exact b 0
  | 4=>exact b 1
  | 5=>exact b 2
  | 6=>exact gN_lt D.t5
  | 7=>cases up; exact (by decide : 3 < 5); exact (by decide : 1 < 5)
  | _ + 8=>exact (by decide : 0 < 5)
noncomputable def pOf (es : List (Option Nat)) : List Bool:=es.map isT
def allMP : List (Nat × List Bool):=[(0,[]),(1,[]),(1,[true]),(1,[false]),(2,[]),(2,[true]),(2,[false]),(2,[true,true]),(2,[true,false]),(2,[false,true]),(2,[false,false]),(3,[]),(3,[true]),(3,[false]),(3,[true,true]),(3,[true,false]),(3,[false,true]),(3,[false,false]),
  (3,[true,true,true]),(3,[true,true,false]),(3,[true,false,true]),(3,[true,false,false]),(3,[false,true,true]),(3,[false,true,false]),(3,[false,false,true]),(3,[false,false,false])]
noncomputable def inQ (q : QO) (l : List QO) : Bool:=l.any fun r=>decide (r = q)
theorem inQ_ok {q : QO} {l : List QO} (h : inQ q l = true) : q ∈ l:=by
  obtain ⟨r,m,e⟩:=List.any_eq_true.mp h
  exact of_decide_eq_true e ▸ m
theorem mp_all : allMP.map (fun q=>[inQ (q.1,q.2,true,false) allP,inQ (q.1,q.2,false,false) allP,inQ (q.1,q.2,true,hasT (mkO (q.1,q.2,true,false)) && true) allO,inQ (q.1,q.2,true,hasT (mkO (q.1,q.2,true,false)) && false) allO,inQ (q.1,q.2,false,hasT (mkO (q.1,q.2,false,false)) && true) allO,inQ (q.1,q.2,false,hasT (mkO (q.1,q.2,false,false)) && false) allO]) = allMP.map (fun _=>[true,true,true,true,true,true]):=by kernel_rfl
def all3 : List (List Bool):=[[],[true],[false],[true,true],[true,false],[false,true],[false,false],[true,true,true],[true,true,false],[true,false,true],[true,false,false],[false,true,true],[false,true,false],[false,false,true],[false,false,false]]
theorem mem_3 : ∀ p : List Bool,p.length ≤ 3 → p ∈ all3
  | [],_=>by decide +kernel
  | [a],_=>by cases a <;> decide +kernel
  | [a,b],_=>by cases a <;> cases b <;> decide +kernel
  | [a,b,c],_=>by cases a <;> cases b <;> cases c <;> decide +kernel
theorem mem_MP (m : Nat) (p : List Bool) (hm : m ≤ 3) (hp : p.length ≤ m) : (m,p) ∈ allMP:=(by decide +kernel : ∀ p ∈ all3,∀ m,m < 4 → p.length ≤ m → (m,p) ∈ allMP) p (mem_3 p (Nat.le_trans hp hm)) m (Nat.lt_succ_of_le hm) hp
theorem cell_of {ds : List Nat} {es : List (Option Nat)} {tl : Option Nat} (D : Dn ds es tl) (up : Bool) : Cell (dnOf ds es tl up) ds.length (pOf es) (isT tl) up:=by
  have h:=List.map_inj_left.mp mp_all (ds.length,pOf es) (mem_MP _ _ D.l3 (by unfold pOf; rw [List.length_map]; exact D.el))
  injection h with h1 h
  injection h with h2 h
  injection h with h3 h
  injection h with h4 h
  injection h with h5 h
  injection h with h6 h
  refine ⟨dnOf_lt D up,?_,?_,rfl⟩
  · cases isT tl <;> first | exact inQ_ok h1 | exact inQ_ok h2
  · cases isT tl <;> cases up <;> first | exact inQ_ok h3 | exact inQ_ok h4 | exact inQ_ok h5 | exact inQ_ok h6
theorem sm_eq (es : List (Option Nat)) (tl : Option Nat) (up : Bool) : ∀ ds : List Nat,ds.length ≤ 3 → dsO (σd (dnOf ds es tl up)) (smO (qS (ds.length,pOf es,isT tl,false))) = SOd ds
  | [],_=>by kernel_rfl
  | [_],_=>by kernel_rfl
  | [_,_],_=>by kernel_rfl
  | [_,_,_],_=>by kernel_rfl
noncomputable def AHe (es : List (Option Nat)) : AO:=.list es.length (wsR es)
theorem ah_eq (ds : List Nat) (tl : Option Nat) (up : Bool) : ∀ es : List (Option Nat),es.length ≤ 3 → dsO (σd (dnOf ds es tl up)) (ahO (qS (ds.length,pOf es,isT tl,false))) = AHe es
  | [],_=>by kernel_rfl
  | [a],_=>by cases a <;> kernel_rfl
  | [a,b],_=>by cases a <;> cases b <;> kernel_rfl
  | [a,b,c],_=>by cases a <;> cases b <;> cases c <;> kernel_rfl
noncomputable def V1l (up : Bool) (tl : Option Nat) : Vs:=[(z_script,.bs 7),(z_kinds,.bs 9),(z_some,.loc 0),(z_upper,.str (nm (upN up))),(z_ahead,.loc 1),(z_tail,wS tl)]
theorem V_eq (ds : List Nat) (es : List (Option Nat)) (up : Bool) : ∀ tl : Option Nat,dsV (σd (dnOf ds es tl up)) (V1a (qS (ds.length,pOf es,isT tl,false))) = V1l up tl
  | none=>by kernel_rfl
  | some _=>by kernel_rfl
noncomputable def xsL : List Str:=[z_script,z_kinds,z_some,z_upper,z_ahead,z_tail]
theorem vw_eq (k : Nat) (up : Bool) : ∀ (o tl : Option Nat),vwV [1,3] anyO (V6k k (.str (nm (upN up))) o tl) xsL = V1l up tl
  | none,none=>by cases up <;> kernel_rfl
  | none,some _=>by cases up <;> kernel_rfl
  | some _,none=>by cases up <;> kernel_rfl
  | some _,some _=>by cases up <;> kernel_rfl
theorem SOd_noLo (ds : List Nat) : noLoO (SOd ds) = true:=by
  show noLoL ((ds.map fun d=>AV.str (nm d)).reverse) = true
  rw [← List.map_reverse]; exact noLoL_map (fun _=>rfl) _
theorem AHe_noLo (es : List (Option Nat)) : noLoO (AHe es) = true:=by
  show noLoL ((es.map wS).reverse) = true
  rw [← List.map_reverse]; exact noLoL_map (fun p=>by cases p <;> rfl) _
section
variable {c : Cx} {K : Frag} {x : AO} {n N P : Nat} {kd : Kd} {fl : Fl} {V V' : Vs} {H H' : Hs} {ts : List Stmt}
theorem look_dsV : ∀ {V : Vs} {y : Str} {v : AV} {σ : Nat → Str},Mine.look V y = some v → Mine.look (dsV σ V) y = some (ds σ v)
  | p :: V,y,v,σ,h=>by
    have h : iff (seqb p.1 y) (some p.2) (Mine.look V y) = some v:=h
    show iff (seqb p.1 y) (some (ds σ p.2)) (Mine.look (dsV σ V) y) = some (ds σ v)
    cases q : seqb p.1 y with
    | true=>rw [q] at h; obtain rfl:=Option.some.inj h; rfl
    | false=>rw [q] at h; exact look_dsV (V:=V) h
theorem wk_sym : Wk c kd P .next (dsV c.σ V) (dsH c.σ H) .next V H:=fun env ρ0 s0 f s' hl q=>match q with
  | .mk ρ' R RV F S M=>.mk ρ' ((ds_H refl_E).mpr R) ⟨RV.kind,RV.names,RV.glob,RV.blt,match RV.loc with | .mk m hn hv=>.mk m hn fun y v e k=>(hv y _ (look_dsV e) k).elim fun u q=>⟨u,q.1,by rw [ds_V refl_E]; exact q.2⟩,RV.locNew,RV.locρ,RV.cells,RV.apart,RV.has,fun y v a e k f=>match RV.cvar y _ a (look_dsV e) k f with | .mk u h1 h2=>.mk u h1 (by rw [ds_V refl_E]; exact h2)⟩ F S M
theorem tail_ok (W : Wo c K x) (k : Nat) (a b : Int) : ∃ σ : Nat → Str,∀ ts,okSs (Gx x) ([dS 1,dS 2,dS 3,dS 4,dS 5] ++ (lR1 ++ (lR2 ++ lR3))) f_770.kd ts = true → TQ (cx c σ) 101 f_770.kd 0 ts (V0k k) [pl a b] .next [(z_script,.bs 7),(z_kinds,.bs 9)] []:=by
  obtain ⟨ds,es,tl,up,o,a',b',D,e⟩:=draws x k a b
  refine ⟨σd (dnOf ds es tl up),fun ts ok=>?_⟩
  have W':=W.to (cx_E' c (σd (dnOf ds es tl up)))
  have C:=cell_of D up
  have B : Base (cx c (σd (dnOf ds es tl up))) K (Gx x) 99:=W'.b0
  refine tq_run B (run_ok B 60 2) ok e fun ts' ok'=>?_
  have w1 : Wk (cx c (σd (dnOf ds es tl up))) f_770.kd 0 .next (V6k k (.str (nm (upN up))) o tl) [pl a' b',SOd ds,LO,AHe es] .next (V1l up tl) [SOd ds,AHe es]:=by
    have z:=wk_viewS (c:=cx c (σd (dnOf ds es tl up))) (kd:=f_770.kd) (p:=0) (fl:=.next) (V:=V6k k (.str (nm (upN up))) o tl) (H:=[pl a' b',SOd ds,LO,AHe es]) (H':=[SOd ds,AHe es]) (ι:=[1,3]) (fs:=[2,2]) xsL (by kernel_rfl) (by kernel_rfl) ⟨stays_of (SOd_noLo ds),stays_of (AHe_noLo es),trivial⟩
    rw [vw_eq] at z
    exact z
  have w2 : Wk (cx c (σd (dnOf ds es tl up))) f_770.kd 0 .next (V1l up tl) [SOd ds,AHe es] .next (V1a (qS (ds.length,pOf es,isT tl,false))) [smO (qS (ds.length,pOf es,isT tl,false)),ahO (qS (ds.length,pOf es,isT tl,false))]:=by
    have z:=wk_sym (c:=cx c (σd (dnOf ds es tl up))) (kd:=f_770.kd) (P:=0) (V:=V1a (qS (ds.length,pOf es,isT tl,false))) (H:=[smO (qS (ds.length,pOf es,isT tl,false)),ahO (qS (ds.length,pOf es,isT tl,false))])
    have eV : dsV (cx c (σd (dnOf ds es tl up))).σ (V1a (qS (ds.length,pOf es,isT tl,false))) = V1l up tl:=V_eq ds es up tl
    have eH : dsH (cx c (σd (dnOf ds es tl up))).σ [smO (qS (ds.length,pOf es,isT tl,false)),ahO (qS (ds.length,pOf es,isT tl,false))] = [SOd ds,AHe es]:=by
      show [dsO (σd (dnOf ds es tl up)) (smO (qS (ds.length,pOf es,isT tl,false))),dsO (σd (dnOf ds es tl up)) (ahO (qS (ds.length,pOf es,isT tl,false)))] = _
      rw [sm_eq es tl up ds D.l3,ah_eq ds tl up es (Nat.le_trans D.el D.l3)]
    rw [eV,eH] at z
    exact z
  refine tq_pre (w1.trans w2) ?_
  have T:=rest_ok (ts:=ts') W' rfl C ok'
  exact tq_post (tq_of (tss_tq T)) (wk_view (ι:=[]) (fs:=[]) [z_script,z_kinds] (by kernel_rfl) (by kernel_rfl))
end
noncomputable def SX (xs : List Int) : AO:=.list xs.length (xs.map AV.int).reverse
noncomputable def Vp (k : Nat) : Vs:=[(z_script,.bs 7),(z_k,.int (.ofNat k))]
noncomputable def pS (i : Nat) : CS:=nth4 i f_741.bd
theorem f741_bd : f_741.bd = [pS 0,pS 1]:=by kernel_rfl
noncomputable def lenE : CE:=.call (.gv 2) [.var z_script]
noncomputable def absE : CE:=.call (.gv 60) [.sub (.var z_script) (.var z_k)]
noncomputable def powE : CE:=.bin .Pow (.con (.int (.ofNat 10))) (.con (.int (.ofNat 40)))
theorem p0_eq : pS 0 = .asg (.nm z_number) (.ite (.cmp .Lt (.var z_k) lenE) (.bin .Mod absE powE) (.con (.int (.ofNat 0)))):=by kernel_rfl
section
variable {G : Pg} {R : Rec} {V : Vs} {H : Hs} {e f g : CE}
theorem evD_bin {op : Operator} : evD G R (.bin op e f) V H = bnd (evD G R e V H) fun x H1=>bnd (evD G R f V H1) fun y H2=>binOp op x y H2:=rfl
theorem evD_call1 : evD G R (.call e [f]) V H = bnd (evD G R e V H) fun g H1=>bnd (bnd (evD G R f V H1) fun v H2=>bnd (some (([] : List AV),H2)) fun vs H3=>some (v :: vs,H3)) fun vs H2=>R.call g vs H2:=rfl
end
theorem ile_nat (m n : Nat) : ileA (.ofNat m) (.ofNat n) = Nat.ble m n:=by cases m <;> rfl
theorem len_call (xs : List Int) (h : xs.length ≤ 1000000) : (R2c (SX xs)).call (.bi .len) [.bs 7] [] = some (.int (.ofNat xs.length),[]):=by
  have e : (R2c (SX xs)).call (.bi .len) [.bs 7] [] = grd (small (xs.map AV.int).reverse.length) (some (.int (.ofNat (xs.map AV.int).reverse.length),[])):=by kernel_rfl
  rw [e,List.length_reverse,List.length_map]
  have : small xs.length = true:=Nat.ble_eq.mpr h
  rw [this]; rfl
theorem lt_ev (xs : List Int) (k : Nat) (h : xs.length ≤ 1000000) : evD (Gx (SX xs)) (R2c (SX xs)) (.cmp .Lt (.var z_k) lenE) (Vp k) [] = some (.bool (!Nat.ble xs.length k),[]):=by
  rw [evD_cmp]
  have e1 : evD (Gx (SX xs)) (R2c (SX xs)) (.var z_k) (Vp k) [] = some (.int (.ofNat k),[]):=by kernel_rfl
  have e2 : evD (Gx (SX xs)) (R2c (SX xs)) lenE (Vp k) [] = (R2c (SX xs)).call (.bi .len) [.bs 7] []:=by kernel_rfl
  rw [e1]
  show bnd (evD (Gx (SX xs)) (R2c (SX xs)) lenE (Vp k) []) (fun y H2=>bn1 (cmpOp (Gx (SX xs)) H2 .Lt (.int (.ofNat k)) y) fun r=>some (AV.bool r,H2)) = _
  rw [e2,len_call xs h]
  show some (AV.bool (!(ileA (.ofNat xs.length) (.ofNat k))),([] : Hs)) = _
  rw [ile_nat]
theorem item_ev (xs : List Int) (k : Nat) (i : Int) (h : hget xs k = some i) (hk : k ≤ 1000000) : evD (Gx (SX xs)) (R2c (SX xs)) (.sub (.var z_script) (.var z_k)) (Vp k) [] = some (.int i,[]):=by
  have e : evD (Gx (SX xs)) (R2c (SX xs)) (.sub (.var z_script) (.var z_k)) (Vp k) [] = bn1 (getL (xs.map AV.int).reverse.reverse (.int (.ofNat k))) fun v=>some (v,[]):=by kernel_rfl
  rw [e,List.reverse_reverse]
  have e2 : getL (xs.map AV.int) (.int (.ofNat k)) = some (.int i):=by
    show bn1 (grd (Nat.blt k (xs.map AV.int).length) (grd (Nat.ble k 1000000) (some k))) (fun j=>hget (xs.map AV.int) j) = _
    rw [List.length_map,Nat.blt_eq.mpr (hget_lt h),Nat.ble_eq.mpr hk]
    show hget (xs.map AV.int) k = _
    rw [hget_eq,List.getElem?_map,← hget_eq,h]; rfl
  rw [e2]; rfl
theorem abs_ev (xs : List Int) (k : Nat) (i : Int) (h : hget xs k = some i) (hk : k ≤ 1000000) : evD (Gx (SX xs)) (R2c (SX xs)) absE (Vp k) [] = some (.int (.ofNat i.natAbs),[]):=by
  unfold absE
  rw [evD_call1]
  have e1 : evD (Gx (SX xs)) (R2c (SX xs)) (.gv 60) (Vp k) [] = some (.bi .abs,[]):=by kernel_rfl
  rw [e1]
  show bnd (bnd (evD (Gx (SX xs)) (R2c (SX xs)) (.sub (.var z_script) (.var z_k)) (Vp k) []) fun v H2=>bnd (some (([] : List AV),H2)) fun vs H3=>some (v :: vs,H3)) (fun vs H2=>(R2c (SX xs)).call (.bi .abs) vs H2) = _
  rw [item_ev xs k i h hk]; rfl
noncomputable def tenF : Nat:=10000000000000000000000000000000000000000
theorem mod_ev (xs : List Int) (k : Nat) (i : Int) (h : hget xs k = some i) (hk : k ≤ 1000000) : evD (Gx (SX xs)) (R2c (SX xs)) (.bin .Mod absE powE) (Vp k) [] = some (.int (Int.fmod (.ofNat i.natAbs) (.ofNat tenF)),[]):=by
  rw [evD_bin,abs_ev xs k i h hk]
  have e1 : evD (Gx (SX xs)) (R2c (SX xs)) powE (Vp k) [] = some (.int (.ofNat tenF),[]):=by kernel_rfl
  show bnd (evD (Gx (SX xs)) (R2c (SX xs)) powE (Vp k) []) (fun y H2=>binOp .Mod (.int (.ofNat i.natAbs)) y H2) = _
  rw [e1]
  show modOp (.int (.ofNat i.natAbs)) (.int (.ofNat tenF)) [] = _
  kernel_rfl
noncomputable def Vp' (k : Nat) (a : Int) : Vs:=[(z_script,.bs 7),(z_k,.int (.ofNat k)),(z_number,.int a)]
theorem p0_ex (xs : List Int) (k : Nat) (hx : xs.length ≤ 1000000) (hk : k ≤ 1000000) : ∃ a,exD (Gx (SX xs)) (R2c (SX xs)) (pS 0) (Vp k) [] = some (.next,Vp' k a,[]):=by
  rw [p0_eq]
  have e : ∀ a : Int,bnd (some (AV.int a,([] : Hs))) (fun v H1=>asgT (Gx (SX xs)) (R2c (SX xs)) (.nm z_number) v (Vp k) H1) = some (.next,Vp' k a,[]):=fun a=>by kernel_rfl
  cases q : Nat.ble xs.length k with
  | true=>
    refine ⟨.ofNat 0,?_⟩
    show bnd (evD (Gx (SX xs)) (R2c (SX xs)) (.ite (.cmp .Lt (.var z_k) lenE) (.bin .Mod absE powE) (.con (.int (.ofNat 0)))) (Vp k) []) (fun v H1=>asgT (Gx (SX xs)) (R2c (SX xs)) (.nm z_number) v (Vp k) H1) = _
    rw [evD_ite,lt_ev xs k hx,q]
    exact e (.ofNat 0)
  | false=>
    have hlt : k < xs.length:=Nat.not_le.mp fun z=>by rw [Nat.ble_eq.mpr z] at q; cases q
    obtain ⟨i,hi⟩:=hget_of_lt hlt
    refine ⟨Int.fmod (.ofNat i.natAbs) (.ofNat tenF),?_⟩
    show bnd (evD (Gx (SX xs)) (R2c (SX xs)) (.ite (.cmp .Lt (.var z_k) lenE) (.bin .Mod absE powE) (.con (.int (.ofNat 0)))) (Vp k) []) (fun v H1=>asgT (Gx (SX xs)) (R2c (SX xs)) (.nm z_number) v (Vp k) H1) = _
    rw [evD_ite,lt_ev xs k hx,q]
    show bnd (evD (Gx (SX xs)) (R2c (SX xs)) (.bin .Mod absE powE) (Vp k) []) (fun v H1=>asgT (Gx (SX xs)) (R2c (SX xs)) (.nm z_number) v (Vp k) H1) = _
    rw [mod_ev xs k i hi hk]
    exact e _
noncomputable def mix (a : Int) (k : Nat) : Int:=Int.fmod ((Int.fmod a (.ofNat 1000667) + Int.ofNat 101 * Int.ofNat k + Int.ofNat 53) * Int.ofNat 211) (.ofNat 1999117)
theorem p1_ev (x : AO) (a : Int) : ∀ k,k ≤ 2 → exD (Gx x) (R2c x) (pS 1) (Vp' k a) [] = some (.ret (.loc 0),Vp' k a,[pl a (mix a k)])
  | 0,_=>by kernel_rfl
  | 1,_=>by kernel_rfl
  | 2,_=>by kernel_rfl
noncomputable abbrev R3c (x : AO) : Rec:=run (Gx x) 60 3
theorem pail_call (xs : List Int) (k : Nat) (hx : xs.length ≤ 1000000) (hk : k ≤ 2) : ∃ a b,(R3c (SX xs)).call (.fn 741) [.bs 7,.int (.ofNat k)] [] = some (.loc 0,[pl a b]):=by
  obtain ⟨a,e1⟩:=p0_ex xs k hx (by omega)
  have e2:=p1_ev (SX xs) a k hk
  refine ⟨a,mix a k,?_⟩
  have e : (R3c (SX xs)).call (.fn 741) [.bs 7,.int (.ofNat k)] [] = bn3 (exDs (Gx (SX xs)) (R2c (SX xs)) f_741.bd (Vp k) []) (fun _ H1=>gcR (hlen []) .none H1) (fun v _ H1=>gcR (hlen []) v H1):=by kernel_rfl
  rw [e,f741_bd]
  show bn3 (bn3 (exD (Gx (SX xs)) (R2c (SX xs)) (pS 0) (Vp k) []) (fun V H=>bn3 (exD (Gx (SX xs)) (R2c (SX xs)) (pS 1) V H) nxt rtn) rtn) (fun _ H1=>gcR (hlen []) .none H1) (fun v _ H1=>gcR (hlen []) v H1) = _
  rw [e1]
  show bn3 (bn3 (exD (Gx (SX xs)) (R2c (SX xs)) (pS 1) (Vp' k a) []) nxt rtn) (fun _ H1=>gcR (hlen []) .none H1) (fun v _ H1=>gcR (hlen []) v H1) = _
  rw [e2]; rfl
noncomputable def Vb (k : Nat) : Vs:=[(z_script,.bs 7),(z_kinds,.bs 9),(z_k,.int (.ofNat k))]
theorem d0_eq (x : AO) (k : Nat) : exD (Gx x) (R3c x) (dS 0) (Vb k) [] = bnd ((R3c x).call (.fn 741) [.bs 7,.int (.ofNat k)] []) fun v H1=>nxt (put (Vb k) z_pail v) H1:=by kernel_rfl
section
variable {c : Cx} {K : Frag} {x : AO} {n N P : Nat} {kd : Kd} {fl : Fl} {V V' : Vs} {H H' : Hs} {ts : List Stmt} {xs : List Int}
theorem turn_ok (W : Wo c K (SX xs)) (hx : xs.length ≤ 1000000) {k : Nat} (hk : k ≤ 2) : ∃ σ : Nat → Str,∀ ts,okSs (Gx (SX xs)) bd770 f_770.kd ts = true → TSs (cx c σ) 101 f_770.kd ts (Vb k) [] .next [(z_script,.bs 7),(z_kinds,.bs 9)] []:=by
  obtain ⟨a,b,e⟩:=pail_call xs k hx hk
  obtain ⟨σ,T⟩:=tail_ok W k a b
  refine ⟨σ,fun ts ok=>?_⟩
  have W':=W.to (cx_E' c σ)
  rw [bd770_eq,lDraw_eq] at ok
  have B : Base (cx c σ) K (Gx (SX xs)) 98:=W'.b0
  refine oks_cons (M:=fun ts=>TSs (cx c σ) 101 f_770.kd ts (Vb k) [] .next [(z_script,.bs 7),(z_kinds,.bs 9)] []) ok fun t1 ts' h1 ok'=>?_
  have T1 : TS (cx c σ) 101 f_770.kd t1 (Vb k) [] .next (V0k k) [pl a b]:=ts_run B (run_ok B 60 3) h1 (by rw [d0_eq,e]; kernel_rfl)
  exact tss_tq (tq_cons T1 (T ts' ok'))
theorem tss_cx {σ : Nat → Str} (hV : ∀ y v,Mine.look V y = some v → noSy v = true) (hV' : ∀ y v,Mine.look V' y = some v → noSy v = true) (T : TSs (cx c σ) n kd ts V [] .next V' []) : TSs c n kd ts V [] .next V' []:=fun A env ρ s X=>by
  have eV : ∀ (h : Heap) (ρ : List Addr) (v : AV),noSy v = true → (cx c σ).V h ρ v = c.V h ρ v:=fun h ρ v hv=>by
    rw [ds_V (cx_E c σ),ds_noSy _ v hv]
  have rv : ∀ {V : Vs} {ρ : List Addr} {h : Heap},(∀ y v,Mine.look V y = some v → noSy v = true) → RelV c env kd V ρ h → RelV (cx c σ) env kd V ρ h:=fun hV RV=>⟨RV.kind,RV.names,RV.glob,RV.blt,match RV.loc with | .mk m hn hv=>.mk m hn fun y v e k=>(hv y v e k).elim fun u q=>⟨u,q.1,by rw [eV _ _ _ (hV y v e)]; exact q.2⟩,RV.locNew,RV.locρ,fun y a e=>match RV.cells y a e with | .mk v0 h1 h2 h3 h4=>.mk v0 h1 h2 h3 h4,RV.apart,RV.has,fun y v a e k f=>match RV.cvar y v a e k f with | .mk u h1 h2=>.mk u h1 (by rw [eV _ _ _ (hV y v e)]; exact h2)⟩
  have vr : ∀ {V : Vs} {ρ : List Addr} {h : Heap},(∀ y v,Mine.look V y = some v → noSy v = true) → RelV (cx c σ) env kd V ρ h → RelV c env kd V ρ h:=fun hV RV=>⟨RV.kind,RV.names,RV.glob,RV.blt,match RV.loc with | .mk m hn hv=>.mk m hn fun y v e k=>(hv y v e k).elim fun u q=>⟨u,q.1,by rw [← eV _ _ _ (hV y v e)]; exact q.2⟩,RV.locNew,RV.locρ,fun y a e=>match RV.cells y a e with | .mk v0 h1 h2 h3 h4=>.mk v0 h1 h2 h3 h4,RV.apart,RV.has,fun y v a e k f=>match RV.cvar y v a e k f with | .mk u h1 h2=>.mk u h1 (by rw [← eV _ _ _ (hV y v e)]; exact h2)⟩
  have q:=T A env ρ s ⟨X.a,(ds_H (cx_E c σ)).mpr X.R,rv hV X.RV⟩
  exact go q fun f s' q=>match q with
    | .mk ρ' R RV F S M=>.mk ρ' ((ds_H (cx_E c σ)).mp R) (vr hV' RV) F S M
theorem turn_c (W : Wo c K (SX xs)) (hx : xs.length ≤ 1000000) {k : Nat} (hk : k ≤ 2) (ok : okSs (Gx (SX xs)) bd770 f_770.kd ts = true) : TSs c 101 f_770.kd ts (Vb k) [] .next [(z_script,.bs 7),(z_kinds,.bs 9)] []:=by
  obtain ⟨σ,T⟩:=turn_ok W hx hk
  refine tss_cx (σ:=σ) (fun y v e=>?_) (fun y v e=>?_) (T ts ok)
  · have e : iff (seqb z_script y) (some (AV.bs 7)) (iff (seqb z_kinds y) (some (.bs 9)) (iff (seqb z_k y) (some (.int (.ofNat k))) none)) = some v:=e
    cases h1 : seqb z_script y with
    | true=>rw [h1] at e; cases e; rfl
    | false=>
      cases h2 : seqb z_kinds y with
      | true=>rw [h1,h2] at e; cases e; rfl
      | false=>
        cases h3 : seqb z_k y with
        | true=>rw [h1,h2,h3] at e; cases e; rfl
        | false=>rw [h1,h2,h3] at e; cases e
  · have e : iff (seqb z_script y) (some (AV.bs 7)) (iff (seqb z_kinds y) (some (.bs 9)) none) = some v:=e
    cases h1 : seqb z_script y with
    | true=>rw [h1] at e; cases e; rfl
    | false=>
      cases h2 : seqb z_kinds y with
      | true=>rw [h1,h2] at e; cases e; rfl
      | false=>rw [h1,h2] at e; cases e
end
noncomputable def tS (i : Nat) : CS:=nth4 i f_770.bd
theorem f770_bd : f_770.bd = [tS 0,tS 1,tS 2,tS 3,tS 4]:=by kernel_rfl
noncomputable def minE : CE:=.call (.gv 16) [lenE,.con (.int (.ofNat 3))]
noncomputable def srcE : CE:=.call (.gv 9) [.con (.int (.ofNat 1)),minE]
theorem evD_call2 {G : Pg} {R : Rec} {V : Vs} {H : Hs} {e f g : CE} : evD G R (.call e [f,g]) V H = bnd (evD G R e V H) fun h H1=>bnd (bnd (evD G R f V H1) fun v H2=>bnd (bnd (evD G R g V H2) fun w H3=>bnd (some (([] : List AV),H3)) fun vs H4=>some (w :: vs,H4)) fun vs H3=>some (v :: vs,H3)) fun vs H2=>R.call h vs H2:=rfl
theorem t3_eq : tS 3 = .for 1 (.nm z_k) [srcE] bd770:=by kernel_rfl
noncomputable def V0 : Vs:=[(z_script,.bs 7),(z_kinds,.bs 9)]
noncomputable def minV (n : Nat) : Int:=match ileA (.ofNat n) (.ofNat 3) with | true=>.ofNat n | false=>.ofNat 3
noncomputable def maxV (n : Nat) : Int:=match ileA (minV n) (.ofNat 1) with | true=>.ofNat 1 | false=>minV n
noncomputable def srcV (n : Nat) : Option (Sr × Hs):=bn1 (mkSr 1 [] [] [.int (maxV n)]) fun s=>some (s,[])
theorem srcV_ok : ∀ n,∃ N,N ≤ 3 ∧ srcV n = some (.rng 0 N,[])
  | 0=>⟨1,by decide,by kernel_rfl⟩
  | 1=>⟨1,by decide,by kernel_rfl⟩
  | 2=>⟨2,by decide,by kernel_rfl⟩
  | 3=>⟨3,by decide,by kernel_rfl⟩
  | n + 4=>⟨3,by decide,by kernel_rfl⟩
theorem src_ev (xs : List Int) (hx : xs.length ≤ 1000000) : ∃ N,N ≤ 3 ∧ bnd ((evDs (Gx (SX xs)) (R2c (SX xs)) [srcE]).es V0 []) (fun vs H1=>bn1 (mkSr 1 (Gx (SX xs)).F H1 vs) fun s=>some (s,H1)) = some (.rng 0 N,[]):=by
  obtain ⟨N,h1,h2⟩:=srcV_ok xs.length
  refine ⟨N,h1,?_⟩
  have e2 : evD (Gx (SX xs)) (R2c (SX xs)) lenE V0 [] = (R2c (SX xs)).call (.bi .len) [.bs 7] []:=by kernel_rfl
  rw [len_call xs hx] at e2
  have e16 : evD (Gx (SX xs)) (R2c (SX xs)) (.gv 16) V0 [] = some (.bi .min,[]):=by kernel_rfl
  have e9 : evD (Gx (SX xs)) (R2c (SX xs)) (.gv 9) V0 [] = some (.bi .max,[]):=by kernel_rfl
  have e3 : evD (Gx (SX xs)) (R2c (SX xs)) minE V0 [] = some (.int (minV xs.length),[]):=by
    unfold minE
    rw [evD_call2,e16]
    show bnd (bnd (evD (Gx (SX xs)) (R2c (SX xs)) lenE V0 []) fun v H2=>bnd (bnd (evD (Gx (SX xs)) (R2c (SX xs)) (.con (.int (.ofNat 3))) V0 H2) fun w H3=>bnd (some (([] : List AV),H3)) fun vs H4=>some (w :: vs,H4)) fun vs H3=>some (v :: vs,H3)) (fun vs H2=>(R2c (SX xs)).call (.bi .min) vs H2) = _
    rw [e2]
    kernel_rfl
  have e5 : evD (Gx (SX xs)) (R2c (SX xs)) srcE V0 [] = some (.int (maxV xs.length),[]):=by
    unfold srcE
    rw [evD_call2,e9]
    show bnd (bnd (evD (Gx (SX xs)) (R2c (SX xs)) (.con (.int (.ofNat 1))) V0 []) fun v H2=>bnd (bnd (evD (Gx (SX xs)) (R2c (SX xs)) minE V0 H2) fun w H3=>bnd (some (([] : List AV),H3)) fun vs H4=>some (w :: vs,H4)) fun vs H3=>some (v :: vs,H3)) (fun vs H2=>(R2c (SX xs)).call (.bi .max) vs H2) = _
    have e1 : evD (Gx (SX xs)) (R2c (SX xs)) (.con (.int (.ofNat 1))) V0 [] = some (.int (.ofNat 1),[]):=by kernel_rfl
    rw [e1]
    show bnd (bnd (bnd (evD (Gx (SX xs)) (R2c (SX xs)) minE V0 []) fun w H3=>bnd (some (([] : List AV),H3)) fun vs H4=>some (w :: vs,H4)) fun vs H3=>some (AV.int (.ofNat 1) :: vs,H3)) (fun vs H2=>(R2c (SX xs)).call (.bi .max) vs H2) = _
    rw [e3]
    kernel_rfl
  have e4 : (evDs (Gx (SX xs)) (R2c (SX xs)) [srcE]).es V0 [] = bnd (evD (Gx (SX xs)) (R2c (SX xs)) srcE V0 []) fun v H1=>bnd (some (([] : List AV),H1)) fun vs H2=>some (v :: vs,H2):=rfl
  rw [e4,e5]
  exact h2
section
variable {c : Cx} {K : Frag} {n N : Nat} {kd : Kd} {ts : List Stmt} {t : Stmt} {xs : List Int} {g : Expr} {b : List Stmt}
theorem bind_k (s : Sr) (h : ∀ i j k,s ≠ .zip i j k) (k : Nat) : bindS s (.nm z_k) (.int (.ofNat k)) V0 = some (Vb k):=by
  cases s with
  | zip i j k=>exact (h i j k rfl).elim
  | _=>kernel_rfl
theorem tf_all (W : Wo c K (SX xs)) (hx : xs.length ≤ 1000000) (h1 : okTG true f_770.kd (.nm z_k) g = true) (h2 : okSs (Gx (SX xs)) bd770 f_770.kd b = true) : ∀ (r k : Nat),k + r ≤ 3 → TF c 101 f_770.kd g (.rng k (k + r)) b V0 [] .next V0 []
  | 0,k,_=>tf_end (draw (ck:=true) h1 _ (next_f (blt_f k)))
  | r + 1,k,hk=>tf_item (draw (ck:=true) h1 _ (next_t (blt_t k r))) (bind_k (.rng (k + 1) (k + (r + 1))) (fun _ _ _ e=>(nomatch e)) k) (turn_c W hx (by omega) h2) (.inl ⟨rfl,by
      have z:=tf_all W hx h1 h2 r (k + 1) (by omega)
      rw [show k + 1 + r = k + (r + 1) by omega] at z
      exact z⟩)
theorem loop_ok (W : Wo c K (SX xs)) (hx : xs.length ≤ 1000000) (ok : okS (Gx (SX xs)) (tS 3) f_770.kd t = true) : TS c 101 f_770.kd t V0 [] .next V0 []:=by
  rw [t3_eq] at ok
  have B : Base c K (Gx (SX xs)) 99:=W.b0
  obtain ⟨N,hN,e⟩:=src_ev xs hx
  exact sFor_el (M:=fun t=>TS c 101 f_770.kd t V0 [] .next V0 []) (show sFor t (fun g it x z _=>b2 (l0 z) (b2 (okTG true f_770.kd (.nm z_k) g) (b2 (okSr 1 (okEs (Gx (SX xs)) [srcE] f_770.kd) f_770.kd it) (okSL (Gx (SX xs)) bd770 f_770.kd x)))) = true from ok) fun g it x z p h=>b2_el h fun h0 h=>b2_el h fun h1 h=>b2_el h fun h2 h3=>l0_el (M:=fun z=>TS c 101 f_770.kd (.For g it x z p) V0 [] .next V0 []) h0 (by
    have S:=src_ok B (evs_ok (ev_ok B (run_ok B 60 2)) [srcE]) (kk:=fun sr H1=>some (sr,H1)) (T:=fun p : Sr × Hs=>SrcT c 101 f_770.kd it V0 [] p.1 p.2) h2 (fun sr H1 S=>tp_some S) _ e
    have F:=tf_all W hx h1 (okSL_eq _ _ _ x ▸ h3) N 0 (by omega)
    rw [Nat.zero_add] at F
    exact ts_for (fold_of h2) S F)
theorem s12 (x : AO) : xrG 0 (exDs (Gx x) (run (Gx x) 60 20) [tS 1,tS 2] V0 []) (fun _=>[]) [] [z_script,z_kinds] = some (.next,V0,[]):=by kernel_rfl
theorem s4_ret (x : AO) : exDs (Gx x) (run (Gx x) 60 1) [tS 4] V0 [] = some (.ret (.bool true),V0,[]):=by kernel_rfl
theorem after_ok (W : Wo c K (SX xs)) (hx : xs.length ≤ 1000000) (ok : okSs (Gx (SX xs)) [tS 1,tS 2,tS 3,tS 4] f_770.kd ts = true) : TSs c 101 f_770.kd ts V0 [] (.ret (.bool true)) V0 []:=by
  have B : Base c K (Gx (SX xs)) 81:=W.b0
  have B' : Base c K (Gx (SX xs)) 100:=W.b0
  obtain ⟨f,V1,H1,e1,q1,w1⟩:=xrG_el (s12 (SX xs))
  have f1 : f = .next:=by cases f with
    | next=>rfl
    | ret v=>cases q1
  subst f1
  refine tss_tq (tq_run (cs:=[tS 1,tS 2]) (cs':=[tS 3,tS 4]) B (run_ok B 60 20) ok e1 fun ts' ok'=>tq_pre (w1 c _) ?_)
  exact oks_cons (M:=fun ts=>TQ c 101 f_770.kd 0 ts V0 [] (.ret (.bool true)) V0 []) ok' fun t ts2 h1 h2=>tq_cons (loop_ok W hx h1) (tq_of (tss_run B' (run_ok B' 60 1) h2 (s4_ret _)))
end
inductive IntL : List Int → List Value → Prop
  | nil : IntL [] []
  | cons (i : Int) (t : Tok) {xs : List Int} {us : List Value} (r : IntL xs us) : IntL (i :: xs) (.int i t :: us)
theorem IntL.rel {c : Cx} {h : Heap} {ρ : List Addr} {xs : List Int} {us : List Value} (r : IntL xs us) : c.Vs h ρ (xs.map AV.int) us:=by
  induction r with
  | nil=>exact Cx.Vs.nil
  | cons i t r ih=>exact Cx.Vs.cons (.mk t) ih
structure Z0 (c : Cx) (K : Frag) (xs : List Int) (sa : Addr) : Prop where
  W : Wd c K
  h : ∀ ρ,worldB K (FA1 ++ ρ) = true
  eF : c.F = FA1 ++ [sa]
  L : ∃ us : List Value,c.B.PlainList sa us.toArray ∧ IntL xs us
noncomputable def G0 (x : AO) : Pg:=⟨gl1,F1 ++ [x],fn1,cl1,fun _=>none,fun _ _=>none,fun _ _=>none⟩
section
variable {c d : Cx} {K : Frag} {D n : Nat} {xs : List Int} {sa : Addr} {t : Stmt} {ts : List Stmt}
theorem listSX (L : ∃ us : List Value,c.B.PlainList sa us.toArray ∧ IntL xs us) : ORel c c.B [] c.F (SX xs) sa:=by
  obtain ⟨us,h1,h2⟩:=L
  exact ListR.mk us (by rw [List.length_reverse,List.length_map]; exact Nat.le_refl _) h1 (by rw [List.reverse_reverse]; exact IntL.rel h2)
theorem get_app {α : Type} : ∀ (a b : List α) (i : Nat) (x : α),hget (a ++ b) i = some x → (i < a.length ∧ hget a i = some x) ∨ ∃ j,i = a.length + j ∧ hget b j = some x
  | [],b,i,x,e=>.inr ⟨i,(Nat.zero_add i).symm,e⟩
  | y :: a,b,0,x,e=>.inl ⟨Nat.succ_pos _,e⟩
  | y :: a,b,i + 1,x,e=>(get_app a b i x e).imp (fun z=>⟨Nat.succ_lt_succ z.1,z.2⟩) fun z=>z.elim fun j z=>⟨j,by rw [z.1]; show _ = a.length + 1 + j; omega,z.2⟩
theorem Z0.base (Z : Z0 c K xs sa) : Base c K (G0 (SX xs)) D:=base_of Z.W (by rw [Z.eF]; exact Z.h _) (fun i a o ea eo=>by
    rw [Z.eF] at ea
    exact (get_app _ _ i a ea).elim (fun z=>(get_app _ _ i o eo).elim (fun q=>bF_one Z.W (by rw [Z.eF]; exact Z.h _) i a o z.2 q.2) fun q=>q.elim fun j q=>absurd z.1 (by rw [q.1,show F1.length = FA1.length from rfl]; omega))
      fun z=>z.elim fun j z=>(get_app _ _ i o eo).elim (fun q=>absurd q.1 (by rw [z.1,show F1.length = FA1.length from rfl]; omega)) fun q=>q.elim fun j' q=>by
        obtain rfl : j = j':=by have:=z.1.symm.trans q.1; rw [show F1.length = FA1.length from rfl] at this; omega
        match j,z.2,q.2 with
        | 0,z,q=>
          obtain rfl:=Option.some.inj (show some sa = some a from z)
          obtain rfl:=Option.some.inj (show some (SX xs) = some o from q)
          exact listSX Z.L
        | j + 1,z,q=>exact (hget_no (show hget [] j = some a from z)).elim)
  (fun _ e=>nomatch e) (fun _ _ e=>nomatch e) (fun _ _ _ e=>nomatch e) fun _ _ _ e=>nomatch e
noncomputable def Vs0 : Vs:=[(z_script,.bs 7)]
noncomputable def Vs1 : Vs:=[(z_script,.bs 7),(z_kinds,.loc 1)]
theorem t0_eq (x : AO) (R : Rec) : exD (G0 x) R (tS 0) Vs0 [] = bnd (R.call (.fn 713) [] []) fun v H1=>nxt (put Vs0 z_kinds v) H1:=by kernel_rfl
theorem kp_713 (Z : Z0 c K xs sa) : keepIn K (.ref 713) = true:=b2_el (Z.h []) fun _ h=>b2_el h fun h2 _=>b2_el (tall_ok h2 (show fn1 713 = some f_713 from by kernel_rfl)) fun _ z=>z
theorem start_ok (Z : Z0 c K xs sa) (ok : okS (G0 (SX xs)) (tS 0) f_770.kd t = true) : TS c 101 f_770.kd t Vs0 [] .next Vs1 KH:=by
  have B : Base c K (G0 (SX xs)) 71:=Z.base
  obtain ⟨H1,e,g⟩:=isG_el (kst (SX xs))
  have T : TC c 101 (.fn 713) [] [] (.loc 1) KH:=tc_gone (sound B e) g
  have CO:=one_ok (r:=(.loc 1,KH)) (run_ok B 60 30) (kp_713 Z) T
  have B' : Base c K (G0 (SX xs)) 71:=B
  refine ts_run (R:=⟨one (run (G0 (SX xs)) 60 30).call 713 [] [] (.loc 1,KH),60⟩) B' CO ok ?_
  rw [t0_eq]
  show bnd (one (run (G0 (SX xs)) 60 30).call 713 [] [] (.loc 1,KH) (.fn 713) [] []) (fun v H1=>nxt (put Vs0 z_kinds v) H1) = _
  rw [one_at]
  show some (Fl.next,put Vs0 z_kinds (.loc 1),KH) = some (.next,Vs1,KH)
  congr 1
end
section
variable {c d : Cx} {K : Frag} {D n : Nat} {xs : List Int} {sa : Addr} {t : Stmt} {ts : List Stmt} {env : Env} {ρ : List Addr} {h : Heap} {V : Vs} {H : Hs}
theorem ints_noSy : ∀ xs : List Int,noSyL (xs.map AV.int) = true
  | []=>rfl
  | x :: xs=>ints_noSy xs
theorem SX_noSy (xs : List Int) : noSyO (SX xs) = true:=noSyL_rev (ints_noSy xs)
theorem Wd.up (W : Wd c K) (hp : c.prog = d.prog) (hw : c.w = d.w) (k : ∀ a o,c.B.get? a = some o → d.B.get? a = some o) : Wd d K:=
  ⟨fun a o e=>k _ _ (W.kin a o e),W.g.elim fun m q=>⟨m,q.keeps k⟩,W.b.elim fun m q=>⟨m,q.1.keeps k,q.2⟩,W.lim.elim fun m q=>⟨m,q.1.keeps k,q.2⟩,W.sm.elim fun o q=>⟨o,k _ _ q⟩,hw ▸ W.dct⟩
theorem frozen (Z : Z0 c K xs sa) (R : RelH c ρ KH h) (RV : RelV c env f_770.kd Vs1 ρ h) (hp : c.prog = d.prog) (hw : c.w = d.w) (hB : d.B = holes (ownL env) h) (hdF : d.F = (FA1 ++ [sa]) ++ ρ) : Wo d K (SX xs) ∧ RelH d [] [] h ∧ RelV d env f_770.kd V0 [] h ∧ ∀ a o,c.B.get? a = some o → d.B.get? a = some o:=by
  have FR : FrzR c d (FA1 ++ [sa]) ρ KH Vs1 env f_770.kd h:=freeze R RV Z.eF hp hw hB hdF (by kernel_rfl) fun x v e=>by
    have e : iff (seqb z_script x) (some (AV.bs 7)) (iff (seqb z_kinds x) (some (.loc 1)) none) = some v:=e
    cases h1 : seqb z_script x with
    | true=>rw [h1] at e; cases e; rfl
    | false=>
      cases h2 : seqb z_kinds x with
      | true=>rw [h1,h2] at e; cases e; rfl
      | false=>rw [h1,h2] at e; cases e
  have W : Wd d K:=Z.W.up hp hw FR.up
  have eF : d.F = FA1 ++ ([sa] ++ ρ):=by rw [hdF,List.append_assoc]
  have hW : worldB K d.F = true:=by rw [eF]; exact Z.h _
  have h8 : (FA1 ++ [sa]).length = 8:=rfl
  refine ⟨⟨W,hW,fun i a o ea eo=>?_,SX_noSy xs⟩,FR.R,?_,FR.up⟩
  · rw [eF] at ea
    exact (get_app FA1 _ i a ea).elim (fun z=>(get_app F1 _ i o eo).elim (fun q=>bF_one W hW i a o z.2 q.2) fun q=>q.elim fun j q=>absurd z.1 (by rw [q.1,show F1.length = FA1.length from rfl]; omega))
      fun z=>z.elim fun j z=>(get_app F1 _ i o eo).elim (fun q=>absurd q.1 (by rw [z.1,show F1.length = FA1.length from rfl]; omega)) fun q=>q.elim fun j' q=>by
        obtain rfl : j = j':=by have:=z.1.symm.trans q.1; rw [show F1.length = FA1.length from rfl] at this; omega
        match j,z.2,q.2 with
        | 0,z,q=>
          obtain rfl:=Option.some.inj (show some sa = some a from z)
          obtain rfl:=Option.some.inj (show some (SX xs) = some o from q)
          exact listSX (c:=d) (Z.L.elim fun us z=>⟨us,z.1.at fun o e=>FR.up _ _ e,z.2⟩)
        | j + 1,z,q=>exact FR.bF j a o z (by rw [h8,sH_eq fk_ok]; exact q)
  · have:=FR.RV
    rw [h8] at this
    exact this
theorem nil_of_len {α : Type} {l : List α} (h : l.length = 0) : l = []:=List.eq_nil_of_length_eq_zero h
theorem body_ok (Z : Z0 c K xs sa) (hx : xs.length ≤ 1000000) (ok : okSs (G0 (SX xs)) f_770.bd f_770.kd ts = true) : TSs c 101 f_770.kd ts Vs0 [] (.ret (.bool true)) [] []:=by
  rw [f770_bd] at ok
  refine oks_cons (M:=fun ts=>TSs c 101 f_770.kd ts Vs0 [] (.ret (.bool true)) [] []) ok fun t ts h1 ok A env ρ s X=>?_
  have e0 : ρ = []:=nil_of_len X.R.len
  subst e0
  refine wpAny_execs_cons (go (start_ok Z h1 A env [] s X) fun f s1 p=>?_)
  obtain ⟨ρ1,R1,RV1,F1',S1,M1⟩:=p
  obtain rfl : f = .next:=F1'
  obtain ⟨W,R,RV,up⟩:=frozen (d:=⟨c.prog,c.w,c.σ,holes (ownL env) s1.heap,(FA1 ++ [sa]) ++ ρ1⟩) Z R1 RV1 rfl rfl rfl rfl
  have T:=after_ok W hx (ts:=ts) (by rw [okSs_gl (show (Gx (SX xs)).gl = (G0 (SX xs)).gl from rfl)]; exact ok)
  refine go (T A env [] s1 ⟨X.a,R,RV⟩) fun f s2 p=>?_
  obtain ⟨ρ2,R2,RV2,F2,S2,M2⟩:=p
  obtain rfl : ρ2 = []:=nil_of_len R2.len
  have lk : ∀ {α : Prop} {y : Str} {v : AV},look ([] : Vs) y = some v → α:=fun e=>nomatch (show (none : Option AV) = some _ from e)
  have gone : ∀ a,holes (ownL env) s1.heap |>.get? a |>.isNone → c.B.get? a = none:=fun a e=>by
    cases q : c.B.get? a with
    | none=>rfl
    | some o=>rw [up a o q] at e; cases e
  refine .mk [] ⟨fun a o e=>R2.keep a o (up a o e),rfl,.nil,fun _ m=>(nomatch m),fun i a o e=>(hget_no e).elim⟩ ⟨RV2.kind,RV2.names,RV2.glob,RV2.blt,?_,gone _ (by rw [RV2.locNew]; rfl),fun m=>(nomatch m),fun x a e=>?_,RV2.apart,RV2.has,fun x v a e=>lk e⟩ ?_ ⟨fun a o e m hX=>S2.keep a o (S1.keep a o e m hX) (fun m=>nomatch m) hX,.mk [] rfl (fun _ m=>(nomatch m)),fun a o e=>(S1.live a o e).elim fun o' e'=>S2.live a o' e'⟩ (M1.trans M2)
  · obtain ⟨m,hn,hv⟩:=RV2.loc
    exact .mk m hn fun y v e=>lk e
  · obtain ⟨v0,h1,h2,h3,h4⟩:=RV2.cells x a e
    exact .mk v0 (gone _ (by rw [h1]; rfl)) (fun m=>nomatch m) h3 h4
  · obtain ⟨u,hu⟩:=F2
    exact .mk u hu
theorem law_ok (Z : Z0 c K xs sa) (hx : xs.length ≤ 1000000) : TC c 102 (.fn 770) [.bs 7] [] (.bool true) []:=by
  have B : Base c K (G0 (SX xs)) 101:=Z.base
  exact tc_fn (fl:=.ret (.bool true)) (V':=[]) B (fn:=f_770) (show (G0 (SX xs)).fn 770 = some f_770 from by kernel_rfl) (Nat.le_refl 1) (Nat.le_refl 1) fun body ok=>body_ok Z hx ok
end
theorem dct_all {w : World} {K : Frag} (h0 : DctH w K 729) (h1 : DctH w K 730) (h2 : DctH w K 731) (h3 : DctH w K 732) (h4 : DctH w K 733) (h5 : DctH w K 734) (h6 : DctH w K 728) : ∀ a ∈ FA1,DctH w K a:=fun a m=>
  (List.mem_cons.mp m).elim (fun e=>e ▸ h0) fun m=>(List.mem_cons.mp m).elim (fun e=>e ▸ h1) fun m=>(List.mem_cons.mp m).elim (fun e=>e ▸ h2) fun m=>(List.mem_cons.mp m).elim (fun e=>e ▸ h3) fun m=>(List.mem_cons.mp m).elim (fun e=>e ▸ h4) fun m=>
  (List.mem_cons.mp m).elim (fun e=>e ▸ h5) fun m=>(List.mem_cons.mp m).elim (fun e=>e ▸ h6) fun m=>(nomatch m)
theorem law_run {p : Program} {w : World} {s₁ : Shared} {K : Frag} {mg mb : Str → Option Value} {xs : List Int} {sa : Addr} {us : List Value} {Post : Result → Shared → Prop} (kin : K.In s₁.heap) (g : s₁.heap.Ns mainGlobals mg) (b : s₁.heap.Ns builtinsNs mb) (hb : ∀ x : Str,x ≠ "__name__" → mb x = bootBuiltins x) (lim : s₁.heap.NoLimit) (ns : s₁.heap.NoSeer)
    (dct : ∀ a ∈ FA1,DctH w K a) (hW : ∀ ρ,worldB K (FA1 ++ ρ) = true) (L : s₁.heap.PlainList sa us.toArray) (I : IntL xs us) (hx : xs.length ≤ 1000000)
    (k : ∀ s',(∀ b o,s₁.heap.get? b = some o → s'.heap.get? b = some o) → s'.os = s₁.os → s'.gens = s₁.gens → Post (.ok (.ret (.bool true))) s') : codeAny (model p w) callerA (.call (.ref 770) ⟨[.ref sa],[]⟩) Post s₁:=by
  have Z : Z0 ⟨p,w,fun _=>z_zip,s₁.heap,FA1 ++ [sa]⟩ K xs sa:=⟨⟨kin,⟨mg,g⟩,⟨mb,b,hb⟩,lim,ns.mods.elim fun m z=>z.1.elim fun o q=>q.elim fun es q=>q.elim fun ep q=>⟨o,q.1⟩,dct⟩,hW,rfl,us,L,I⟩
  have ak : AOk callerA 102:=⟨rfl,by decide +kernel,by decide +kernel⟩
  have T:=law_ok Z hx callerA [] s₁ (.ref 770) [.ref sa] ak ⟨fun a o e=>e,rfl,.nil,fun _ m=>(nomatch m),fun i a o e=>(hget_no e).elim⟩ rfl (Cx.Vs.cons (show LocR (FA1 ++ [sa]) 7 (.ref sa) from .mk sa rfl) Cx.Vs.nil)
  refine codeAny_mono T fun r s' q=>?_
  obtain ⟨u,rfl,ρ',R,V,W⟩:=q
  obtain rfl : u = .bool true:=V
  exact k s' R.keep (by have:=W.M; cases this; assumption) W.M.g
theorem well_list {P : Params} {h : Heap} {v : Value} {d : WData} (W : Well P h v d) : ∀ {ds : List WData},d = .list ds → ∃ a us,v = .ref a ∧ h.get? a = some { cls:=.type "list",data:=.seq us.toArray } ∧ WellAll P h us ds:=by
  cases W <;> intro ds e <;> first | (cases e; done) | (cases e; rename_i h1 h2; exact ⟨_,_,rfl,h2,h1⟩) | (cases e; rename_i h1 h2; exact ⟨_,_,rfl,h1,h2⟩)
theorem well_int {P : Params} {h : Heap} {v : Value} {d : WData} (W : Well P h v d) : ∀ {i : Int},d = .int i → ∃ t,v = .int i t:=by
  cases W <;> intro i e <;> first | (cases e; done) | (cases e; exact ⟨_,rfl⟩)
theorem well_ints {P : Params} {h : Heap} : ∀ {xs : List Int} {us : List Value},WellAll P h us (ofPys (xs.map PyData.int)) → IntL xs us
  | [],us,W=>by
    cases W
    exact .nil
  | i :: xs,us,W=>by
    have W : WellAll P h us (.int i :: ofPys (xs.map PyData.int)):=W
    cases W with
    | cons h1 h2=>
      obtain ⟨t,rfl⟩:=well_int h1 rfl
      exact .cons i t (well_ints h2)
theorem well_arg {P : Params} {h : Heap} {xs : List Int} {vals : List Value} (W : WellAll P h vals [ofPy (.list (xs.map PyData.int))]) : ∃ sa us,vals = [.ref sa] ∧ h.PlainList sa us.toArray ∧ IntL xs us:=by
  have W : WellAll P h vals [.list (ofPys (xs.map PyData.int))]:=W
  cases W with
  | cons h1 h2=>
    cases h2
    obtain ⟨a,us,rfl,e,q⟩:=well_list h1 rfl
    exact ⟨a,us,rfl,⟨_,e⟩,well_ints q⟩
noncomputable def nsOf (K : Frag) (x : Str) : Option Value:=match K.lookup mainGlobals with
  | some ⟨_,_,.dict es _,_⟩=>nsFind es x
  | _=>none
theorem glob_at {K : Frag} {h : Heap} {mg : Str → Option Value} {x : Str} {v : Value} (X : K.In h) (hg : h.Ns mainGlobals mg) (e : nsOf K x = some v) : mg x = some v:=by
  unfold nsOf at e
  split at e
  · rename_i cl dd es n sl e0
    obtain ⟨o,es',ep,e1,e2,_,e3⟩:=hg
    have:=Option.some.inj ((X _ _ e0).symm.trans e1)
    subst this
    injection e2 with e2 _
    subst e2
    exact (e3 x).symm.trans e
  · cases e
theorem useK {K : Frag} {h : Heap} {w : World} {C : Prop} (X : K.In h) (a : nsOf K (Str.ofString "law") = some (.ref 770)) (b : ∀ ρ,worldB K (FA1 ++ ρ) = true) (d : ∀ a ∈ FA1,DctH w K a) (k : nsOf K (Str.ofString "law") = some (.ref 770) → (∀ ρ,worldB K (FA1 ++ ρ) = true) → (∀ a ∈ FA1,DctH w K a) → C) : C:=k a b d
end Mine
open PySem PySem.W PyProof.Rows
set_option Elab.async true
set_option maxHeartbeats 0
namespace Mine.hd
def tw6818987989461384207:=True
def tw17087091549796120035:=True
def tw15616948245753086127:=True
def tw13047593935725612058:=True
def tw8587404781116728655:=True
def tw13293453174229064190:=True
def tw7519716089354478335:=True
def tw14892549342360969540:=True
def tw978945382295711627:=True
def tw7523672394736509286:=True
def tw11034497122203965937:=True
def tw5367187694478559379:=True
def tw5961118342813265553:=True
def tw9641152695372364146:=True
def tw18185175575083235020:=True
def tw17325209927041812611:=True
def tw11128854368766332075:=True
def tw12591134339009171964:=True
def tw4138081844389336918:=True
def tw17076082267592564974:=True
def tw10426915916009045701:=True
def tw4377701919642642989:=True
def tw8068729725432388964:=True
def tw9577689765879766989:=True
def tw10216474801634566288:=True
def tw4091639524402994376:=True
def tw5148922909946612681:=True
def tw12414669353804360901:=True
def tw5781342201191254626:=True
def tw17711083657039698284:=True
def tw5732804406350252772:=True
def tw14620637471214046174:=True
def tw4126306136578151734:=True
def tw14176624398918483544:=True
def tw15043168886218598503:=True
def tw2859021708956892586:=True
def tw15179676742415161110:=True
def tw10752148897807903841:=True
def tw6990203504111849199:=True
def tw16649331688326792143:=True
def tw11652457597714270106:=True
def tw3259873300814134281:=True
def tw960944832710211464:=True
def tw697623264460660564:=True
def tw7793673504863384051:=True
def tw17312999752573914782:=True
def tw3513125359445811510:=True
def tw13372043803930879067:=True
def tw4856431653887292112:=True
def tw3953601041324332601:=True
def tw10456316707723869470:=True
def tw2216850387143573719:=True
def tw8684328023851190084:=True
def tw10543509907540572799:=True
def tw12769127236821124696:=True
def tw15427206886491885616:=True
def tw7752569895197466512:=True
def tw10507497572311344420:=True
def tw18322514126500204803:=True
def tw6838551448383532254:=True
def tw461538923250603899:=True
def tw18241275227582772068:=True
def tw5592360268479517082:=True
def tw17471934795394947791:=True
def tw9077708301081682751:=True
def tw13994979335412520660:=True
def tw1847840615245081061:=True
def tw13066319289922817542:=True
def tw17772917993097084435:=True
def tw8047900516022102942:=True
def tw368366308016060594:=True
def tw8671608845466749128:=True
def tw14896477498954680388:=True
def tw8343274005884668182:=True
def tw6998783941825042932:=True
def tw8801323125487838256:=True
def tw9087110039335098043:=True
def tw16772102934027710169:=True
def tw12936449754285732098:=True
def tw13330244855972007585:=True
def tw17599816209265215132:=True
def tw2114630138375439770:=True
def tw10012880186880212623:=True
def tw7752767780024739350:=True
def tw17583924267553061668:=True
def tw12092154237167983948:=True
def tw732345407407602841:=True
def tw8053944837975664402:=True
def tw6528754448969337418:=True
def tw9073681462420916055:=True
def tw16357263729072622229:=True
def tw5373601922739893978:=True
def tw17447410573909459338:=True
def tw7540655947842036084:=True
def tw7854228177987924090:=True
def tw14353793391729792155:=True
def tw4014540891139286612:=True
def tw7080932558258925280:=True
def tw7354087734392854552:=True
def tw8015326511298524721:=True
def tw12588582704262371052:=True
def tw5282504435634884242:=True
def tw11893437276241958245:=True
def tw11953376511379268794:=True
def tw1382963296337349011:=True
def tw3182187488490625086:=True
def tw18300207936620678264:=True
def tw15368132723985388332:=True
def tw13518370688599389936:=True
def tw13342606739435360313:=True
def tw11249132867342737325:=True
def tw5363564295841288755:=True
def tw5562173858411828344:=True
def tw2167537188350426706:=True
def tw13919464512627920130:=True
def tw5278057926702712004:=True
def tw13903934854276604550:=True
def tw6423634429210846174:=True
def tw12131494931117144662:=True
def tw3915529967508079626:=True
def tw6545403380812914513:=True
def tw4817003022231809500:=True
def tw6482722132109649516:=True
def tw3480954088277226078:=True
def tw14006173549557618073:=True
def tw16502264421070913907:=True
def tw526207354791536317:=True
def tw9271970288684553227:=True
def tw13609717118414637909:=True
def tw8081886968326746073:=True
def tw6636792957720756321:=True
def tw525622484199402719:=True
def tw12173100003817136821:=True
def tw11631869004601391166:=True
def tw4115565904173853331:=True
def tw13566260322249332789:=True
def tw8326128118092456544:=True
def tw6761669909254768831:=True
def tw10111801491309104144:=True
def tw6982297934935202809:=True
def tw5715356086224469760:=True
def tw7721951785955056133:=True
def tw14294001040229213422:=True
def tw13280443560766958183:=True
def tw10525666975642140466:=True
def tw8493152586797012548:=True
def tw2502866573005156581:=True
def tw12901994302517312135:=True
def tw6819123309680001836:=True
def tw1299046323782801668:=True
def tw5987830557187376847:=True
def tw17901334829092211166:=True
def tw2195365466389143174:=True
def tw1208734638264122097:=True
def tw7628703163842673926:=True
def tw16037735763661986305:=True
def tw6598312636042714100:=True
def tw10914352517091768544:=True
def tw5873113503399164460:=True
def tw1088296927520436173:=True
def tw1865391376527767206:=True
def tw5513025101015932971:=True
def tw17088047866570459193:=True
def tw16155205043701107222:=True
def tw11399449904127653305:=True
def tw8117029840178788049:=True
def tw8545014587354053640:=True
def tw9427301549700849589:=True
def tw9421340871869096474:=True
def tw7610815399733428385:=True
def tw1882180444382439491:=True
def tw16053994301053490033:=True
def tw701787995468756871:=True
def tw7914949630228597729:=True
def tw12050417470231563642:=True
def tw7676003278276379012:=True
def tw4292457097857839397:=True
def tw11672842613191775419:=True
def tw3922637787740509324:=True
def tw10844753989422098599:=True
def tw190519026028168232:=True
def tw16056359734778111409:=True
def tw9277588360372424766:=True
def tw15463257786427224491:=True
def tw17047115858639842297:=True
def tw17420951861521290806:=True
def tw6060742912462422084:=True
def tw2457190517430149469:=True
def tw1118553966540926140:=True
def tw9783614193127449063:=True
def tw8965841893048198262:=True
def tw5635641802508607975:=True
def tw2217418542073675381:=True
def tw8977307856219701671:=True
def tw14060154772996877548:=True
def tw8191903926673212241:=True
def tw8727321023445011275:=True
def tw9244321171653502345:=True
def tw2274498078352570744:=True
def tw4993660671451451078:=True
def tw8538877666451538035:=True
def tw3085183777334472315:=True
def tw2134215046882385847:=True
def tw5318216170032084099:=True
def tw1129884963351977449:=True
def tw17628472586750557451:=True
def tw5716766192118558609:=True
def tw1563692795949630186:=True
def tw7085514621470718492:=True
def tw16006246977917349235:=True
def tw6830512106363814048:=True
def tw13855946660403688772:=True
def tw5245234834050458271:=True
def tw7541792107247259296:=True
def tw10258999931320997221:=True
def tw10170382586518783626:=True
def tw2284436838669742495:=True
def tw15166520500009309586:=True
def tw8351282476255451920:=True
def tw17574625026820762457:=True
def tw16794629799341752650:=True
def tw11011131195910976488:=True
def tw16412773359747925120:=True
def tw3434918251397683217:=True
def tw10403243965636340961:=True
def tw4225703048834024713:=True
def tw9557236495431379559:=True
def tw4172343393113369950:=True
def tw7366208706002141716:=True
def tw4015398097383911347:=True
def tw12393119488966705847:=True
def tw16945582573551092051:=True
def tw1425423193147277237:=True
def tw3828038474966422129:=True
def tw9430268157657104642:=True
def tw18433733373944582078:=True
def tw10098268173465320503:=True
def tw8004679753235328684:=True
def tw881544763273948857:=True
def tw12058812876911547015:=True
def tw17130151131035750659:=True
def tw16853341256802265648:=True
def tw13217225542625558698:=True
def tw2595994805191909183:=True
def tw9386895884608548742:=True
def tw11213053971927718326:=True
def tw9325612240067072397:=True
def tw1588505670450824345:=True
def tw15527848837575444561:=True
def tw14768889098011018680:=True
def tw13638418597567726942:=True
def tw14772383043592177042:=True
def tw17986969038992634876:=True
def tw13828106393651249627:=True
def tw17588044629489971554:=True
def tw6906073325868019850:=True
def tw10727248033764811480:=True
def tw2000490053193787569:=True
def tw16473244170626142550:=True
def tw4851647983119433812:=True
def tw226724450230711188:=True
def tw6186238094035137676:=True
def tw10743916045514856203:=True
def tw16138627921320673191:=True
def tw10784824025267889561:=True
def tw14705683404202351889:=True
def tw3404104791013757517:=True
def tw15508949281206285077:=True
def tw2304311442786299043:=True
def tw4272726840584523970:=True
def tw12487502673411948298:=True
def tw3109861748172591687:=True
def tw16257038226119295666:=True
def tw16828841361933241965:=True
def tw15595854959937240912:=True
def tw12319353311459017080:=True
def tw15083628210047938546:=True
def tw6196171512934965099:=True
def tw17950676927832955104:=True
def tw13642289790063256904:=True
def tw6898005170327248138:=True
def tw10458740792067480800:=True
def tw128412058910260475:=True
def tw3219085151875037572:=True
def tw1506431575118746342:=True
def tw17183224562656869120:=True
def tw13866372431405929976:=True
def tw15833661619300960221:=True
def tw12112201142124510154:=True
def tw8044012406986999415:=True
def tw11375277706881905925:=True
def tw12394076208661396346:=True
def tw13038990169509382042:=True
def tw17213754286329925777:=True
def tw4643362625855044894:=True
def tw16091413853298234908:=True
def tw2781682124601125471:=True
def tw13931416462566266981:=True
def tw10090067676359358454:=True
def tw262745018181394680:=True
def tw4282304852377368616:=True
def tw970711260570483912:=True
def tw9013056391748086436:=True
def tw6820862383352777685:=True
def tw402640490398009360:=True
def tw14991384322417631237:=True
def tw2951005344575393816:=True
def tw8716120427605611371:=True
def tw15837987909243819085:=True
def tw8960069828448710407:=True
def tw7120233287515763914:=True
def tw12364972598781006883:=True
def tw6882427118574961969:=True
def tw15642763164714097627:=True
def tw2845679848157327705:=True
def tw6276725880618359904:=True
def tw991583007596301734:=True
def tw15279998641719260112:=True
def tw17989097746536338734:=True
def tw5505005885091257285:=True
def tw18293851220164018083:=True
def tw3789350110615891812:=True
def tw10788059911547816233:=True
def tw4478166936697009375:=True
def tw15048261121198461528:=True
def tw17491280204586788870:=True
def tw1589133516308662214:=True
def tw15643275761693703936:=True
def tw10781468475247234061:=True
def tw13431754692932380062:=True
def tw5433107678231618845:=True
def tw11852641145169952659:=True
def tw13092906067662860646:=True
def tw5174551420813472067:=True
def tw15675198926951892251:=True
def tw1610171440888473627:=True
def tw9170477692918782315:=True
def tw4478177076189095293:=True
def tw1535757262459896012:=True
def tw6136932545381038964:=True
def tw15967140613478806237:=True
def tw16194383521188589630:=True
def tw1699103778626983548:=True
def tw432457690288141553:=True
def tw189712035060473897:=True
def tw11210553801493137410:=True
def tw13220430256171166289:=True
def tw17387473266821786944:=True
def tw17438259276822278317:=True
def tw3706650247557058162:=True
def tw6123773746684550334:=True
def tw7068711184596962023:=True
def tw13285133528070534704:=True
def tw1413172679324656950:=True
def tw663384727985864361:=True
def tw13160604113216922460:=True
def tw9719896912496429819:=True
def tw9908193460736022307:=True
def tw442638132926106271:=True
def tw16919406825032445293:=True
def tw825126770350376351:=True
def tw11713075325732132258:=True
def tw8210421348078903774:=True
def tw9731375825926819010:=True
def tw14567429538950270057:=True
def tw10583446816852156582:=True
def tw2295870552580634182:=True
def tw6957150274394394060:=True
def tw8879563391730754479:=True
def tw250903467453971090:=True
def tw8268277133935991078:=True
def tw14955159897011116063:=True
def tw8242931771332617035:=True
def tw3419581819265744254:=True
def tw10024716035694756283:=True
def tw3941438180925939637:=True
def tw15758074444808864293:=True
def tw10246146449241189800:=True
def tw5167245352685981253:=True
def tw11364443708160879001:=True
def tw5505332120971382143:=True
def tw7512474625130614241:=True
def tw16259696140248634718:=True
def tw12590977762386282803:=True
def tw15089522573102190283:=True
def tw11917015161858427179:=True
def tw7382370116671421104:=True
def tw9748044761591592747:=True
def tw10292235466723388172:=True
def tw18166333605607142505:=True
def tw11513968764499736323:=True
def tw212345690472687942:=True
def tw16299908979028503884:=True
def tw1359830224848277088:=True
def tw12744807935193187038:=True
def tw11079593142295127227:=True
def tw11631947586910100387:=True
def tw2327210489368252092:=True
def tw2386827423013361158:=True
def tw3966326544868389200:=True
def tw6627881031435992008:=True
def tw16634568088961857937:=True
def tw7379015992945566340:=True
def tw5388632664720090651:=True
def tw5629675986466331604:=True
def tw6164396464334811476:=True
def tw18245042118932799458:=True
def tw8770659054964912022:=True
def tw10919297434634762262:=True
def tw2315301623876862497:=True
def tw10847404155465417027:=True
def tw9702936160620672325:=True
def tw14438451200097066615:=True
def tw15615537253650120727:=True
def tw15199589371867527261:=True
def tw6469175993241445255:=True
def tw7598622570094877466:=True
def tw7579377964693751086:=True
def tw15207398651663016943:=True
def tw8934143017859847078:=True
def tw12575139184659369484:=True
def tw6184208073178115725:=True
def tw15422856539912107476:=True
def tw11814627755841444246:=True
def tw3350930974749635488:=True
def tw464777395874653626:=True
def tw1836080755315867724:=True
def tw1013155817946168525:=True
def tw17330945745186091897:=True
def tw14137390275340422267:=True
def tw1409312971732116557:=True
def tw14120982254508448379:=True
def tw1011335219593555734:=True
def tw5292301768408028288:=True
def tw16367509166517325345:=True
def tw5899666649113621702:=True
def tw6683769817339685419:=True
def tw1954109241102656831:=True
def tw5367627127759910665:=True
def tw8609351116199087170:=True
def tw6965799899956892507:=True
def tw18093812233618175256:=True
def tw12399718760709695909:=True
def tw13409441903868389331:=True
def tw9763420282994701918:=True
def tw4360684699965382250:=True
def tw17893044597097874663:=True
def tw13267510147771200024:=True
def tw11032806212648032379:=True
def tw15042006015671813226:=True
def tw8112040973832200146:=True
def tw15910714762333108613:=True
def tw257007361410690125:=True
def tw16640546478005224243:=True
def tw8312999807965096350:=True
def tw17491317419825422843:=True
def tw16694946328126371552:=True
def tw17552017554478351026:=True
def tw17681399029576232318:=True
def tw9132557439983319658:=True
def tw2040990291671593033:=True
def tw8959176491354863721:=True
def tw12940713784782232206:=True
def tw2930668341846507884:=True
def tw8619052571933068949:=True
def tw13277076834127875243:=True
def tw13783031573616600631:=True
def tw15220180469806662145:=True
def tw3484992998616243462:=True
def tw7023726343779634624:=True
def tw1331086792558400476:=True
def tw5511420028821071320:=True
def tw16178712458983371728:=True
def tw7152984921513172624:=True
def tw13315533130655954831:=True
def tw7270182246851987180:=True
def tw3309697970292668127:=True
def tw12614811148066621264:=True
def tw13289513938125300765:=True
def tw12127338746724423809:=True
def tw6140570298594658328:=True
def tw9741134391959003819:=True
def tw9496365245306024149:=True
def tw15992342658441690333:=True
def tw14553816603554493358:=True
def tw5009564483982726761:=True
def tw4383666589626881386:=True
def tw17234923516513369237:=True
def tw10949625832625181284:=True
def tw11709330566771433103:=True
def tw2480057099694739299:=True
def tw15813434630575017362:=True
def tw5976792059365374437:=True
def tw16722109127936396110:=True
def tw3940546777539579641:=True
def tw12070654863422294720:=True
def tw5657824000916062451:=True
def tw9406673726873002282:=True
def tw11402939732021071671:=True
def tw16713699803418581334:=True
def tw6411954120941647267:=True
def tw2001351230973187099:=True
def tw9131607905817354932:=True
def tw922143313871775805:=True
def tw10792051664901133789:=True
def tw11663481321943121269:=True
def tw15416985209724490359:=True
def tw6308581086252854402:=True
def tw3442329435671937591:=True
def tw10117440562283002822:=True
def tw12070051907170230399:=True
def tw12952509933414984302:=True
def tw11256106856564762260:=True
def tw9499510787657705874:=True
def tw11232374478483605306:=True
def tw17562767543260142214:=True
def tw7261450039545342454:=True
def tw6038821095411175016:=True
def tw9990345226319884068:=True
def tw10860895700388868024:=True
def tw7317836474542784337:=True
def tw9345676750909349944:=True
def tw11587034568685482758:=True
def tw2603259988358896889:=True
def tw14029546391885035639:=True
def tw2999033326186475339:=True
def tw8664936974563722654:=True
def tw7369741819223213686:=True
def tw185848376630758926:=True
def tw17843490464661113860:=True
def tw17714235663813219645:=True
def tw5366084841770067474:=True
def tw14745743045033390146:=True
def tw4315991029959535628:=True
def tw10614716105012338702:=True
def tw4021928978595405253:=True
def tw9960721518486171458:=True
def tw1005483496087919985:=True
def tw7153062008950511462:=True
def tw1097998534492414930:=True
def tw10465514089279642386:=True
def tw16007149819294483003:=True
def tw5036846961687405229:=True
def tw8134915037123179040:=True
def tw2855845756224970109:=True
def tw17903497710992402801:=True
def tw9345929723534960622:=True
def tw14462709497994964445:=True
def tw3919010098100093602:=True
def tw1997569388931296116:=True
def tw6449127861642672459:=True
def tw326636678423571210:=True
def tw17054507655720011243:=True
def tw5416991563250132298:=True
def tw11389486352061984695:=True
def tw561391293025646643:=True
def tw3008623586974134963:=True
def tw519851828213033955:=True
def tw9617658007855726926:=True
def tw10491609206876299696:=True
def tw4819202231147424091:=True
def tw17975533764899295144:=True
def tw6804821044290156842:=True
def tw9330943631129107780:=True
def tw13321331477185743149:=True
def tw9184186324627900627:=True
def tw13363553139645760527:=True
def tw8244733829118024811:=True
def tw13122850982685727845:=True
def tw17336936450418997793:=True
def tw1848646778235469078:=True
def tw6759412095888398321:=True
def tw15213948185873263833:=True
def tw8458067239894703972:=True
def tw8226494294326810461:=True
def tw11251137523995926341:=True
def tw16858285156579221889:=True
def tw13770079208771991547:=True
def tw11319892378374348655:=True
def tw3452082135128663414:=True
def tw728884934406724761:=True
def tw12611767792052310623:=True
def tw15687388767607454252:=True
def tw17606422857730326317:=True
def tw16684818696116721337:=True
def tw9555612238305686254:=True
def tw7492773218913965947:=True
def tw3196399650302076718:=True
def tw13368278939475635651:=True
def tw11465210709893060100:=True
def tw17330132731328240911:=True
def tw18358800413957953924:=True
def tw9459050058782445324:=True
def tw3451239065008710300:=True
def tw15344866539931968096:=True
def tw18291419657060728153:=True
def tw11319097763535126812:=True
def tw10738003575532504788:=True
def tw15759970867653108152:=True
def tw6407587892757256292:=True
def tw8184699220007379433:=True
def tw15411387601460861337:=True
def tw4086058157674990017:=True
def tw12239354291974867115:=True
def tw17429513623812275283:=True
def tw7494724483528729301:=True
def tw242841246431481386:=True
def tw13132618709999183898:=True
def tw4159134105002834734:=True
def tw4363365295628954845:=True
def tw9228397985900620932:=True
def tw7031273417212677730:=True
def tw9673543361469618366:=True
def tw8457440626546761165:=True
def tw6082411064634330575:=True
def tw8269573656231971908:=True
def tw2799067240506288376:=True
def tw9566141503761928105:=True
def tw16157073509204512506:=True
def tw13531707123254989501:=True
def tw14984183105004643987:=True
def tw3571134770919094901:=True
def tw15529170255622000948:=True
def tw4642405928176397000:=True
def tw15946388913382835224:=True
def tw13181700845877081190:=True
def tw16345102440705955213:=True
def tw12647368939536790636:=True
def tw16240987189780228909:=True
def tw1197925565968671727:=True
def tw15673258824015622330:=True
def tw11968265576560266318:=True
def tw17925215291927510665:=True
def tw11754176132448286083:=True
def tw3493717111155160527:=True
def tw12994019391074448376:=True
def tw2783992281797965187:=True
def tw15578025631644234493:=True
def tw3795277891434052102:=True
def tw6291416237084387574:=True
def tw18176940659606848779:=True
def tw18268791191939849864:=True
def tw6868836192036940282:=True
def tw11801993109049149486:=True
def tw5549315172176941698:=True
def tw13365295217650922812:=True
def tw8683856772340465682:=True
def tw1603739661141634737:=True
def tw7534799579077118603:=True
def tw6547078798241139092:=True
def tw18163647496604598072:=True
def tw9533747618267967006:=True
def tw13475242022060392486:=True
def tw7355570028127101125:=True
def tw3694398316872202419:=True
def tw6767318904944593275:=True
def tw10601615944963115059:=True
def tw7296583596125217682:=True
def tw10678649693572172417:=True
def tw12268275109542032366:=True
def tw14478148883734587675:=True
def tw2608437505485318709:=True
def tw8381844023166312768:=True
def tw541196102884509978:=True
def tw3646829019195819677:=True
def tw18264374347568628810:=True
def tw4971549296188076032:=True
def tw17177331786930743035:=True
def tw758273949599710562:=True
def tw7289634563603522867:=True
def tw1792636949448641307:=True
def tw17542962492245011380:=True
def tw14612060388864693735:=True
def tw17252143746492648416:=True
def tw17377529257436501650:=True
def tw12459740579856956213:=True
def tw6219127543313455271:=True
def tw17001982702790524580:=True
def tw13217827037086042188:=True
def tw6184460063843016694:=True
def tw14457593812595234344:=True
def tw12693339787485243540:=True
def tw5343241284826551009:=True
def tw12870888531099404533:=True
def tw15610959940260225430:=True
def tw2323474266016966308:=True
def tw11162318198679636149:=True
def tw2658526732547218105:=True
def tw3673020696563887462:=True
def tw6264232113106981867:=True
def tw940617070666608080:=True
def tw15367242080415987702:=True
def tw11136197038861592535:=True
def tw7191455744419660376:=True
def tw6442067068224118133:=True
def tw1379335367625716243:=True
def tw16477043939570097188:=True
def tw16171809288044610508:=True
def tw15615420239508185596:=True
def tw3229955645248102723:=True
def tw10603584201595350602:=True
def tw15948780112781908787:=True
def tw14980023328507725902:=True
def tw8317466277049474617:=True
def tw12602439190401603521:=True
def tw9449672872311958731:=True
def tw11151547217846952531:=True
def tw2887051446865420828:=True
def tw10806950440038215891:=True
def tw11905163887095721015:=True
def tw2068664650715991707:=True
def tw4788038989552484473:=True
def tw1241404454085649124:=True
def tw2329189449893159454:=True
def tw14060237666301923597:=True
def tw2788664435532181463:=True
def tw13532847315355080253:=True
def tw5190246844813560578:=True
def tw14439243815434019604:=True
def tw14492701947808656938:=True
def tw14852329139284432860:=True
def tw7372000682148998216:=True
def tw14103535550066685397:=True
def tw8356816923877370021:=True
def tw12066061910607089961:=True
def tw26425463804135960:=True
def tw3350844169311001129:=True
def tw17902569758825723728:=True
def tw4297731678662094536:=True
def tw12629568148972539762:=True
def tw6755925336976613232:=True
def tw5283464899586487735:=True
def tw876933089483189297:=True
def tw7028611270464810887:=True
def tw16011055738799735888:=True
def tw1194904439430580092:=True
def tw12279228133920021341:=True
def tw10264135568141901301:=True
def tw17070941380808615275:=True
def tw12113243949977362033:=True
def tw9153386212771759811:=True
def tw8228950375871286339:=True
def tw12832683148521936107:=True
def tw1043307727769730188:=True
def tw10879034167726328663:=True
def tw6578402527460240241:=True
def tw16064382804478563927:=True
def tw14667805832236412624:=True
def tw6615107907471364465:=True
def tw6394381022753523788:=True
def tw17062030032774818151:=True
def tw12337632362937886050:=True
def tw11283319371284918911:=True
def tw3947710232987724695:=True
def tw6305734824756694309:=True
def tw2252305205657439004:=True
def tw7526368328331116154:=True
def tw10424393626065333798:=True
def tw1439246655266547700:=True
def tw6438293893037913957:=True
def tw5486487638281291605:=True
def tw3429492842335990350:=True
def tw12023040214023829324:=True
def tw8759174875632975099:=True
end Mine.hd
namespace Mine
theorem hd : PySem.Challenge.rw_sf0047_01.Holds := by
  (w_on; o_law; k_head; (case hw => w_witness2); skip)
  intro w s₀ s₁ mg mb G Y fa o pm cd doc dV kV ho hd hcd hD hmg hg args vals as hpre hlay hrd hwl hlo
  have KX := kIn_of Y
  refine Ground.open G ?_
  intro T B D TE TW
  have hsh := (pre_splitW hpre).1
  have hcond := (pre_splitW hpre).2
  clear ho hd hcd hD G Y
  wrow_hasAll hsh hlay
  rename_i xs hs1 hs2 hs3 hs4 hs5
  obtain ⟨sa, us, rfl, L, I⟩ := well_arg hwl
  refine useK KX (w := w) (by kernel_rfl) (fun ρ => by kernel_rfl) (dct_all (by unfold DctH; kernel_rfl) (by unfold DctH; kernel_rfl) (by unfold DctH; kernel_rfl) (by unfold DctH; kernel_rfl) (by unfold DctH; kernel_rfl) (by unfold DctH; kernel_rfl) (by unfold DctH; kernel_rfl)) ?_
  intro el hw hdc
  have ef : mg (Str.ofString "law") = some (.ref 770) := glob_at KX T.g el
  obtain rfl : fa = 770 := by
    have := (show some (Value.ref 770) = some (.ref fa) from ef.symm.trans hmg)
    injection this with this
    injection this with this
    exact this.symm
  clear hmg ef hwl hrd
  have ns : s₁.heap.NoSeer := T.seer (by kernel_rfl)
  w_cond hcond
  refine enter_call (law_run KX T.g T.b T.builtins T.nolimit ns hdc hw L I (by omega) fun s' k1 k2 k3 => ⟨.inl ⟨.bool true, .bool true, [], rfl, fun _ => rfl, .bool true, by kernel_rfl, fun _ => ⟨.nil, fun _ m => (nomatch m)⟩⟩, .of_keep k1, k2, .of_eq (k3.trans hg)⟩)
end Mine
set_option maxRecDepth 100000 in
set_option maxHeartbeats 8000000 in
theorem PySem.Challenge.cw_sf0047_01_holds : PySem.Challenge.rw_sf0047_01.Holds :=
  Mine.hd
