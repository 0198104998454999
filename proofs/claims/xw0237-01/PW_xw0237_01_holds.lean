import PyProof.Rows.All
import Wide.All
import OpenK.AllK
import Wide.FinOn
import PyProof.TableCode
import Lean
import PySem.Challenge.RW_xw0237_01
set_option maxRecDepth 100000
set_option Elab.async false
set_option linter.all false
theorem Mine.sj.{u} {α:Type u} {a b:α} (h:some a=some b):a=b:=Option.some.inj h
set_option genInjectivity false
set_option genSizeOf false
section
set_option genInjectivity true
open PySem PySem.W PyProof.Rows
namespace Mine
set_option genCtorIdx false in
inductive Val where
 | none
 | bool (b:Bool)
 | int (i:Int)
 | str (l:List Nat)
 | bytes (l:List UInt8)
 | tuple (l:List Val)
 | list (l:List Val)
 | barr (l:List UInt8)
 | obj (k:Nat)
set_option genCtorIdx false in
inductive LV where
 | val (v:Val)
 | olist (l:List Val)
 | obarr (l:List UInt8)
set_option genCtorIdx false in
inductive SObj where
 | inst (c:Nat) (fs:List (Nat×LV))
 | slist (l:List Val)
structure St where
 vars:List (Option LV)
 store:List SObj
 ro:Bool:=false
inductive BI where
 | len | ord | chr | bytes | barr0 | isInt | isStr | isBytes | tuple | bool | max2 | min3 | int
set_option genCtorIdx false in
set_option genInjectivity false in
set_option genSizeOf false in
mutual
inductive ME where
 | const (v:Val)
 | var (i:Nat)
 | bin (op:Operator) (a b:ME)
 | neg (a:ME)
 | not (a:ME)
 | and (a b:ME)
 | or (a b:ME)
 | cmp (op:CmpOp) (a b:ME)
 | cmp2 (op1 op2:CmpOp) (a b c:ME)
 | ite (c a b:ME)
 | sub (a i:ME)
 | slc (a lo hi:ME)
 | subF (i f:Nat) (k:Int)
 | subS (i:Nat) (k:Int)
 | slcF (i f:Nat) (k:Int)
 | lenF (i f:Nat)
 | truF (i f:Nat)
 | attr (a:ME) (f:Nat)
 | call (j:Nat) (args:MEs)
 | callP (j:Nat) (args:MEs)
 | meth (a:ME) (j:Nat) (args:MEs)
 | new (c:Nat) (args:MEs)
 | bi (b:BI) (args:MEs)
 | join (a:ME)
 | rstrip (a:ME)
 | list (es:MEs)
 | tuple (es:MEs)
 | comp (elt:ME) (tg:List Nat) (it:IT) (cnd:ME)
 | share (e:ME)
inductive MEs where
 | nil
 | cons (e:ME) (r:MEs)
inductive IT where
 | rng (es:MEs)
 | ex (e:ME)
 | fld (i f:Nat)
end
set_option genCtorIdx false in
set_option genInjectivity false in
set_option genSizeOf false in
mutual
inductive MS where
 | assign (i:Nat) (e:ME)
 | assignT (is:List Nat) (e:ME)
 | setAttr (i f:Nat) (e:ME)
 | setItem (i:Nat) (k:Int) (e:ME)
 | aug (i:Nat) (op:Operator) (e:ME)
 | augAttr (i f:Nat) (op:Operator) (e:ME)
 | append (i:Nat) (e:ME)
 | extend (i:Nat) (e:ME)
 | reverse (i:Nat)
 | fappend (i f:Nat) (e:ME)
 | expr (e:ME)
 | ret (e:ME)
 | ite (c:ME) (a b:MSs)
 | whl (c:ME) (b:MSs)
 | for_ (tg:List Nat) (it:IT) (b:MSs)
 | stuck
inductive MSs where
 | nil
 | cons (s:MS) (r:MSs)
end
set_option genCtorIdx false in
inductive Fl where
 | next
 | ret (r:LV)
noncomputable def LV.frz:LV→Val
 | .val v=>v
 | .olist l=>.list l
 | .obarr l=>.barr l
noncomputable def okLen (n:Nat):Bool:=Nat.ble n 1000000
noncomputable def truth:Val→Option Bool
 | .none=>some false
 | .bool b=>some b
 | .int i=>some (i != 0)
 | .list l=>if okLen l.length then some (!l.isEmpty) else none
 | _=>none
noncomputable def small:Int→Bool
 | .ofNat n=>Nat.ble n 9223372036854775807
 | .negSucc n=>Nat.ble n 9223372036854775806
noncomputable def intOp (op:Operator) (a b:Int):Option LV:=match op with
 | .Add=>some (.val (.int (a + b)))
 | .Sub=>some (.val (.int (a - b)))
 | .Mult=>if small b then some (.val (.int (a * b))) else none
 | .FloorDiv=>if b≠0∧b.natAbs < 1073741824 then some (.val (.int (Int.fdiv a b))) else none
 | .Mod=>if b=0 then none else some (.val (.int (Int.fmod a b)))
 | .Pow=>if small a && decide (0≤b) && decide (b≤64) then some (.val (.int (a ^ b.toNat))) else none
 | .RShift=>if 0≤b then some (.val (.int (Int.fdiv a (2 ^ b.toNat)))) else none
 | .LShift=>if small a && decide (0≤b) && decide (b≤64) then some (.val (.int (a * 2 ^ b.toNat))) else none
 | .BitAnd=>some (.val (.int (Builtin.bitAnd a b)))
 | .BitOr=>some (.val (.int (Builtin.bitOr a b)))
 | _=>none
noncomputable def isAdd:Operator→Bool
 | .Add=>true
 | _=>false
noncomputable def binop (op:Operator) (x y:Val):Option LV:=match x with
 | .int a=>(match y with
  | .int b=>intOp op a b
  | _=>none)
 | .list a=>(match y with
  | .list b=>(match isAdd op with
   | true=>if okLen (a.length + b.length) then some (.olist (a ++ b)) else none
   | false=>none)
  | _=>none)
 | .bytes a=>(match y with
  | .bytes b=>(match isAdd op with
   | true=>if okLen (a.length + b.length) then some (.val (.bytes (a ++ b))) else none
   | false=>none)
  | _=>none)
 | _=>none
noncomputable def andO:Option Bool→Option Bool→Option Bool
 | some x,some y=>some (x && y)
 | _,_=>none
mutual
noncomputable def veq:Val→Val→Option Bool
 | .none,y=>(match y with
  | .none=>some true
  | _=>none)
 | .bool a,y=>(match y with
  | .bool b=>some (a == b)
  | _=>none)
 | .int a,y=>(match y with
  | .int b=>some (decide (a=b))
  | _=>none)
 | .str a,y=>(match y with
  | .str b=>some (decide (a=b))
  | _=>none)
 | .bytes a,y=>(match y with
  | .bytes b=>some (decide (a=b))
  | _=>none)
 | .tuple a,y=>(match y with
  | .tuple b=>veqs a b
  | _=>none)
 | .list a,y=>(match y with
  | .list b=>veqs a b
  | _=>none)
 | .barr _,_=>none
 | .obj _,_=>none
noncomputable def veqs:List Val→List Val→Option Bool
 | [],[]=>some true
 | [],_ :: _=>some false
 | _ :: _,[]=>some false
 | a :: r,b :: t=>andO (veq a b) (veqs r t)
end
noncomputable def vshal:Nat→Val→Bool
 | 0,.tuple _=>false
 | 0,.list _=>false
 | n + 1,.tuple l=>l.all (vshal n)
 | n + 1,.list l=>l.all (vshal n)
 | _,_=>true
noncomputable def strLt (a b:List Nat):Bool:=decide (a < b)
noncomputable def bytesLt (a b:List UInt8):Bool:=Builtin.Bytes.order a b == .lt
noncomputable def intO:Val→Option Int
 | .int a=>some a
 | _=>none
noncomputable def bytesO:Val→Option (List UInt8)
 | .bytes a=>some a
 | _=>none
noncomputable def two {α β:Type} (f:Val→Option α) (g:Val→Option β):List Val→Option (α×β)
 | [x,y]=>(match f x with
  | some a=>(match g y with
   | some b=>some (a,b)
   | none=>none)
  | none=>none)
 | _=>none
noncomputable def ltP (p:List UInt8×Int) (q:List UInt8×Int):Option Bool:=if p.1=q.1 then (if p.2=q.2 then none else some (decide (p.2 < q.2))) else some (bytesLt p.1 q.1)
noncomputable def ltV (x y:Val):Option Bool:=match x with
 | .int a=>(match y with
  | .int b=>some (decide (a < b))
  | _=>none)
 | .str a=>(match y with
  | .str b=>some (strLt a b)
  | _=>none)
 | .bytes a=>(match y with
  | .bytes b=>some (bytesLt a b)
  | _=>none)
 | .tuple a=>(match y with
  | .tuple b=>(match two bytesO intO a with
   | some p=>(match two bytesO intO b with
    | some q=>ltP p q
    | none=>none)
   | none=>none)
  | _=>none)
 | _=>none
noncomputable def leV (x y:Val):Option Bool:=match x with
 | .int a=>(match y with
  | .int b=>some (decide (a≤b))
  | _=>none)
 | .str a=>(match y with
  | .str b=>some (!strLt b a)
  | _=>none)
 | _=>none
noncomputable def intC (f:Int→Int→Bool) (x y:Val):Option Bool:=match x with
 | .int a=>(match y with
  | .int b=>some (f a b)
  | _=>none)
 | _=>none
noncomputable def inV (x y:Val):Option Bool:=match x with
 | .int a=>(match y with
  | .tuple l=>(match two intO intO l with
   | some p=>some (decide (a=p.1) || decide (a=p.2))
   | none=>none)
  | _=>none)
 | _=>none
noncomputable def isN (x y:Val):Option Bool:=match y with
 | .none=>(match x with
  | .none=>some true
  | .int _=>some false
  | .str _=>some false
  | .bytes _=>some false
  | .tuple _=>some false
  | _=>none)
 | _=>none
noncomputable def isNN (x y:Val):Option Bool:=match y with
 | .none=>(match x with
  | .none=>some false
  | .int _=>some true
  | .tuple _=>some true
  | _=>none)
 | _=>none
noncomputable def cmpop (op:CmpOp) (x y:Val):Option Bool:=match op with
 | .Eq=>if vshal 20 x then veq x y else none
 | .NotEq=>if vshal 20 x then (veq x y).map (!·) else none
 | .Lt=>ltV x y
 | .LtE=>leV x y
 | .Gt=>intC (λa b=>decide (b < a)) x y
 | .GtE=>intC (λa b=>decide (b≤a)) x y
 | .In=>inV x y
 | .Is=>isN x y
 | .IsNot=>isNN x y
 | _=>none
noncomputable def place (i:Int) (n:Nat):Option Nat :=
 if small i then seqIndex? i n else none
noncomputable def subI (v:Val) (i:Int):Option Val:=match v with
 | .list l=>(place i l.length).bind (l[·]?)
 | .tuple l=>(place i l.length).bind (l[·]?)
 | .bytes l=>(place i l.length).bind λk=>(l[k]?).map λx=>.int (x.toNat:Int)
 | .str l=>(place i l.length).bind λk=>(l[k]?).map λx=>.str [x]
 | _=>none
noncomputable def subv (v i:Val):Option Val:=match i with
 | .int i=>subI v i
 | _=>none
noncomputable def bnd:Val→Option (Option Int)
 | .none=>some none
 | .int i=>some (some i)
 | _=>none
noncomputable def cutL {α:Type} (l:List α) (lo hi:Option Int):List α:=(l.drop (lo.elim 0 (clipAt l.length))).take (hi.elim l.length (clipAt l.length) - lo.elim 0 (clipAt l.length))
noncomputable def slcv (v lo hi:Val):Option LV:=match v with
 | .list l=>if okLen l.length then (bnd lo).bind λa=>(bnd hi).map λb=>.olist (cutL l a b) else none
 | .bytes l=>if okLen l.length then (bnd lo).bind λa=>(bnd hi).map λb=>.val (.bytes (cutL l a b)) else none
 | .str l=>(match lo with
  | .none=>(match hi with
   | .int b=>if 0≤b∧b.toNat≤l.length∧okLen l.length then some (.val (.str (l.take b.toNat))) else none
   | _=>none)
  | _=>none)
 | _=>none
noncomputable def ints?:List Val→Option (List UInt8)
 | []=>some []
 | .int i :: r=>if 0≤i∧i < 256 then (ints? r).map (UInt8.ofNat i.toNat :: ·) else none
 | _ :: _=>none
noncomputable def strs?:List Val→Option (List Nat)
 | []=>some []
 | .str l :: r=>(strs? r).map (l ++ ·)
 | _ :: _=>none
noncomputable def ordV:List Nat→Option LV
 | [c]=>some (.val (.int c))
 | _=>none
noncomputable def isiV (v:Val) (a b c:Bool):Option LV:=match v with
 | .none=>some (.val (.bool false))
 | .int _=>some (.val (.bool a))
 | .str _=>some (.val (.bool b))
 | .bytes _=>some (.val (.bool c))
 | _=>none
noncomputable def bi1 (b:BI) (v:Val):Option LV:=match b with
 | .len=>(match v with
  | .str l=>if okLen l.length then some (.val (.int (l.length:Nat))) else none
  | .bytes l=>if okLen l.length then some (.val (.int (l.length:Nat))) else none
  | .barr l=>if okLen l.length then some (.val (.int (l.length:Nat))) else none
  | .list l=>if okLen l.length then some (.val (.int (l.length:Nat))) else none
  | .tuple l=>if okLen l.length then some (.val (.int (l.length:Nat))) else none
  | _=>none)
 | .ord=>(match v with
  | .str l=>ordV l
  | _=>none)
 | .chr=>(match v with
  | .int i=>if 0≤i∧i < 55296 then some (.val (.str [i.toNat])) else none
  | _=>none)
 | .bytes=>(match v with
  | .bytes l=>some (.val (.bytes l))
  | .barr l=>if okLen l.length then some (.val (.bytes l)) else none
  | .list l=>if okLen l.length then (ints? l).map λx=>.val (.bytes x) else none
  | _=>none)
 | .isInt=>isiV v true false false
 | .isStr=>isiV v false true false
 | .isBytes=>isiV v false false true
 | .tuple=>(match v with
  | .list l=>if okLen l.length then some (.val (.tuple l)) else none
  | _=>none)
 | .bool=>(match v with
  | .bool b=>some (.val (.bool b))
  | _=>none)
 | .int=>(match v with
  | .int a=>some (.val (.int a))
  | .bool b=>some (.val (.int (if b then 1 else 0)))
  | _=>none)
 | _=>none
noncomputable def bi2 (b:BI) (p:Option Int) (q:Option Int):Option LV:=match b with
 | .max2=>(match p with
  | some a=>(match q with
   | some b=>some (.val (.int (if a < b then b else a)))
   | none=>none)
  | none=>none)
 | _=>none
noncomputable def bi3 (b:BI) (p:Option Int) (q:Option Int) (r:Option Int):Option LV:=match b with
 | .min3=>(match p with
  | some a=>(match q with
   | some b=>(match r with
    | some c=>some (.val (.int (let m:=if b < a then b else a; if c < m then c else m)))
    | none=>none)
   | none=>none)
  | none=>none)
 | _=>none
noncomputable def bi0:BI→Option LV
 | .barr0=>some (.obarr [])
 | _=>none
noncomputable def biop (b:BI) (vs:List Val):Option LV:=match vs with
 | []=>bi0 b
 | [v]=>bi1 b v
 | [v,w]=>bi2 b (intO v) (intO w)
 | [u,v,w]=>bi3 b (intO u) (intO v) (intO w)
 | _=>none
noncomputable def rstripB:List Nat→List Nat
 | []=>[]
 | c :: r=>match rstripB r with
  | []=>if c=32 then [] else [c]
  | l=>c :: l
noncomputable def items?:Val→Option (List Val)
 | .list l=>some l
 | .tuple l=>some l
 | .str l=>some (l.map λc=>.str [c])
 | .bytes l=>some (l.map λb=>.int (b.toNat:Int))
 | .barr l=>some (l.map λb=>.int (b.toNat:Int))
 | _=>none
noncomputable def rngFrom (a:Int):Nat→List Val
 | 0=>[]
 | n + 1=>.int a :: rngFrom (a + 1) n
noncomputable def mid:Int→Bool
 | .ofNat n=>Nat.ble n 1152921504606846975
 | .negSucc n=>Nat.ble n 1152921504606846974
noncomputable def rng1 (n:Int):Option (List Val):=if mid n then some (rngFrom 0 n.toNat) else none
noncomputable def rng2 (a b:Int):Option (List Val):=if mid a && mid b then some (rngFrom a (b - a).toNat) else none
noncomputable def rng3 (a b c:Int):Option (List Val):=if c=2 then (if mid a && mid b then some ((List.range ((b - a).toNat / 2 + (b - a).toNat % 2)).map λ(k:Nat)=>.int (a + (k:Int) * 2)) else none) else none
noncomputable def range? (vs:List Val):Option (List Val):=match vs with
 | [x]=>(intO x).bind rng1
 | [x,y]=>(intO x).bind λa=>(intO y).bind λb=>rng2 a b
 | [x,y,z]=>(intO x).bind λa=>(intO y).bind λb=>(intO z).bind λc=>rng3 a b c
 | _=>none
@[reducible] noncomputable def LV.ctorIdx (x:LV):Nat:=LV.casesOn (motive:=λ_=>Nat) x (λ_=>0) (λ_=>1) (λ_=>2)
@[reducible] noncomputable def SObj.ctorIdx (x:SObj):Nat:=SObj.casesOn (motive:=λ_=>Nat) x (λ_ _=>0) (λ_=>1)
noncomputable def St.set (σ:St) (i:Nat) (x:LV):St:={ σ with vars:=σ.vars.set i (some x) }
noncomputable def gv:List (Option LV)→Nat→Option LV
 | [],_=>none
 | x :: _,0=>x
 | _ :: l,i + 1=>gv l i
noncomputable def St.get (σ:St) (i:Nat):Option LV:=gv σ.vars i
noncomputable def fget:List (Nat×LV)→Nat→Option LV
 | [],_=>none
 | (g,x) :: r,f=>if g=f then some x else fget r f
noncomputable def fset:List (Nat×LV)→Nat→LV→List (Nat×LV)
 | [],f,y=>[(f,y)]
 | (g,x) :: r,f,y=>if g=f then (g,y) :: r else (g,x) :: fset r f y
noncomputable def St.sto (σ:St) (k:Nat):Option SObj:=if σ.ro then none else σ.store[k]?
noncomputable def St.field (σ:St) (k f:Nat):Option LV:=match σ.sto k with
 | some (.inst _ fs)=>fget fs f
 | _=>none
noncomputable def St.putField (σ:St) (k f:Nat) (x:LV):Option St:=match σ.sto k with
 | some (.inst c fs)=>some { σ with store:=σ.store.set k (.inst c (fset fs f x)) }
 | _=>none
noncomputable def readVar (i:Nat) (σ:St):Option (Val×St):=match σ.get i with
 | some (.val v)=>some (v,σ)
 | some x=>some (x.frz,σ.set i (.val x.frz))
 | none=>none
noncomputable def readField (k f:Nat) (σ:St):Option (Val×St):=match σ.field k f with
 | some (.val v)=>some (v,σ)
 | some x=>(σ.putField k f (.val x.frz)).map λσ'=>(x.frz,σ')
 | none=>none
noncomputable def lookField (i f:Nat) (σ:St):Option LV:=match σ.get i with
 | some (.val (.obj k))=>σ.field k f
 | _=>none
noncomputable def listOf?:LV→Option (List Val)
 | .val (.list l)=>some l
 | .olist l=>some l
 | _=>none
noncomputable def bindT:List Nat→List Val→St→Option St
 | [],[],σ=>some σ
 | i :: is,v :: vs,σ=>bindT is vs (σ.set i (.val v))
 | _,_,_=>none
noncomputable def bindTg (tg:List Nat) (v:Val) (σ:St):Option St:=match tg with
 | [i]=>some (σ.set i (.val v))
 | _=>match v with
  | .tuple l=>if l.length=tg.length then bindT tg l σ else none
  | _=>none
noncomputable def unset (is:List Nat) (vs:List (Option LV)):List (Option LV):=is.foldl (λvs i=>vs.set i none) vs
noncomputable abbrev CF:=Nat→List Val→Bool→List SObj→Option (LV×List SObj)
structure Tabs where
 cls:Nat→Option Nat   -- function -> the class that it is a method of
 init:Nat→Option Nat  -- class -> its __init__
noncomputable def compGo (step:Val→St→Option (List Val×St)):List Val→St→Option (List Val×St)
 | [],σ=>some ([],σ)
 | x :: r,σ=>match step x σ with
  | some (a,σ1)=>match compGo step r σ1 with
   | some (b,σ2)=>some (a ++ b,σ2)
   | none=>none
  | none=>none
noncomputable def pb {α β γ:Type} (r:Option (α×β)) (f:α→β→Option γ):Option γ:=r.bind λp=>f p.1 p.2
noncomputable def objO:LV→Option Nat
 | .val (.obj k)=>some k
 | _=>none
noncomputable def intL:LV→Option Int
 | .val (.int k)=>some k
 | _=>none
noncomputable def olO:LV→Option (List Val)
 | .olist l=>some l
 | _=>none
noncomputable def obO:LV→Option (List UInt8)
 | .obarr l=>some l
 | _=>none
noncomputable def tuO:LV→Option (List Val)
 | .val (.tuple l)=>some l
 | _=>none
noncomputable def insO:SObj→Option (Nat×List (Nat×LV))
 | .inst c fs=>some (c,fs)
 | _=>none
noncomputable def slO:SObj→Option (List Val)
 | .slist l=>some l
 | _=>none
noncomputable def compStep (tg:List Nat) (c e:St→Option (LV×St)) (x:Val) (σ:St):Option (List Val×St) :=
 (bindTg tg x σ).bind λσa=>pb (c σa) λy σb=>(truth y.frz).bind λt=>cond t (pb (e σb) λz σc=>some ([z.frz],σc)) (some ([],σb))
noncomputable def pr (o:Option LV) (σ:St):Option (LV×St):=o.bind λz=>some (z,σ)
noncomputable def rv (o:Option LV) (i:Nat) (σ:St):Option (LV×St):=match o with
 | some (.val v)=>some (.val v,σ)
 | some x=>some (.val x.frz,σ.set i (.val x.frz))
 | none=>none
noncomputable def k1 (r:Option (LV×St)) (f:LV→Option LV):Option (LV×St):=pb r λx σ=>pr (f x) σ
noncomputable def k2b (x:LV) (r:Option (LV×St)) (f:Val→Val→Option LV):Option (LV×St):=pb r λy σ=>pr (f x.frz y.frz) σ
noncomputable def k2 (r:Option (LV×St)) (e:St→Option (LV×St)) (f:Val→Val→Option LV):Option (LV×St):=pb r λx σ=>k2b x (e σ) f
noncomputable def ng (x:LV):Option LV:=(intL x).bind λi=>some (.val (.int (-i)))
noncomputable def ntB (o:Option Bool):Option LV:=o.bind λb=>some (.val (.bool (!b)))
noncomputable def nt (x:LV):Option LV:=ntB (truth x.frz)
noncomputable def bB (o:Option Bool):Option LV:=o.bind λb=>some (.val (.bool b))
noncomputable def vV (o:Option Val):Option LV:=o.bind λb=>some (.val b)
noncomputable def co (op:CmpOp) (x y:Val):Option LV:=bB (cmpop op x y)
noncomputable def sbv (x y:Val):Option LV:=vV (subv x y)
noncomputable def kandB (o:Option Bool) (x:LV) (σ:St) (e:St→Option (LV×St)):Option (LV×St):=o.bind λt=>cond t (e σ) (some (.val x.frz,σ))
noncomputable def kand (r:Option (LV×St)) (e:St→Option (LV×St)):Option (LV×St):=pb r λx σ=>kandB (truth x.frz) x σ e
noncomputable def korB (o:Option Bool) (x:LV) (σ:St) (e:St→Option (LV×St)):Option (LV×St):=o.bind λt=>cond t (some (.val x.frz,σ)) (e σ)
noncomputable def kor (r:Option (LV×St)) (e:St→Option (LV×St)):Option (LV×St):=pb r λx σ=>korB (truth x.frz) x σ e
noncomputable def kiteB {α:Type} (o:Option Bool) (σ:St) (a b:St→Option α):Option α:=o.bind λt=>cond t (a σ) (b σ)
noncomputable def kite {α:Type} (r:Option (LV×St)) (a b:St→Option α):Option α:=pb r λx σ=>kiteB (truth x.frz) σ a b
noncomputable def kc2c (o:Option Bool) (y:LV) (σ:St) (e:St→Option (LV×St)) (op:CmpOp):Option (LV×St):=o.bind λt=>cond t (k2b y (e σ) (co op)) (some (.val (.bool false),σ))
noncomputable def kc2b (x:LV) (r:Option (LV×St)) (e:St→Option (LV×St)) (op1 op2:CmpOp):Option (LV×St):=pb r λy σ=>kc2c (cmpop op1 x.frz y.frz) y σ e op2
noncomputable def kc2 (r:Option (LV×St)) (b c:St→Option (LV×St)) (op1 op2:CmpOp):Option (LV×St):=pb r λx σ=>kc2b x (b σ) c op1 op2
noncomputable def k3c (x y:LV) (r:Option (LV×St)):Option (LV×St):=pb r λz σ=>pr (slcv x.frz y.frz z.frz) σ
noncomputable def k3b (x:LV) (r:Option (LV×St)) (c:St→Option (LV×St)):Option (LV×St):=pb r λy σ=>k3c x y (c σ)
noncomputable def k3 (r:Option (LV×St)) (b c:St→Option (LV×St)):Option (LV×St):=pb r λx σ=>k3b x (b σ) c
noncomputable def kl (o:Option (List Val)) (σ:St) (f:List Val→Option LV):Option (LV×St):=o.bind λl=>pr (f l) σ
noncomputable def sfF (k:Int) (l:List Val):Option LV:=vV (subv (.list l) (.int k))
noncomputable def slF (k:Int) (l:List Val):Option LV:=slcv (.list l) (.int k) .none
noncomputable def leF (l:List Val):Option LV:=if okLen l.length then some (.val (.int (l.length:Nat))) else none
noncomputable def trF (l:List Val):Option LV:=if okLen l.length then some (.val (.bool (!l.isEmpty))) else none
noncomputable def sl? (o:Option SObj):Option (List Val):=o.bind slO
noncomputable def ksub (v:Option LV) (σ:St) (k:Int):Option (LV×St):=v.bind λx=>(objO x).bind λo=>kl (sl? (σ.sto o)) σ (sfF k)
noncomputable def mkv (x:LV) (o:Option St):Option (LV×St):=o.bind λσ=>some (x,σ)
noncomputable def rf (o:Option LV) (k f:Nat) (σ:St):Option (LV×St):=match o with
 | some (.val v)=>some (.val v,σ)
 | some x=>mkv (.val x.frz) (σ.putField k f (.val x.frz))
 | none=>none
noncomputable def kattr (r:Option (LV×St)) (f:Nat):Option (LV×St):=pb r λx σ=>(objO x).bind λk=>rf (σ.field k f) k f σ
noncomputable def kcf (o:Option (LV×List SObj)) (σ:St):Option (LV×St):=pb o λr st=>some (r,⟨σ.vars,st,σ.ro⟩)
noncomputable def kcall (r:Option (List Val×St)) (cf:CF) (j:Nat) (c:Option Nat):Option (LV×St):=pb r λvs σ=>cond c.isNone (kcf (cf j vs σ.ro σ.store) σ) none
noncomputable def kcp (o:Option (LV×List SObj)) (σ:St):Option (LV×St):=pb o λr st=>if st.length=σ.store.length then some (r,σ) else none
noncomputable def kcallP (r:Option (List Val×St)) (cf:CF) (j:Nat) (c:Option Nat):Option (LV×St):=pb r λvs σ=>cond c.isNone (kcp (cf j vs true σ.store) σ) none
noncomputable def kmethC (k:Nat) (r:Option (List Val×St)) (cf:CF) (j:Nat):Option (LV×St):=pb r λvs σ=>kcf (cf j (.obj k :: vs) σ.ro σ.store) σ
noncomputable def kmethB (k:Nat) (o:Option SObj) (c:Option Nat) (σ:St) (es:St→Option (List Val×St)) (cf:CF) (j:Nat):Option (LV×St):=o.bind λs=>pb (insO s) λd _=>c.bind λc'=>if d=c' then kmethC k (es σ) cf j else none
noncomputable def kmeth (r:Option (LV×St)) (es:St→Option (List Val×St)) (cf:CF) (j:Nat) (c:Option Nat):Option (LV×St):=pb r λx σ=>(objO x).bind λk=>kmethB k (σ.sto k) c σ es cf j
noncomputable def isNV:LV→Bool
 | .val .none=>true
 | _=>false
noncomputable def knewB (σ:St) (o:Option (LV×List SObj)):Option (LV×St):=pb o λx st=>cond (isNV x) (some (.val (.obj σ.store.length),⟨σ.vars,st,σ.ro⟩)) none
noncomputable def knew (r:Option (List Val×St)) (c:Nat) (i:Option Nat) (cf:CF):Option (LV×St):=pb r λvs σ=>i.bind λj=>cond σ.ro none (knewB σ (cf j (.obj σ.store.length :: vs) false (σ.store ++ [.inst c []])))
noncomputable def kes (r:Option (List Val×St)) (f:List Val→Option LV):Option (LV×St):=pb r λvs σ=>pr (f vs) σ
noncomputable def jnV:Val→Option LV
 | .list l=>(strs? l).bind λr=>if okLen l.length && okLen r.length then some (.val (.str r)) else none
 | _=>none
noncomputable def jn (x:LV):Option LV:=jnV x.frz
noncomputable def rsV:LV→Option LV
 | .val (.str l)=>if okLen l.length then some (.val (.str (rstripB l))) else none
 | _=>none
noncomputable def lsV (vs:List Val):Option LV:=if okLen vs.length then some (.olist vs) else none
noncomputable def tpV (vs:List Val):Option LV:=if okLen vs.length then some (.val (.tuple vs)) else none
noncomputable def kcompB (tg:List Nat) (o:Option (List Val×St)):Option (LV×St):=pb o λys σ2=>some (.olist ys,⟨unset tg σ2.vars,σ2.store,σ2.ro⟩)
noncomputable def kcomp (r:Option (List Val×St)) (tg:List Nat) (f:Val→St→Option (List Val×St)):Option (LV×St):=pb r λxs σ=>if okLen xs.length then kcompB tg (compGo f xs σ) else none
noncomputable def kcompFB (tg:List Nat) (σ:St) (o:Option (List Val×St)):Option (LV×St):=pb o λys σ2=>if σ2.store.length=σ.store.length then some (.olist ys,⟨unset tg σ2.vars,σ.store,σ.ro⟩) else none
noncomputable def kcompF (o:Option (List Val)) (σ:St) (tg:List Nat) (f:Val→St→Option (List Val×St)):Option (LV×St):=o.bind λxs=>if okLen xs.length then kcompFB tg σ (compGo f xs ⟨σ.vars,σ.store,true⟩) else none
noncomputable def kshare (r:Option (LV×St)):Option (LV×St):=pb r λx σ=>(olO x).bind λl=>cond σ.ro none (some (.val (.obj σ.store.length),⟨σ.vars,σ.store ++ [.slist l],σ.ro⟩))
noncomputable def kconsB (x:LV) (r:Option (List Val×St)):Option (List Val×St):=pb r λxs σ=>some (x.frz :: xs,σ)
noncomputable def kcons (r:Option (LV×St)) (es:St→Option (List Val×St)):Option (List Val×St):=pb r λx σ=>kconsB x (es σ)
noncomputable def lI (o:Option (List Val)) (σ:St):Option (List Val×St):=o.bind λl=>some (l,σ)
noncomputable def kit (r:Option (LV×St)):Option (List Val×St):=pb r λx σ=>lI (items? x.frz) σ
noncomputable def krng (r:Option (List Val×St)):Option (List Val×St):=pb r λvs σ=>lI (range? vs) σ
noncomputable def fieldB (o:Option SObj) (f:Nat):Option LV:=match o with
 | some (.inst _ fs)=>fget fs f
 | _=>none
noncomputable def putB (σ:St) (k:Nat) (o:Option SObj) (f:Nat) (x:LV):Option St:=match o with
 | some (.inst c fs)=>some ⟨σ.vars,σ.store.set k (.inst c (fset fs f x)),σ.ro⟩
 | _=>none
noncomputable def lookB (o:Option LV) (f:Nat) (σ:St):Option LV:=match o with
 | some (.val (.obj k))=>σ.field k f
 | _=>none
noncomputable def sq (r:Option (Fl×St)) (k:St→Option (Fl×St)):Option (Fl×St):=match r with
 | some (.next,σ)=>k σ
 | q=>q
noncomputable def ka (r:Option (LV×St)) (f:LV→St→Option (Fl×St)):Option (Fl×St):=pb r f
noncomputable def nx (o:Option St):Option (Fl×St):=o.bind λσ=>some (.next,σ)
noncomputable def sA (i:Nat) (x:LV) (σ:St):Option (Fl×St):=some (.next,σ.set i x)
noncomputable def sT (is:List Nat) (x:LV) (σ:St):Option (Fl×St):=(tuO x).bind λl=>if l.length=is.length then nx (bindT is l σ) else none
noncomputable def sFB (o:Option LV) (f:Nat) (x:LV) (σ:St):Option (Fl×St):=o.bind λy=>(objO y).bind λk=>nx (σ.putField k f x)
noncomputable def sF (i f:Nat) (x:LV) (σ:St):Option (Fl×St):=sFB (σ.get i) f x σ
noncomputable def sIC (p:Option Nat) (o:Nat) (l:List Val) (x:LV) (σ:St):Option (Fl×St):=p.bind λp=>some (.next,⟨σ.vars,σ.store.set o (.slist (l.set p x.frz)),σ.ro⟩)
noncomputable def sIB (o:Option LV) (k:Int) (x:LV) (σ:St):Option (Fl×St):=o.bind λy=>(objO y).bind λo=>(σ.sto o).bind λs=>(slO s).bind λl=>sIC (place k l.length) o l x σ
noncomputable def sI (i:Nat) (k:Int) (x:LV) (σ:St):Option (Fl×St):=sIB (σ.get i) k x σ
noncomputable def kb (r:Option LV) (i:Nat) (σ:St):Option (Fl×St):=r.bind λx=>some (.next,σ.set i x)
noncomputable def sU (i:Nat) (op:Operator) (x:LV) (y:LV) (σ:St):Option (Fl×St):=(intL x).bind λa=>(intL y).bind λb=>kb (binop op (.int a) (.int b)) i σ
noncomputable def kaug (r:Option (LV×St)) (e:St→Option (LV×St)) (i:Nat) (op:Operator):Option (Fl×St):=pb r λx σ=>ka (e σ) (sU i op x)
noncomputable def kpf (r:Option LV) (k f:Nat) (σ:St):Option (Fl×St):=r.bind λr=>nx (σ.putField k f r)
noncomputable def sUA (k f:Nat) (op:Operator) (a:Int) (y:LV) (σ:St):Option (Fl×St):=(intL y).bind λb=>kpf (binop op (.int a) (.int b)) k f σ
noncomputable def kaugAB (o:Option LV) (k f:Nat) (op:Operator) (e:St→Option (LV×St)) (σ:St):Option (Fl×St):=o.bind λy=>(intL y).bind λa=>ka (e σ) (sUA k f op a)
noncomputable def kaugA (o:Option LV) (f:Nat) (op:Operator) (e:St→Option (LV×St)) (σ:St):Option (Fl×St):=o.bind λy=>(objO y).bind λk=>kaugAB (σ.field k f) k f op e σ
noncomputable def apL (o:Option LV) (i:Nat) (x:LV) (σ:St):Option (Fl×St):=o.bind λy=>(olO y).bind λl=>if okLen l.length then some (.next,σ.set i (.olist (l ++ [x.frz]))) else none
noncomputable def sAp (i:Nat) (x:LV) (σ:St):Option (Fl×St):=apL (σ.get i) i x σ
noncomputable def apB (o:Option LV) (i:Nat) (n:Int) (σ:St):Option (Fl×St):=o.bind λy=>(obO y).bind λl=>if 0≤n∧n < 256∧okLen l.length then some (.next,σ.set i (.obarr (l ++ [UInt8.ofNat n.toNat]))) else none
noncomputable def sApB (i:Nat) (x:LV) (σ:St):Option (Fl×St):=(intL x).bind λn=>apB (σ.get i) i n σ
noncomputable def kap (o:Option LV) (i:Nat) (e:St→Option (LV×St)) (σ:St):Option (Fl×St):=match o with
 | some (.olist _)=>ka (e σ) (sAp i)
 | some (.obarr _)=>ka (e σ) (sApB i)
 | _=>none
noncomputable def octO:Val→Option (List UInt8)
 | .bytes b=>some b
 | .barr b=>some b
 | _=>none
noncomputable def exB (o:Option LV) (x:Val) (i:Nat) (σ:St):Option (Fl×St):=o.bind λy=>(obO y).bind λl=>(octO x).bind λb=>if okLen (l.length + b.length) then some (.next,σ.set i (.obarr (l ++ b))) else none
noncomputable def sEx (i:Nat) (x:LV) (σ:St):Option (Fl×St):=exB (σ.get i) x.frz i σ
noncomputable def kex (o:Option LV) (i:Nat) (e:St→Option (LV×St)) (σ:St):Option (Fl×St):=o.bind λy=>(obO y).bind λ_=>ka (e σ) (sEx i)
noncomputable def rvs (o:Option LV) (i:Nat) (σ:St):Option (Fl×St):=o.bind λy=>(olO y).bind λl=>if okLen l.length then some (.next,σ.set i (.olist l.reverse)) else none
noncomputable def faC (o:Option LV) (k f:Nat) (x:LV) (σ:St):Option (Fl×St):=o.bind λy=>(olO y).bind λl'=>if okLen l'.length then nx (σ.putField k f (.olist (l' ++ [x.frz]))) else none
noncomputable def sFa (k f:Nat) (x:LV) (σ:St):Option (Fl×St):=faC (σ.field k f) k f x σ
noncomputable def faB (o:Option LV) (k f:Nat) (e:St→Option (LV×St)) (σ:St):Option (Fl×St):=o.bind λy=>(olO y).bind λ_=>ka (e σ) (sFa k f)
noncomputable def kfa (o:Option LV) (f:Nat) (e:St→Option (LV×St)) (σ:St):Option (Fl×St):=o.bind λy=>(objO y).bind λk=>faB (σ.field k f) k f e σ
noncomputable def sE (x:LV) (σ:St):Option (Fl×St):=match x with
 | .val .none=>some (.next,σ)
 | .val (.bool _)=>some (.next,σ)
 | _=>none
noncomputable def sR (x:LV) (σ:St):Option (Fl×St):=some (.ret x,σ)
noncomputable def stpB (o:Option St) (k:St→Option (Fl×St)):Option (Fl×St):=o.bind k
noncomputable def stp (tg:List Nat) (k:St→Option (Fl×St)) (x:Val) (σ:St):Option (Fl×St):=stpB (bindTg tg x σ) k
noncomputable def forGo (f:Val→St→Option (Fl×St)):List Val→St→Option (Fl×St)
 | [],σ=>some (.next,σ)
 | x :: r,σ=>sq (f x σ) (λσ=>forGo f r σ)
noncomputable def kfor (r:Option (List Val×St)) (f:Val→St→Option (Fl×St)):Option (Fl×St):=pb r λxs σ=>forGo f xs σ
noncomputable def whlB (b w:St→Option (Fl×St)) (σ:St):Option (Fl×St):=sq (b σ) w
noncomputable def nxt (σ:St):Option (Fl×St):=some (.next,σ)
noncomputable def whlGo (c:St→Option (LV×St)) (b:St→Option (Fl×St)):Nat→St→Option (Fl×St)
 | 0,_=>none
 | n + 1,σ=>kite (c σ) (whlB b (λσ=>whlGo c b n σ)) nxt
noncomputable def fldOf:IT→Option (Nat×Nat)
 | .fld i f=>some (i,f)
 | _=>none
noncomputable def kcompA (o:Option (Nat×Nat)) (r:Option (List Val×St)) (σ:St) (tg:List Nat) (g:Val→St→Option (List Val×St)):Option (LV×St):=match o with
 | some (i,f)=>kcompF ((lookField i f σ).bind listOf?) σ tg g
 | none=>kcomp r tg g
section
variable (T:Tabs) (cf:CF)
mutual
noncomputable def evE:ME→St→Option (LV×St)
 | .const v,σ=>some (.val v,σ)
 | .var i,σ=>rv (σ.get i) i σ
 | .bin op a b,σ=>k2 (evE a σ) (λσ=>evE b σ) (binop op)
 | .neg a,σ=>k1 (evE a σ) ng
 | .not a,σ=>k1 (evE a σ) nt
 | .and a b,σ=>kand (evE a σ) (λσ=>evE b σ)
 | .or a b,σ=>kor (evE a σ) (λσ=>evE b σ)
 | .cmp op a b,σ=>k2 (evE a σ) (λσ=>evE b σ) (co op)
 | .cmp2 op1 op2 a b c,σ=>kc2 (evE a σ) (λσ=>evE b σ) (λσ=>evE c σ) op1 op2
 | .ite c a b,σ=>kite (evE c σ) (λσ=>evE a σ) (λσ=>evE b σ)
 | .sub a b,σ=>k2 (evE a σ) (λσ=>evE b σ) sbv
 | .slc a b c,σ=>k3 (evE a σ) (λσ=>evE b σ) (λσ=>evE c σ)
 | .subF i f k,σ=>kl ((lookField i f σ).bind listOf?) σ (sfF k)
 | .subS i k,σ=>ksub (σ.get i) σ k
 | .slcF i f k,σ=>kl ((lookField i f σ).bind listOf?) σ (slF k)
 | .lenF i f,σ=>kl ((lookField i f σ).bind listOf?) σ leF
 | .truF i f,σ=>kl ((lookField i f σ).bind listOf?) σ trF
 | .attr a f,σ=>kattr (evE a σ) f
 | .call j es,σ=>kcall (evEs es σ) cf j (T.cls j)
 | .callP j es,σ=>kcallP (evEs es σ) cf j (T.cls j)
 | .meth a j es,σ=>kmeth (evE a σ) (λσ=>evEs es σ) cf j (T.cls j)
 | .new c es,σ=>knew (evEs es σ) c (T.init c) cf
 | .bi b es,σ=>kes (evEs es σ) (biop b)
 | .join a,σ=>k1 (evE a σ) jn
 | .rstrip a,σ=>k1 (evE a σ) rsV
 | .list es,σ=>kes (evEs es σ) lsV
 | .tuple es,σ=>kes (evEs es σ) tpV
 | .share e,σ=>kshare (evE e σ)
 | .comp elt tg im cnd,σ=>kcompA (fldOf im) (evI im σ) σ tg (compStep tg (λσ=>evE cnd σ) (λσ=>evE elt σ))
noncomputable def evEs:MEs→St→Option (List Val×St)
 | .nil,σ=>some ([],σ)
 | .cons e r,σ=>kcons (evE e σ) (λσ=>evEs r σ)
noncomputable def evI:IT→St→Option (List Val×St)
 | .rng es,σ=>krng (evEs es σ)
 | .ex e,σ=>kit (evE e σ)
 | .fld _ _,_=>none
end
end
section
variable (T:Tabs) (cf:CF)
mutual
noncomputable def exS:MS→St→Option (Fl×St)
 | .assign i e,σ=>ka (evE T cf e σ) (sA i)
 | .assignT is e,σ=>ka (evE T cf e σ) (sT is)
 | .setAttr i f e,σ=>ka (evE T cf e σ) (sF i f)
 | .setItem i k e,σ=>ka (evE T cf e σ) (sI i k)
 | .aug i op e,σ=>kaug (rv (σ.get i) i σ) (evE T cf e) i op
 | .augAttr i f op e,σ=>kaugA (σ.get i) f op (evE T cf e) σ
 | .append i e,σ=>kap (σ.get i) i (evE T cf e) σ
 | .extend i e,σ=>kex (σ.get i) i (evE T cf e) σ
 | .reverse i,σ=>rvs (σ.get i) i σ
 | .fappend i f e,σ=>kfa (σ.get i) f (evE T cf e) σ
 | .expr e,σ=>ka (evE T cf e σ) sE
 | .ret e,σ=>ka (evE T cf e σ) sR
 | .ite c a b,σ=>kite (evE T cf c σ) (λσ=>exSs a σ) (λσ=>exSs b σ)
 | .whl c b,σ=>whlGo (evE T cf c) (λσ=>exSs b σ) 200 σ
 | .for_ tg im b,σ=>kfor (evI T cf im σ) (stp tg (λσ=>exSs b σ))
 | .stuck,_=>none
noncomputable def exSs:MSs→St→Option (Fl×St)
 | .nil,σ=>some (.next,σ)
 | .cons s r,σ=>sq (exS s σ) (λσ=>exSs r σ)
end
end
structure Fn where
 cls:Option Nat
 np:Nat
 nv:Nat
 dflt:List Val
 body:MSs
noncomputable def padArgs (fn:Fn) (vs:List Val):List Val:=vs ++ fn.dflt.drop (vs.length - (fn.np - fn.dflt.length))
noncomputable def fin (ro:Bool) (r:Option (Fl×St)):Option (LV×List SObj):=match r with
 | some (.next,σ)=>if σ.ro=ro then some (.val .none,σ.store) else none
 | some (.ret r,σ)=>if σ.ro=ro then some (r,σ.store) else none
 | none=>none
noncomputable def callFn (T:Tabs) (cf:CF) (o:Option Fn) (vs:List Val) (ro:Bool) (st:List SObj):Option (LV×List SObj):=match o with
 | some fn=>if (padArgs fn vs).length=fn.np then fin ro (exSs T cf fn.body ⟨(padArgs fn vs).map (λv=>some (.val v)) ++ List.replicate (fn.nv - fn.np) none,st,ro⟩) else none
 | none=>none
noncomputable def callF (T:Tabs) (fns:Nat→Option Fn):Nat→CF
 | 0=>λ_ _ _ _=>none
 | n + 1=>λj vs ro st=>callFn T (callF T fns n) (fns j) vs ro st
@[reducible] noncomputable def Val.ctorIdx (x:Val):Nat:=Val.casesOn (motive_1:=λ_=>Nat) x 0 (λ_=>1) (λ_=>2) (λ_=>3) (λ_=>4) (λ_=>5) (λ_=>6) (λ_=>7) (λ_=>8)
end Mine
end
section
open PySem
namespace Mine
theorem nsm {α:Type} {r:α} {p:Prop} (h:none=some r):p:=nomatch h
theorem ite_some {α:Type} {c:Prop} [Decidable c] {x z:α} (e:(if c then some x else none)=some z):c∧z=x:=by
 by_cases h:c
 ·rw [if_pos h] at e; exact ⟨h,(sj e).symm⟩
 ·rw [if_neg h] at e; exact nsm e
theorem ite_some' {α:Type} {c:Prop} [Decidable c] {o:Option α} {z:α} (e:(if c then o else none)=some z):c∧o=some z:=by
 by_cases h:c
 ·rw [if_pos h] at e; exact ⟨h,e⟩
 ·rw [if_neg h] at e; exact nsm e
theorem si2 {α β:Type} {a c:α} {b d:β} (e:some (a,b)=some (c,d)):c=a∧d=b:=by
 injection e with e; injection e with e1 e2; exact ⟨e1.symm,e2.symm⟩
theorem small_eq (i:Int):small i=(decide (-(2 ^ 63:Int) < i) && decide (i < (2 ^ 63:Int))):=by
 rw [Bool.eq_iff_iff,Bool.and_eq_true,decide_eq_true_eq,decide_eq_true_eq]
 cases i with
 | ofNat n=>show Nat.ble n _=true↔_; rw [Nat.ble_eq]; simp only [Int.ofNat_eq_natCast]; omega
 | negSucc n=>show Nat.ble n _=true↔_; rw [Nat.ble_eq]; simp only [Int.negSucc_eq]; omega
theorem mid_eq (i:Int):mid i=(decide (-1152921504606846976 < i) && decide (i < 1152921504606846976)):=by
 rw [Bool.eq_iff_iff,Bool.and_eq_true,decide_eq_true_eq,decide_eq_true_eq]
 cases i with
 | ofNat n=>show Nat.ble n _=true↔_; rw [Nat.ble_eq]; simp only [Int.ofNat_eq_natCast]; omega
 | negSucc n=>show Nat.ble n _=true↔_; rw [Nat.ble_eq]; simp only [Int.negSucc_eq]; omega
theorem pair_inj {α β:Type} {a c:α} {b d:β} (e:(a,b)=(c,d)):a=c∧b=d:=by
 injection e with e1 e2; exact ⟨e1,e2⟩
theorem bn {α β:Type} {o:Option α} {f:α→Option β} {q:β} {PP:Prop} (h:o.bind f=some q) (kk:∀ a,o=some a→f a=some q→PP):PP:=by
 cases o with
 | none=>exact nsm h
 | some a=>exact kk a rfl h
theorem pb_e {α β γ:Type} {r:Option (α×β)} {f:α→β→Option γ} {q:γ} {PP:Prop} (h:pb r f=some q) (kk:∀ a b,r=some (a,b)→f a b=some q→PP):PP:=bn h λp h1 h2=>kk p.1 p.2 h1 h2
theorem cnd_e {α:Type} {c:Bool} {o:Option α} {q:α} {PP:Prop} (h:cond c o none=some q) (kk:c=true→o=some q→PP):PP:=by
 cases c with
 | true=>exact kk rfl h
 | false=>exact nsm h
theorem objO_inv {x:LV} {k} (h:objO x=some k):x=.val (.obj k):=by
 cases x with
 | val v=>cases v with
  | obj=>exact congrArg (λk=>LV.val (.obj k)) (sj h)
  | _=>exact nsm h
 | _=>exact nsm h
theorem intL_inv {x:LV} {k} (h:intL x=some k):x=.val (.int k):=by
 cases x with
 | val v=>cases v with
  | int=>exact congrArg (λk=>LV.val (.int k)) (sj h)
  | _=>exact nsm h
 | _=>exact nsm h
theorem tuO_inv {x:LV} {k} (h:tuO x=some k):x=.val (.tuple k):=by
 cases x with
 | val v=>cases v with
  | tuple=>exact congrArg (λk=>LV.val (.tuple k)) (sj h)
  | _=>exact nsm h
 | _=>exact nsm h
theorem isNV_inv {x:LV} (h:isNV x=true):x=.val .none:=by
 cases x with
 | val v=>cases v with
  | none=>rfl
  | _=>exact Bool.noConfusion h
 | _=>exact Bool.noConfusion h
theorem olO_inv {x:LV} {k} (h:olO x=some k):x=.olist k:=by
 cases x with
 | olist=>exact congrArg LV.olist (sj h)
 | _=>exact nsm h
theorem obO_inv {x:LV} {k} (h:obO x=some k):x=.obarr k:=by
 cases x with
 | obarr=>exact congrArg LV.obarr (sj h)
 | _=>exact nsm h
theorem octO_inv {x:Val} {k} (h:octO x=some k):x=.bytes k∨x=.barr k:=by
 cases x with
 | bytes=>exact .inl (congrArg Val.bytes (sj h))
 | barr=>exact .inr (congrArg Val.barr (sj h))
 | _=>exact nsm h
theorem insO_inv {x:SObj} {c fs} (h:insO x=some (c,fs)):x=.inst c fs:=by
 cases x with
 | inst=>obtain ⟨rfl,rfl⟩:=pair_inj (sj h); rfl
 | _=>exact nsm h
theorem slO_inv {x:SObj} {l} (h:slO x=some l):x=.slist l:=by
 cases x with
 | slist=>exact congrArg SObj.slist (sj h)
 | _=>exact nsm h
section
variable {z:LV} {w:Option (LV×St)} {r:Option (LV×St)} {rs:Option (List Val×St)} {σ σ':St} {x y:LV} {b c e:St→Option (LV×St)} {es:St→Option (List Val×St)} {op op1 op2:CmpOp} {cf:CF} {j k f i:Nat} {cl:Option Nat}
theorem pr_inv {PP:Prop} {o:Option LV} (h:pr o σ=some (z,σ')) (kk:o=some z→σ'=σ→PP):PP :=
 bn h λz h1 h2=>kk (h1.trans (congrArg some (si2 h2).1.symm)) (si2 h2).2
theorem k1_inv {PP:Prop} {g:LV→Option LV} (h:k1 r g=some (z,σ')) (kk:∀ x,r=some (x,σ')→g x=some z→PP):PP :=
 pb_e h λx s h1 h=>pr_inv h λh2 e=>kk x (e ▸ h1) h2
theorem k2b_inv {PP:Prop} {g:Val→Val→Option LV} (h:k2b x r g=some (z,σ')) (kk:∀ y,r=some (y,σ')→g x.frz y.frz=some z→PP):PP :=
 pb_e h λy s h1 h=>pr_inv h λh2 e=>kk y (e ▸ h1) h2
theorem k2_inv {PP:Prop} {g:Val→Val→Option LV} (h:k2 r e g=some (z,σ')) (kk:∀ x σ1 y,r=some (x,σ1)→e σ1=some (y,σ')→g x.frz y.frz=some z→PP):PP :=
 pb_e h λx s h1 h=>k2b_inv h λy h2 h3=>kk x s y h1 h2 h3
theorem ng_inv {PP:Prop} (h:ng x=some z) (kk:∀ i,x=.val (.int i)→z=.val (.int (-i))→PP):PP :=
 bn h λi h1 h2=>kk i (intL_inv h1) (sj h2).symm
theorem ntB_inv {PP:Prop} {o:Option Bool} (h:ntB o=some z) (kk:∀ b,o=some b→z=.val (.bool (!b))→PP):PP :=
 bn h λb h1 h2=>kk b h1 (sj h2).symm
theorem bB_inv {PP:Prop} {o:Option Bool} (h:bB o=some z) (kk:∀ b,o=some b→z=.val (.bool b)→PP):PP :=
 bn h λb h1 h2=>kk b h1 (sj h2).symm
theorem vV_inv {PP:Prop} {o:Option Val} (h:vV o=some z) (kk:∀ b,o=some b→z=.val b→PP):PP :=
 bn h λb h1 h2=>kk b h1 (sj h2).symm
theorem kand_inv {PP:Prop} (h:kand r e=some (z,σ')) (kk:∀ x σ1,r=some (x,σ1)→((truth x.frz=some true∧e σ1=some (z,σ'))∨(truth x.frz=some false∧z=.val x.frz∧σ'=σ1))→PP):PP :=
 pb_e h λx s h1 h=>kk x s h1 (bn h λt ht h=>by
 cases t with
 | true=>exact .inl ⟨ht,h⟩
 | false=>exact .inr ⟨ht,si2 h⟩)
theorem kor_inv {PP:Prop} (h:kor r e=some (z,σ')) (kk:∀ x σ1,r=some (x,σ1)→((truth x.frz=some true∧z=.val x.frz∧σ'=σ1)∨(truth x.frz=some false∧e σ1=some (z,σ')))→PP):PP :=
 pb_e h λx s h1 h=>kk x s h1 (bn h λt ht h=>by
 cases t with
 | false=>exact .inr ⟨ht,h⟩
 | true=>exact .inl ⟨ht,si2 h⟩)
theorem kite_inv {PP:Prop} {α:Type} {a b:St→Option α} {q:α} (h:kite r a b=some q) (kk:∀ x σ1,r=some (x,σ1)→((truth x.frz=some true∧a σ1=some q)∨(truth x.frz=some false∧b σ1=some q))→PP):PP :=
 pb_e h λx s h1 h=>kk x s h1 (bn h λt ht h=>by
 cases t with
 | false=>exact .inr ⟨ht,h⟩
 | true=>exact .inl ⟨ht,h⟩)
theorem co_inv {PP:Prop} {u v:Val} (h:co op u v=some z) (kk:∀ b,cmpop op u v=some b→z=.val (.bool b)→PP):PP:=bB_inv h kk
theorem kc2_inv {PP:Prop} (h:kc2 r b c op1 op2=some (z,σ')) (kk:∀ x σ1 y σ2,r=some (x,σ1)→b σ1=some (y,σ2)→((cmpop op1 x.frz y.frz=some true∧∃ w t,c σ2=some (w,σ')∧cmpop op2 y.frz w.frz=some t∧z=.val (.bool t))∨(cmpop op1 x.frz y.frz=some false∧z=.val (.bool false)∧σ'=σ2))→PP):PP :=
 pb_e h λx s1 h1 h=>pb_e h λy s2 h2 h=>kk x s1 y s2 h1 h2 (bn h λt ht h=>by
 cases t with
 | false=>exact .inr ⟨ht,si2 h⟩
 | true=>exact k2b_inv h λw h3 h=>co_inv h λt h4 h5=>.inl ⟨ht,w,t,h3,h4,h5⟩)
theorem k3_inv {PP:Prop} (h:k3 r b c=some (z,σ')) (kk:∀ x σ1 y σ2 u,r=some (x,σ1)→b σ1=some (y,σ2)→c σ2=some (u,σ')→slcv x.frz y.frz u.frz=some z→PP):PP :=
 pb_e h λx s1 h1 h=>pb_e h λy s2 h2 h=>pb_e h λu s3 h3 h=>pr_inv h λh4 e=>kk x s1 y s2 u h1 h2 (e ▸ h3) h4
theorem kl_inv {PP:Prop} {o:Option (List Val)} {g:List Val→Option LV} (h:kl o σ g=some (z,σ')) (kk:∀ l,o=some l→g l=some z→σ'=σ→PP):PP :=
 bn h λl h1 h=>pr_inv h λh2 e=>kk l h1 h2 e
theorem kes_inv {PP:Prop} {g:List Val→Option LV} (h:kes rs g=some (z,σ')) (kk:∀ vs,rs=some (vs,σ')→g vs=some z→PP):PP :=
 pb_e h λvs s h1 h=>pr_inv h λh2 e=>kk vs (e ▸ h1) h2
theorem sl?_inv {o:Option SObj} {l} (h:sl? o=some l):o=some (.slist l) :=
 bn h λs h1 h2=>h1.trans (congrArg some (slO_inv h2))
theorem ksub_inv {PP:Prop} {o:Option LV} {q:Int} (h:ksub o σ q=some (z,σ')) (kk:∀ p l u,o=some (.val (.obj p))→σ.sto p=some (.slist l)→subv (.list l) (.int q)=some u→z=.val u→σ'=σ→PP):PP :=
 bn h λy h1 h=>bn h λp h2 h=>kl_inv h λl h3 h4 h5=>vV_inv h4 λu h6 h7=>kk p l u (h1.trans (congrArg some (objO_inv h2))) (sl?_inv h3) h6 h7 h5
theorem mkv_inv {PP:Prop} {o:Option St} (h:mkv x o=some (z,σ')) (kk:o=some σ'→z=x→PP):PP :=
 bn h λs h1 h2=>kk (h1.trans (congrArg some (si2 h2).2.symm)) (si2 h2).1
theorem rv_inv {PP:Prop} (h:rv (σ.get i) i σ=some (z,σ')) (kk:∀ v,z=.val v→readVar i σ=some (v,σ')→PP):PP:=by
 unfold readVar at kk
 generalize σ.get i=g at h kk
 cases g with
 | none=>exact nsm h
 | some x=>cases x <;> (obtain ⟨rfl,rfl⟩:=si2 h; exact kk _ rfl rfl)
theorem rf_inv {PP:Prop} (h:rf (σ.field k f) k f σ=some (z,σ')) (kk:∀ v,z=.val v→readField k f σ=some (v,σ')→PP):PP:=by
 unfold readField at kk
 generalize σ.field k f=g at h kk
 cases g with
 | none=>exact nsm h
 | some x=>cases x with
  | val v=>obtain ⟨rfl,rfl⟩:=si2 h; exact kk _ rfl rfl
  | olist l=>refine mkv_inv (o:=σ.putField k f (.val (.list l))) h λh' z1=>?_; obtain rfl:=z1; exact kk _ rfl (by show ((σ.putField k f (.val (.list l))).map λσ'=>(Val.list l,σ'))=_; rw [h']; rfl)
  | obarr l=>refine mkv_inv (o:=σ.putField k f (.val (.barr l))) h λh' z1=>?_; obtain rfl:=z1; exact kk _ rfl (by show ((σ.putField k f (.val (.barr l))).map λσ'=>(Val.barr l,σ'))=_; rw [h']; rfl)
theorem kattr_inv {PP:Prop} (h:kattr r f=some (z,σ')) (kk:∀ k σ1,r=some (.val (.obj k),σ1)→rf (σ1.field k f) k f σ1=some (z,σ')→PP):PP :=
 pb_e h λx s h1 h=>bn h λk h2 h3=>kk k s (by rw [h1,objO_inv h2]) h3
theorem kcf_inv {PP:Prop} {o:Option (LV×List SObj)} (h:kcf o σ=some (z,σ')) (kk:∀ st,o=some (z,st)→σ'=⟨σ.vars,st,σ.ro⟩→PP):PP :=
 pb_e h λx st h1 h2=>kk st (by rw [h1,(si2 h2).1]) (si2 h2).2
theorem kcall_inv {PP:Prop} (h:kcall rs cf j cl=some (z,σ')) (kk:∀ vs σ1 st,rs=some (vs,σ1)→cl=none→cf j vs σ1.ro σ1.store=some (z,st)→σ'=⟨σ1.vars,st,σ1.ro⟩→PP):PP :=
 pb_e h λvs s h1 h=>cnd_e h λhc h=>kcf_inv h λst h2 h3=>kk vs s st h1 (Option.isNone_iff_eq_none.mp hc) h2 h3
theorem kcallP_inv {PP:Prop} (h:kcallP rs cf j cl=some (z,σ')) (kk:∀ vs st,rs=some (vs,σ')→cl=none→cf j vs true σ'.store=some (z,st)→st.length=σ'.store.length→PP):PP :=
 pb_e h λvs s h1 h=>cnd_e h λhc h=>pb_e h λr st h2 h=>by
 obtain ⟨h3,h4⟩:=ite_some h
 obtain ⟨rfl,rfl⟩:=pair_inj h4
 exact kk vs st h1 (Option.isNone_iff_eq_none.mp hc) h2 h3
theorem kmeth_inv {PP:Prop} (h:kmeth r es cf j cl=some (z,σ')) (kk:∀ k σ1 c fs vs σ2 st,r=some (.val (.obj k),σ1)→σ1.sto k=some (.inst c fs)→cl=some c→es σ1=some (vs,σ2)→cf j (.obj k :: vs) σ2.ro σ2.store=some (z,st)→σ'=⟨σ2.vars,st,σ2.ro⟩→PP):PP :=
 pb_e h λx s1 h1 h=>bn h λk h2 h=>bn h λs h3 h=>pb_e h λd fs h4 h=>bn h λc' h5 h=>by
 obtain ⟨rfl,h9⟩:=ite_some' h
 exact pb_e h9 λvs s2 h6 h=>kcf_inv h λst h7 h8=>kk k s1 d fs vs s2 st (by rw [h1,objO_inv h2]) (h3.trans (congrArg some (insO_inv h4))) h5 h6 h7 h8
theorem knew_inv {PP:Prop} {cn:Nat} (h:knew rs cn cl cf=some (z,σ')) (kk:∀ vs σ1 j st,rs=some (vs,σ1)→cl=some j→σ1.ro=false→cf j (.obj σ1.store.length :: vs) false (σ1.store ++ [.inst cn []])=some (.val .none,st)→z=.val (.obj σ1.store.length)→σ'=⟨σ1.vars,st,σ1.ro⟩→PP):PP :=
 pb_e h λvs s h1 h=>bn h λj h2 h=>by
 cases hr:s.ro with
 | true=>rw [hr] at h; exact nsm h
 | false =>
  rw [hr] at h
  have h:knewB s (cf j (.obj s.store.length :: vs) false (s.store ++ [.inst cn []]))=some (z,σ'):=h
  exact pb_e h λx st h3 h=>cnd_e h λh4 h=>kk vs s j st h1 h2 hr (by rw [h3,isNV_inv h4]) (si2 h).1 (si2 h).2
theorem kcompB_inv {PP:Prop} {tg:List Nat} {o:Option (List Val×St)} (h:kcompB tg o=some (z,σ')) (kk:∀ ys σ2,o=some (ys,σ2)→z=.olist ys→σ'=⟨unset tg σ2.vars,σ2.store,σ2.ro⟩→PP):PP :=
 pb_e h λys s h1 h=>kk ys s h1 (si2 h).1 (si2 h).2
theorem kcomp_inv {PP:Prop} {tg:List Nat} {g:Val→St→Option (List Val×St)} (h:kcomp rs tg g=some (z,σ')) (kk:∀ xs σ1 ys σ2,rs=some (xs,σ1)→okLen xs.length=true→compGo g xs σ1=some (ys,σ2)→z=.olist ys→σ'=⟨unset tg σ2.vars,σ2.store,σ2.ro⟩→PP):PP :=
 pb_e h λxs s h1 h=>kcompB_inv (ite_some' h).2 λys s2 h2 h3 h4=>kk xs s ys s2 h1 (ite_some' h).1 h2 h3 h4
theorem kcompF_inv {PP:Prop} {tg:List Nat} {o:Option (List Val)} {g:Val→St→Option (List Val×St)} (h:kcompF o σ tg g=some (z,σ')) (kk:∀ xs ys σ2,o=some xs→okLen xs.length=true→compGo g xs ⟨σ.vars,σ.store,true⟩=some (ys,σ2)→σ2.store.length=σ.store.length→z=.olist ys→σ'=⟨unset tg σ2.vars,σ.store,σ.ro⟩→PP):PP :=
 bn h λxs h1 h=>pb_e (ite_some' h).2 λys s2 h2 h3=>kk xs ys s2 h1 (ite_some' h).1 h2 (ite_some h3).1 (pair_inj (ite_some h3).2).1 (pair_inj (ite_some h3).2).2
theorem kshare_inv {PP:Prop} (h:kshare r=some (z,σ')) (kk:∀ l σ1,r=some (.olist l,σ1)→σ1.ro=false→z=.val (.obj σ1.store.length)→σ'=⟨σ1.vars,σ1.store ++ [.slist l],σ1.ro⟩→PP):PP :=
 pb_e h λx s h1 h=>bn h λl h2 h=>by
 cases hr:s.ro with
 | true=>rw [hr] at h; exact nsm h
 | false=>rw [hr] at h; exact kk l s (by rw [h1,olO_inv h2]) hr (si2 h).1 (by rw [hr]; exact (si2 h).2)
theorem kcons_inv {PP:Prop} {vs:List Val} (h:kcons r es=some (vs,σ')) (kk:∀ x σ1 xs,r=some (x,σ1)→es σ1=some (xs,σ')→vs=x.frz :: xs→PP):PP :=
 pb_e h λx s h1 h=>pb_e h λxs s2 h2 h3=>kk x s xs h1 (by rw [h2,(si2 h3).2]) (si2 h3).1
theorem lI_inv {PP:Prop} {o:Option (List Val)} {l} (h:lI o σ=some (l,σ')) (kk:o=some l→σ'=σ→PP):PP :=
 bn h λz h1 h2=>kk (h1.trans (congrArg some (si2 h2).1.symm)) (si2 h2).2
theorem kit_inv {PP:Prop} {l} (h:kit r=some (l,σ')) (kk:∀ x,r=some (x,σ')→items? x.frz=some l→PP):PP :=
 pb_e h λx s h1 h=>lI_inv h λh2 e=>kk x (e ▸ h1) h2
theorem krng_inv {PP:Prop} {l} (h:krng rs=some (l,σ')) (kk:∀ vs,rs=some (vs,σ')→range? vs=some l→PP):PP :=
 pb_e h λx s h1 h=>lI_inv h λh2 e=>kk x (e ▸ h1) h2
variable {q:Fl×St}
theorem ka_inv {PP:Prop} {g:LV→St→Option (Fl×St)} (h:ka r g=some q) (kk:∀ x σ1,r=some (x,σ1)→g x σ1=some q→PP):PP :=
 pb_e h kk
theorem nx_inv {PP:Prop} {o:Option St} (h:nx o=some q) (kk:∀ σ1,o=some σ1→q=(.next,σ1)→PP):PP :=
 bn h λs h1 h2=>kk s h1 (sj h2).symm
theorem kb_inv {PP:Prop} {o:Option LV} (h:kb o i σ=some q) (kk:∀ x,o=some x→q=(.next,σ.set i x)→PP):PP :=
 bn h λs h1 h2=>kk s h1 (sj h2).symm
theorem sT_inv {PP:Prop} {is:List Nat} (h:sT is x σ=some q) (kk:∀ l σ1,x=.val (.tuple l)→l.length=is.length→bindT is l σ=some σ1→q=(.next,σ1)→PP):PP :=
 bn h λl h1 h=>nx_inv (ite_some' h).2 λs h2 h3=>kk l s (tuO_inv h1) (ite_some' h).1 h2 h3
theorem sF_inv {PP:Prop} (h:sF i f x σ=some q) (kk:∀ k σ1,σ.get i=some (.val (.obj k))→σ.putField k f x=some σ1→q=(.next,σ1)→PP):PP :=
 bn h λy h1 h=>bn h λk h2 h=>nx_inv h λs h3 h4=>kk k s (h1.trans (congrArg some (objO_inv h2))) h3 h4
theorem sI_inv {PP:Prop} {n:Int} (h:sI i n x σ=some q) (kk:∀ o l p,σ.get i=some (.val (.obj o))→σ.sto o=some (.slist l)→place n l.length=some p→q=(.next,⟨σ.vars,σ.store.set o (.slist (l.set p x.frz)),σ.ro⟩)→PP):PP :=
 bn h λy h1 h=>bn h λo h2 h=>bn h λs h3 h=>bn h λl h4 h=>bn h λp h5 h=>kk o l p (h1.trans (congrArg some (objO_inv h2))) (h3.trans (congrArg some (slO_inv h4))) h5 (sj h).symm
theorem kaug_inv {PP:Prop} {op:Operator} (h:kaug r e i op=some q) (kk:∀ a b σ1 σ2 z,r=some (.val (.int a),σ1)→e σ1=some (.val (.int b),σ2)→binop op (.int a) (.int b)=some z→q=(.next,σ2.set i z)→PP):PP :=
 pb_e h λx s1 h1 h=>pb_e h λy s2 h2 h=>bn h λa h3 h=>bn h λb h4 h=>kb_inv h λz h5 h6=>kk a b s1 s2 z (by rw [h1,intL_inv h3]) (by rw [h2,intL_inv h4]) h5 h6
theorem kaugA_inv {PP:Prop} {op:Operator} (h:kaugA (σ.get i) f op e σ=some q) (kk:∀ k a b σ1 z σ2,σ.get i=some (.val (.obj k))→σ.field k f=some (.val (.int a))→e σ=some (.val (.int b),σ1)→binop op (.int a) (.int b)=some z→σ1.putField k f z=some σ2→q=(.next,σ2)→PP):PP :=
 bn h λx h1 h=>bn h λk h2 h=>bn h λy h3 h=>bn h λa h4 h=>pb_e h λw s h5 h=>bn h λb h6 h=>bn h λz h7 h=>nx_inv h λs2 h8 h9=>kk k a b s z s2 (h1.trans (congrArg some (objO_inv h2))) (h3.trans (congrArg some (intL_inv h4))) (by rw [h5,intL_inv h6]) h7 h8 h9
theorem kap_inv (h:kap (σ.get i) i e σ=some q):(∃ l0 x σ1 l,σ.get i=some (.olist l0)∧e σ=some (x,σ1)∧σ1.get i=some (.olist l)∧okLen l.length=true∧q=(.next,σ1.set i (.olist (l ++ [x.frz])))) ∨
  (∃ l0 n σ1 l,σ.get i=some (.obarr l0)∧e σ=some (.val (.int n),σ1)∧σ1.get i=some (.obarr l)∧(0≤n∧n < 256∧okLen l.length=true)∧q=(.next,σ1.set i (.obarr (l ++ [UInt8.ofNat n.toNat])))):=by
 unfold kap at h
 cases hg:σ.get i with
 | none=>rw [hg] at h; exact nsm h
 | some y=>rw [hg] at h; cases y with
  | val=>exact nsm h
  | olist l0=>exact pb_e h λx s h1 h=>bn h λw h2 h=>bn h λl h3 h=>.inl ⟨l0,x,s,l,rfl,h1,h2.trans (congrArg some (olO_inv h3)),ite_some h⟩
  | obarr l0=>exact pb_e h λx s h1 h=>bn h λn h4 h=>bn h λw h2 h=>bn h λl h3 h=>.inr ⟨l0,n,s,l,rfl,by rw [h1,intL_inv h4],h2.trans (congrArg some (obO_inv h3)),ite_some h⟩
theorem kex_inv (h:kex (σ.get i) i e σ=some q):∃ l0 x σ1 l,σ.get i=some (.obarr l0)∧e σ=some (x,σ1)∧σ1.get i=some (.obarr l) ∧
  ∃ b,(x.frz=.bytes b∨x.frz=.barr b)∧okLen (l.length + b.length)=true∧q=(.next,σ1.set i (.obarr (l ++ b))) :=
 bn h λy h1 h=>bn h λl0 h2 h=>pb_e h λx s h3 h=>bn h λw h4 h=>bn h λl h5 h=>bn h λb h6 h=>⟨l0,x,s,l,h1.trans (congrArg some (obO_inv h2)),h3,h4.trans (congrArg some (obO_inv h5)),b,octO_inv h6,ite_some h⟩
theorem rvs_inv {PP:Prop} (h:rvs (σ.get i) i σ=some q) (kk:∀ l,σ.get i=some (.olist l)→okLen l.length=true→q=(.next,σ.set i (.olist l.reverse))→PP):PP :=
 bn h λx h1 h=>bn h λl h2 h=>kk l (h1.trans (congrArg some (olO_inv h2))) (ite_some h).1 (ite_some h).2
theorem kfa_inv {PP:Prop} (h:kfa (σ.get i) f e σ=some q) (kk:∀ k l0 x σ1 l σ2,σ.get i=some (.val (.obj k))→σ.field k f=some (.olist l0)→e σ=some (x,σ1)→σ1.field k f=some (.olist l)→okLen l.length=true→σ1.putField k f (.olist (l ++ [x.frz]))=some σ2→q=(.next,σ2)→PP):PP :=
 bn h λx h1 h=>bn h λk h2 h=>bn h λy h3 h=>bn h λl0 h4 h=>pb_e h λw s h5 h=>bn h λv h6 h=>bn h λl h7 h=>nx_inv (ite_some' h).2 λs2 h8 h9=>kk k l0 w s l s2 (h1.trans (congrArg some (objO_inv h2))) (h3.trans (congrArg some (olO_inv h4))) h5 (h6.trans (congrArg some (olO_inv h7))) (ite_some' h).1 h8 h9
theorem sE_inv {PP:Prop} (h:sE x σ=some q) (kk:(x=.val .none∨∃ b,x=.val (.bool b))→q=(.next,σ)→PP):PP:=by
 cases x with
 | val v=>cases v with
  | none=>exact kk (.inl rfl) ((sj h).symm)
  | bool b=>exact kk (.inr ⟨b,rfl⟩) ((sj h).symm)
  | _=>exact nsm h
 | _=>exact nsm h
theorem sq_inv {o:Option (Fl×St)} {g:St→Option (Fl×St)} (h:sq o g=some q):(∃ σ1,o=some (.next,σ1)∧g σ1=some q)∨(∃ x σ1,o=some (.ret x,σ1)∧q=(.ret x,σ1)):=by
 cases o with
 | none=>exact nsm h
 | some p =>
  obtain ⟨t,σ1⟩:=p
  cases t with
  | next=>exact .inl ⟨σ1,rfl,h⟩
  | ret x=>exact .inr ⟨x,σ1,rfl,(sj h).symm⟩
theorem compStep_inv {PP:Prop} {tg:List Nat} {g:St→Option (LV×St)} {v:Val} {zs:List Val} (h:compStep tg g e v σ=some (zs,σ')) (kk:∀ σa y σc,bindTg tg v σ=some σa→g σa=some (y,σc)→((truth y.frz=some true∧∃ z,e σc=some (z,σ')∧zs=[z.frz])∨(truth y.frz=some false∧zs=[]∧σ'=σc))→PP):PP :=
 bn h λsa h1 h=>pb_e h λy sc h2 h=>kk sa y sc h1 h2 (bn h λt ht h=>by
 cases t with
 | false=>exact .inr ⟨ht,si2 h⟩
 | true=>exact pb_e (r:=e sc) (f:=λz σc=>some ([z.frz],σc)) h λz s h3 h=>.inl ⟨ht,z,by rw [h3,(si2 h).2],(si2 h).1⟩)
theorem compGo_inv {PP:Prop} {g:Val→St→Option (List Val×St)} {v:Val} {l zs:List Val} (h:compGo g (v :: l) σ=some (zs,σ')) (kk:∀ a σ1 b,g v σ=some (a,σ1)→compGo g l σ1=some (b,σ')→zs=a ++ b→PP):PP:=by
 unfold compGo at h
 cases hg:g v σ with
 | none=>rw [hg] at h; exact nsm h
 | some p =>
  rw [hg] at h
  dsimp only at h
  cases hr:compGo g l p.2 with
  | none=>rw [hr] at h; exact nsm h
  | some r=>rw [hr] at h; obtain ⟨rfl,rfl⟩:=si2 h; exact kk p.1 p.2 r.1 hg hr rfl
theorem fin_inv {PP:Prop} {ro:Bool} {o:Option (Fl×St)} {st:List SObj} (h:fin ro o=some (z,st)) (kk:∀ σ,σ.ro=ro→st=σ.store→((o=some (.next,σ)∧z=.val .none)∨o=some (.ret z,σ))→PP):PP:=by
 cases o with
 | none=>exact nsm h
 | some p =>
  obtain ⟨t,σ⟩:=p
  cases t with
  | next =>
   obtain ⟨h1,h2⟩:=ite_some (c:=σ.ro=ro) h
   obtain ⟨rfl,rfl⟩:=pair_inj h2
   exact kk σ h1 rfl (.inl ⟨rfl,rfl⟩)
  | ret x =>
   obtain ⟨h1,h2⟩:=ite_some (c:=σ.ro=ro) h
   obtain ⟨rfl,rfl⟩:=pair_inj h2
   exact kk σ h1 rfl (.inr rfl)
theorem stp_inv {PP:Prop} {tg:List Nat} {g:St→Option (Fl×St)} {v:Val} (h:stp tg g v σ=some q) (kk:∀ σa,bindTg tg v σ=some σa→g σa=some q→PP):PP :=
 bn h kk
theorem kfor_inv {PP:Prop} {g:Val→St→Option (Fl×St)} (h:kfor rs g=some q) (kk:∀ xs σ1,rs=some (xs,σ1)→forGo g xs σ1=some q→PP):PP :=
 pb_e h kk
end
end Mine
end
section
open PySem PySem.W PyProof.Rows PySem.Calls
open Sem (wp)
namespace Mine
noncomputable def badIds:List String:=Builtin.Bytes.decodersThatHold ++ ["bytearray.__contains__","bytearray.__mod__","bytearray.__rmod__","_struct.pack_into.held","bytearray.find.held"]
noncomputable def isBad:Code→Bool
 | .builtin id _=>badIds.contains id
 | _=>false
noncomputable def NoBad (Γ:Ctx):Prop:=isBad Γ.code=false∧∀ c∈Γ.below,isBad c.1=false
theorem NoBad.enter {Γ:Ctx} (h:NoBad Γ) {c:Code} (hc:isBad c=false) (hd:Option Value) (p:Pos):NoBad (Γ.enter c hd p) :=
 ⟨hc,λx hx=>by
  rcases List.mem_cons.mp hx with rfl | hx
  ·exact h.1
  ·exact h.2 x hx⟩
theorem NoBad.goto {Γ:Ctx} (h:NoBad Γ) {c:Code} (hc:isBad c=false):NoBad (Γ.goto c):=⟨hc,h.2⟩
noncomputable def wpN {α:Type} (M:Model) (A:Around) (t:Sem α) (Q:α→Shared→Prop) (E:Value→Shared→Prop) (s:Shared):Prop :=
 ∀ Γ p,Γ.In A→NoBad Γ→wp M Γ t (λa _ s'=>Q a s') (λe _ s'=>E e s') p s
noncomputable def codeN (M:Model) (A:Around) (c:Code) (R:Result→Shared→Prop) (s:Shared):Prop :=
 ∀ Γ p,Γ.code=c→Γ.Below A→NoBad Γ→wpCode M Γ R p s
section
variable {α β:Type} {M:Model} {A:Around} {E:Value→Shared→Prop} {s:Shared}
theorem wpN.of {t:Sem α} {Q:α→Shared→Prop} (h:wpAny M A t Q E s):wpN M A t Q E s:=λ Γ p a _=>h Γ p a
theorem codeN.of {c:Code} {R:Result→Shared→Prop} (h:codeAny M A c R s):codeN M A c R s:=λ Γ p a b _=>h Γ p a b
theorem wpN_mono {t:Sem α} {Q Q':α→Shared→Prop} {E':Value→Shared→Prop} (h:wpN M A t Q E s) (hQ:∀ a s,Q a s→Q' a s) (hE:∀ e s,E e s→E' e s):wpN M A t Q' E' s :=
 λ Γ p i n=>Sem.wp_mono M Γ t (λa _ s=>hQ a s) (λe _ s=>hE e s) p s (h Γ p i n)
theorem codeN_mono {c:Code} {R R':Result→Shared→Prop} (h:codeN M A c R s) (hR:∀ r s,R r s→R' r s):codeN M A c R' s :=
 λ Γ p hc i n=>wpCode_mono hR (h Γ p hc i n)
theorem wpN_pure {a:α} {Q:α→Shared→Prop} (h:Q a s):wpN M A (pure a) Q E s:=λ_ _ _ _=>h
theorem wpN_bind {m:Sem α} {f:α→Sem β} {Q:β→Shared→Prop} (h:wpN M A m (λa s'=>wpN M A (f a) Q E s') E s):wpN M A (m >>= f) Q E s:=λ Γ p i n=>by
 rw [Sem.wp_bind']
 exact Sem.wp_mono M Γ m (λa p' s' h'=>h' Γ p' i n) (λ_ _ _ h'=>h') p s (h Γ p i n)
theorem wpN_step {m:Sem α} {f:α→Sem β} {Q:β→Shared→Prop} (h:wpAny M A m (λa s'=>wpN M A (f a) Q E s') E s):wpN M A (m >>= f) Q E s:=wpN_bind (.of h)
theorem wpN_holding {vs:List Value} {m:Sem α} {Q:α→Shared→Prop} (h:wpN M A m Q E s):wpN M A (holding vs m) Q E s:=λ Γ p i n=>by rw [Sem.wp_holding]; exact h Γ p i n
theorem wpN_keep {vs:List Value} {m:Sem α} {Q:α→Shared→Prop} (h:wpN M A m Q E s):wpN M A (m.keep vs) Q E s:=λ Γ p i n=>by rw [Sem.wp_keep]; exact h Γ p i n
theorem wpN_onRaise {m:Sem α} {k:Value→Sem Unit} {Q:α→Shared→Prop} (h:wpN M A m Q (λe s'=>wpN M A (k e) (λ_ s''=>E e s'') E s') s):wpN M A (m.onRaise k) Q E s:=λ Γ p i n=>by
 rw [Sem.wp_onRaise]
 exact Sem.wp_mono M Γ m (λ_ _ _ h'=>h') (λe p' s' h'=>h' Γ p' i n) p s (h Γ p i n)
theorem wpN_standAt {pos:Pos} {f:Unit→Sem β} {Q:β→Shared→Prop} (h:wpN M A (f ()) Q E s):wpN M A (standAt pos >>= f) Q E s:=wpN_bind (.of (wpAny_standAt h))
theorem wpN_attempt {m:Sem α} {Q:Except Value α→Shared→Prop} (h:wpN M A m (λa=>Q (.ok a)) (λe=>Q (.error e)) s):wpN M A m.attempt Q E s:=λ Γ p i n=>by rw [Sem.wp_attempt]; exact h Γ p i n
theorem wpN_ite {c:Prop} [Decidable c] {a b:Sem α} {Q:α→Shared→Prop} (h1:c→wpN M A a Q E s) (h2:¬ c→wpN M A b Q E s):wpN M A (if c then a else b) Q E s:=by
 split
 ·exact h1 ‹_›
 ·exact h2 ‹_›
theorem wpN_operate {vs:List Value} {m:Sem Value} {Q:Value→Shared→Prop} (h:wpN M A m Q E s):wpN M A (operate vs m) Q E s:=λ Γ p i n=>by rw [Sem.wp_operate]; exact h Γ p i n
theorem wpN_run {c:Code} {h:Option Value} {Q:Flow→Shared→Prop} (hb:isBad c=false)
  (hc:codeN M (A.mark h) c (λr s'=>match r with | .ok f=>Q f s' | .error e=>E e s') s) (hnb:h≠some byPass):wpN M A (run c h) Q E s :=
 λ Γ p i n=>by rw [Sem.wp_run]; exact hc _ p rfl (i.enter c h p hnb) (n.enter hb h p)
theorem wpN_runValue {c:Code} {Q:Value→Shared→Prop} (hb:isBad c=false)
  (hc:codeN M A c (λr s'=>match r with | .ok (.ret v)=>Q v s' | .ok _=>False | .error e=>E e s') s):wpN M A (runValue c) Q E s :=
 λ Γ p i n=>by rw [Sem.wp_runValue]; exact hc _ p rfl (i.enter c none p (by intro x; cases x)) (n.enter hb none p)
theorem wpN_call {f:Value} {pos:List Value} {kw:List (Str×Value)} {Q:Value→Shared→Prop}
  (hc:codeN M A (.call f ⟨pos,kw⟩) (λr s'=>match r with | .ok (.ret v)=>Q v s' | .ok _=>False | .error e=>E e s') s):wpN M A (call f pos kw) Q E s:=wpN_runValue rfl hc
theorem codeN_of_tree {c:Code} {R:Result→Shared→Prop}
  (h:wpN M (A.under c) (M.den c) (λfin s'=>match fin with | .done f=>R (.ok f) s' | .again c'=>c'.quiet=true∧isBad c'=false∧codeN M A c' R s')
   (λe s'=>R (.error e) s') s):codeN M A c R s:=λ Γ p hc hΓ n=>by
 rw [wpCode_iff_wp,hc]
 refine Sem.wp_mono M Γ _ (λfin p' s' h'=>?_) (λ_ _ _ h'=>h') p s (h Γ p (hc ▸ hΓ.in) n)
 cases fin with
 | done f=>exact h'
 | again c'=>exact ⟨h'.1,h'.2.2 (Γ.goto c') p' rfl (hΓ.goto c') (n.goto h'.2.1)⟩
theorem wpN_runOwn {env:Env} {c:Code} {h:Option Value} {Q:Flow→Shared→Prop} (hb:isBad c=false)
  (hc:codeN M (A.mark h) c (λr s'=>match r with | .ok f=>Q f s' | .error e=>cameBackBy M A env E e s') s) (hnb:h≠some byPass):wpN M A (runOwn c env h) Q E s:=by
 unfold runOwn
 refine wpN_onRaise (wpN_run hb (codeN_mono hc λr s' q=>?_) hnb)
 cases r with
 | ok f=>exact q
 | error e=>exact .of q
theorem dec_of {id:String} (h:badIds.contains id=false):Builtin.Bytes.decodersThatHold.contains id=false:=by
 cases hd:Builtin.Bytes.decodersThatHold.contains id with
 | false=>rfl
 | true =>
  have h2:badIds.contains id=true:=by
   unfold badIds
   rw [List.contains_iff_mem] at hd ⊢
   exact List.mem_append_left _ hd
  rw [h2] at h; cases h
theorem bad_absurd {P:Prop} {id:String} {args:Args} {q:Pos} (hb:isBad (Code.builtin id args,q).fst=false) (h:badIds.contains id=true):P:=by
 have hb:badIds.contains id=false:=hb
 rw [h] at hb; cases hb
theorem exported_false {self:Value} {Q:Bool→Shared→Prop} (h:Q false s):wpN M A (Builtin.Bytes.exported self) Q E s:=by
 intro Γ p _ n
 show Q (List.any ((Γ.code,p) :: Γ.below) _) s
 refine (congrArg (λb=>Q b s) (List.any_eq_false.mpr λx hx=>?_)).mpr h
 have hb:isBad x.1=false:=by
  rcases List.mem_cons.mp hx with rfl | hc
  ·exact n.1
  ·exact n.2 x hc
 obtain ⟨c,q⟩:=x
 cases c with
 | builtin id args =>
  obtain ⟨pos,kw⟩:=args
  by_cases h1:id="bytearray.__contains__"
  ·subst h1; exact bad_absurd hb (by decide +kernel)
  by_cases h2:id="bytearray.__mod__"
  ·subst h2; exact bad_absurd hb (by decide +kernel)
  by_cases h3:id="bytearray.__rmod__"
  ·subst h3; exact bad_absurd hb (by decide +kernel)
  by_cases h4:id="_struct.pack_into.held"
  ·subst h4; exact bad_absurd hb (by decide +kernel)
  by_cases h5:id="bytearray.find.held"
  ·subst h5; exact bad_absurd hb (by decide +kernel)
  delta Builtin.Bytes.exported.match_1
  refine (congrArg (λb=>¬ b=true) (dif_neg h1)).mpr ?_
  refine (congrArg (λb=>¬ b=true) (dif_neg h2)).mpr ?_
  refine (congrArg (λb=>¬ b=true) (dif_neg h3)).mpr ?_
  refine (congrArg (λb=>¬ b=true) (dif_neg h4)).mpr ?_
  refine (congrArg (λb=>¬ b=true) (dif_neg h5)).mpr ?_
  cases pos with
  | nil=>exact Bool.false_ne_true
  | cons v r =>
   show ¬ (Builtin.Bytes.sameRef v self && Builtin.Bytes.decodersThatHold.contains id)=true
   rw [dec_of (show badIds.contains _=false from hb),Bool.and_false]; exact Bool.false_ne_true
 | _=>exact Bool.false_ne_true
end
end Mine
end
section
open PySem PySem.W PyProof.Rows PySem.Calls
namespace Mine
section
variable {M:Model} {A:Around} {E:Value→Shared→Prop} {s:Shared} {env:Env}
theorem N_nil {Q:List Value→Shared→Prop} (h:Q [] s):wpN M A (spliced []) Q E s:=wpN_pure h
theorem N_cons {x:Sem Value} {rest:List (Bool×Sem Value)} {Q:List Value→Shared→Prop}
  (h:wpN M A x (λv s₁=>wpN M A (spliced rest) (λvs s₂=>Q (v :: vs) s₂) E s₁) E s):wpN M A (spliced ((false,x) :: rest)) Q E s:=by
 rw [spliced]
 refine wpN_bind (wpN_mono h (λv s₁ h₁=>?_) λ_ _ x=>x)
 simp only [Bool.false_eq_true,if_false]
 refine wpN_bind (wpN_pure (wpN_bind (wpN_holding (wpN_mono h₁ (λvs s₂ h₂=>wpN_pure h₂) λ_ _ x=>x))))
theorem N_BinOp {l op r pos} {Q:Value→Shared→Prop} (h:wpN M A (eval l env) (λa s₁=>wpN M A (eval r env) (λb s₂=>wpN M A (binaryOp op a b) Q E s₂) E s₁) E s) :
  wpN M A (eval (.BinOp l op r pos) env) Q E s:=by
 rw [arm_eval_BinOp]
 exact wpN_bind (wpN_mono h (λa s₁ h₁=>wpN_bind (wpN_holding (wpN_mono h₁ (λb s₂ h₂=>wpN_standAt (wpN_operate h₂)) λ_ _ x=>x))) λ_ _ x=>x)
theorem N_UnaryOp {op:UnaryOp} {x:Expr} {pos:Pos} {Q:Value→Shared→Prop} (h:wpN M A (eval x env) (λv s₁=>wpN M A (unaryOp op v) Q E s₁) E s):wpN M A (eval (.UnaryOp op x pos) env) Q E s:=by
 rw [arm_eval_UnaryOp]
 exact wpN_bind (wpN_mono h (λv s₁ h₁=>wpN_standAt (wpN_holding h₁)) λ_ _ x=>x)
theorem N_and {e₁ e₂ rest pos} {Q:Value→Shared→Prop}
  (h:wpN M A (eval e₁ env) (λv s₁=>wpN M A (truthy v) (λc s₂=>if c then wpN M A (eval (.BoolOp .And (e₂ :: rest) pos) env) Q E s₂ else Q v s₂) E s₁) E s) :
  wpN M A (eval (.BoolOp .And (e₁ :: e₂ :: rest) pos) env) Q E s:=by
 show wpN M A (do
  let v ←eval e₁ env
  standAt pos
  let c ←holding [v] (truthy v)
  match BoolOp.And,c with
  | .And,false | .Or,true=>pure v
  | _,_=>boolOp pos .And (eval e₂ env :: evalEach rest env)) Q E s
 refine wpN_bind (wpN_mono h (λv s₁ h₁=>wpN_standAt (wpN_bind (wpN_holding (wpN_mono h₁ (λc s₂ h₂=>?_) λ_ _ x=>x)))) λ_ _ x=>x)
 cases c with
 | false=>exact wpN_pure h₂
 | true=>exact h₂
theorem N_Compare1 {l op r pos} {Q:Value→Shared→Prop}
  (h:wpN M A (eval l env) (λa s₁=>wpN M A (eval r env) (λb s₂=>wpN M A (compareOp op a b) Q E s₂) E s₁) E s) (hm:behindInMarks op r=false) :
  wpN M A (eval (.Compare l [op] [r] pos) env) Q E s:=by
 rw [eval_Compare1,markedBehindIn_of_false hm]
 exact wpN_bind (wpN_mono h (λa s₁ h₁=>wpN_bind (wpN_holding (wpN_mono h₁ (λb s₂ h₂=>wpN_standAt (wpN_operate h₂)) λ_ _ x=>x))) λ_ _ x=>x)
theorem N_chain {l op₁ op₂ ops r₁ r₂ rs pos} {Q:Value→Shared→Prop}
  (h:wpN M A (eval l env) (λa s₁=>wpN M A (compareChain pos a (op₁ :: op₂ :: ops) (eval r₁ env :: eval r₂ env :: evalEach rs env)) Q E s₁) E s)
  (hm:lastMarks (op₁ :: op₂ :: ops) (r₁ :: r₂ :: rs)=false):wpN M A (eval (.Compare l (op₁ :: op₂ :: ops) (r₁ :: r₂ :: rs) pos) env) Q E s:=by
 show wpN M A (do compareChain pos (←eval l env) (op₁ :: op₂ :: ops) (markedEach (op₁ :: op₂ :: ops) (r₁ :: r₂ :: rs) (evalEach (r₁ :: r₂ :: rs) env))) Q E s
 rw [markedEach_of_false _ _ _ hm]
 exact wpN_bind h
theorem N_chain_link {pos:Pos} {a:Value} {op op':CmpOp} {ops:List CmpOp} {r r':Sem Value} {rs:List (Sem Value)} {Q:Value→Shared→Prop}
  (h:wpN M A r (λb s₁=>wpN M A (compareOp op a b) (λc s₂=>wpN M A (truthy c) (λt s₃=>if t then wpN M A (compareChain pos b (op' :: ops) (r' :: rs)) Q E s₃ else Q c s₃) E s₂) E s₁) E s) :
  wpN M A (compareChain pos a (op :: op' :: ops) (r :: r' :: rs)) Q E s:=by
 show wpN M A (do
  let rv ←holding [a] r
  standAt pos
  let c ←holding [a,rv] (compareOp op a rv)
  release [a,rv] [c]
  if ←holding [c,rv] (truthy c) then compareChain pos rv (op' :: ops) (r' :: rs) else pure c) Q E s
 refine wpN_bind (wpN_holding (wpN_mono h (λb s₁ h₁=>wpN_standAt (wpN_bind (wpN_holding (wpN_mono h₁ (λc s₂ h₂=>wpN_step (wpAny_release ?_)) λ_ _ x=>x)))) λ_ _ x=>x))
 refine wpN_bind (wpN_holding (wpN_mono h₂ (λt s₃ h₃=>?_) λ_ _ x=>x))
 cases t with
 | true=>exact h₃
 | false=>exact wpN_pure h₃
theorem N_chain_last {pos:Pos} {a:Value} {op:CmpOp} {r:Sem Value} {Q:Value→Shared→Prop} (h:wpN M A r (λb s₁=>wpN M A (compareOp op a b) Q E s₁) E s):wpN M A (compareChain pos a [op] [r]) Q E s:=by
 show wpN M A (do
  let rv ←holding [a] r
  standAt pos
  operate [a,rv] (compareOp op a rv)) Q E s
 exact wpN_bind (wpN_holding (wpN_mono h (λb s₁ h₁=>wpN_standAt (wpN_operate h₁)) λ_ _ x=>x))
theorem N_test_link {pos:Pos} {a:Value} {op op':CmpOp} {ops:List CmpOp} {r r':Sem Value} {rs:List (Sem Value)} {Q:Bool→Shared→Prop}
  (h:wpN M A r (λb s₁=>wpN M A (compareOp op a b) (λc s₂=>wpN M A (truthy c) (λt s₃=>if t then wpN M A (testChain pos b (op' :: ops) (r' :: rs)) Q E s₃ else Q false s₃) E s₂) E s₁) E s) :
  wpN M A (testChain pos a (op :: op' :: ops) (r :: r' :: rs)) Q E s:=by
 show wpN M A (do
  let rv ←holding [a] r
  standAt pos
  let c ←holding [a,rv] (compareOp op a rv)
  release [a,rv] [c]
  if ←holding [c,rv] (truthy c) then testChain pos rv (op' :: ops) (r' :: rs) else pure false) Q E s
 refine wpN_bind (wpN_holding (wpN_mono h (λb s₁ h₁=>wpN_standAt (wpN_bind (wpN_holding (wpN_mono h₁ (λc s₂ h₂=>wpN_step (wpAny_release ?_)) λ_ _ x=>x)))) λ_ _ x=>x))
 refine wpN_bind (wpN_holding (wpN_mono h₂ (λt s₃ h₃=>?_) λ_ _ x=>x))
 cases t with
 | true=>exact h₃
 | false=>exact wpN_pure h₃
theorem N_test_last {pos:Pos} {a:Value} {op:CmpOp} {r:Sem Value} {Q:Bool→Shared→Prop} (h:wpN M A r (λb s₁=>wpN M A (compareOp op a b) (λc s₂=>wpN M A (truthy c) Q E s₂) E s₁) E s):wpN M A (testChain pos a [op] [r]) Q E s:=by
 show wpN M A (do
  let rv ←holding [a] r
  standAt pos
  let c ←operate [a,rv] (compareOp op a rv)
  holding [c] (truthy c)) Q E s
 exact wpN_bind (wpN_holding (wpN_mono h (λb s₁ h₁=>wpN_standAt (wpN_bind (wpN_operate (wpN_mono h₁ (λc s₂ h₂=>wpN_holding h₂) λ_ _ x=>x)))) λ_ _ x=>x))
theorem N_isTrue_plain {e:Expr} {whole:Sem Value} {Q:Bool→Shared→Prop} (h:wpN M A whole (λv s₁=>wpN M A (truthy v) Q E s₁) E s)
  (he:isTrue e env whole=(do let v ←whole; standAt e.pos; holding [v] (truthy v))):wpN M A (isTrue e env whole) Q E s:=by
 rw [he]
 exact wpN_bind (wpN_mono h (λv s₁ h₁=>wpN_standAt (wpN_holding h₁)) λ_ _ x=>x)
theorem N_isTrue_not {x pos whole} {Q:Bool→Shared→Prop} (h:wpN M A (isTrue x env (eval x env)) (λc s'=>Q (!c) s') E s):wpN M A (isTrue (.UnaryOp .Not x pos) env whole) Q E s:=by
 show wpN M A (do return !(←isTrue x env (eval x env))) Q E s
 exact wpN_bind (wpN_mono h (λc s' h'=>wpN_pure h') λ_ _ x=>x)
theorem N_isTrue_and {x rest pos whole} {Q:Bool→Shared→Prop}
  (h:wpN M A (isTrue x env (eval x env)) (λc s'=>if c then wpN M A (isTrue (.BoolOp .And rest pos) env whole) Q E s' else Q false s') E s):wpN M A (isTrue (.BoolOp .And (x :: rest) pos) env whole) Q E s:=by
 show wpN M A (do
  match BoolOp.And,←isTrue x env (eval x env) with
  | .And,false=>pure false
  | .Or,true=>pure true
  | _,_=>allTrue .And rest env) Q E s
 refine wpN_bind (wpN_mono h (λc s' h'=>?_) λ_ _ x=>x)
 cases c with
 | true=>exact h'
 | false=>exact wpN_pure h'
theorem N_isTrue_or {x rest pos whole} {Q:Bool→Shared→Prop}
  (h:wpN M A (isTrue x env (eval x env)) (λc s'=>if c then Q true s' else wpN M A (isTrue (.BoolOp .Or rest pos) env whole) Q E s') E s):wpN M A (isTrue (.BoolOp .Or (x :: rest) pos) env whole) Q E s:=by
 show wpN M A (do
  match BoolOp.Or,←isTrue x env (eval x env) with
  | .And,false=>pure false
  | .Or,true=>pure true
  | _,_=>allTrue .Or rest env) Q E s
 refine wpN_bind (wpN_mono h (λc s' h'=>?_) λ_ _ x=>x)
 cases c with
 | true=>exact wpN_pure h'
 | false=>exact h'
theorem N_isTrue_Compare1 {l op r pos whole} {Q:Bool→Shared→Prop}
  (h:wpN M A (eval l env) (λa s₁=>wpN M A (eval r env) (λb s₂=>wpN M A (compareOp op a b) (λc s₃=>wpN M A (truthy c) Q E s₃) E s₂) E s₁) E s)
  (hm:behindInMarks op r=false):wpN M A (isTrue (.Compare l [op] [r] pos) env whole) Q E s:=by
 rw [isTrue_Compare1,markedBehindIn_of_false hm]
 exact wpN_bind (wpN_mono h (λa s₁ h₁=>wpN_bind (wpN_holding (wpN_mono h₁ (λb s₂ h₂=>wpN_standAt (wpN_bind (wpN_operate (wpN_mono h₂ (λc s₃ h₃=>wpN_holding h₃) λ_ _ x=>x)))) λ_ _ x=>x))) λ_ _ x=>x)
theorem N_isTrue_chain {l op₁ op₂ ops r₁ r₂ rs pos whole} {Q:Bool→Shared→Prop}
  (h:wpN M A (eval l env) (λa s₁=>wpN M A (testChain pos a (op₁ :: op₂ :: ops) (eval r₁ env :: eval r₂ env :: evalEach rs env)) Q E s₁) E s)
  (hm:lastMarks (op₁ :: op₂ :: ops) (r₁ :: r₂ :: rs)=false):wpN M A (isTrue (.Compare l (op₁ :: op₂ :: ops) (r₁ :: r₂ :: rs) pos) env whole) Q E s:=by
 show wpN M A (do testChain pos (←eval l env) (op₁ :: op₂ :: ops) (markedEach (op₁ :: op₂ :: ops) (r₁ :: r₂ :: rs) (evalEach (r₁ :: r₂ :: rs) env))) Q E s
 rw [markedEach_of_false _ _ _ hm]
 exact wpN_bind h
theorem N_IfExp {test body orelse:Expr} {pos:Pos} {Q:Value→Shared→Prop}
  (h:wpN M A (isTrue test env (eval test env)) (λb s₁=>if b then wpN M A (eval body env) Q E s₁ else wpN M A (eval orelse env) Q E s₁) E s):wpN M A (eval (.IfExp test body orelse pos) env) Q E s:=by
 rw [arm_eval_IfExp]
 refine wpN_bind (wpN_mono h (λb s₁ h₁=>?_) λ_ _ x=>x)
 cases b <;> exact h₁
theorem N_List {elts:List Expr} {pos:Pos} {Q:Value→Shared→Prop}
  (h:wpN M A (spliced (backTo pos (starEach elts env))) (λvs s₁=>vs.length≤sizeLine∧Q (.ref s₁.heap.objs.size) { s₁ with heap:=s₁.heap.push { cls:=.type "list",data:=.seq vs.toArray } }) E s) :
  wpN M A (eval (.List elts pos) env) Q E s:=by
 rw [arm_eval_List]
 exact wpN_standAt (wpN_bind (wpN_mono h (λvs s₁ h₁=>.of (wpAny_newList h₁.2 h₁.1)) λ_ _ e=>e))
theorem N_Tuple {elts:List Expr} {k:Nat} {pos:Pos} {Q:Value→Shared→Prop}
  (h:wpN M A (spliced (backTo pos (starEach elts env))) (λvs s₁=>vs.length≤sizeLine∧Q (.ref s₁.heap.objs.size) { s₁ with heap:=s₁.heap.push { cls:=.type "tuple",data:=.seq vs.toArray } }) E s) :
  wpN M A (eval (.Tuple elts k pos) env) Q E s:=by
 rw [arm_eval_Tuple]
 exact wpN_standAt (wpN_bind (wpN_mono h (λvs s₁ h₁=>.of (wpAny_newTuple h₁.2 h₁.1)) λ_ _ e=>e))
theorem N_Subscript {value slice pos} {Q:Value→Shared→Prop}
  (h:wpN M A (eval value env) (λo s₁=>wpN M A (eval slice env) (λi s₂=>wpN M A (subscriptTail value slice o i) Q E s₂) E s₁) E s):wpN M A (eval (.Subscript value slice pos) env) Q E s:=by
 rw [eval_Subscript]
 exact wpN_bind (wpN_mono h (λo s₁ h₁=>wpN_bind (wpN_holding (wpN_mono h₁ (λi s₂ h₂=>wpN_standAt h₂) λ_ _ x=>x))) λ_ _ x=>x)
theorem N_Slice {lower upper step:Option Expr} {p:Pos} {Q:Value→Shared→Prop}
  (h:wpN M A (evalPart lower env) (λl s₁=>wpN M A (evalPart upper env) (λu s₂=>wpN M A (evalPart step env) (λst s₃ =>
   Q (.ref s₃.heap.objs.size) { s₃ with heap:=s₃.heap.push { cls:=.type "slice",data:=.fields #[l,u,st] } }) E s₂) E s₁) E s):wpN M A (eval (.Slice lower upper step p) env) Q E s:=by
 rw [arm_eval_Slice]
 refine wpN_bind (wpN_mono h (λl s₁ h₁=>wpN_bind (wpN_holding (wpN_mono h₁ (λu s₂ h₂=>wpN_bind (wpN_holding (wpN_mono h₂ (λst s₃ h₃=>?_) λ_ _ x=>x))) λ_ _ x=>x))) λ_ _ x=>x)
 exact .of (wpAny_newObj_type h₃)
end
end Mine
end
section
open PySem PySem.W PyProof.Rows
namespace Mine
inductive Tag where
 | ns | cell | var (i:Nat) | sd (k:Nat) | sf (k f:Nat) | sl (k:Nat) | prot
 deriving DecidableEq
noncomputable abbrev Gam:=Addr→Option Tag
noncomputable def Gam.upd (γ:Gam) (a:Addr) (t:Option Tag):Gam:=λb=>if b=a then t else γ b
theorem Gam.upd_self (γ:Gam) (a:Addr) (t):γ.upd a t a=t:=if_pos rfl
theorem Gam.upd_ne (γ:Gam) {a b:Addr} (t) (h:b≠a):γ.upd a t b=γ b:=if_neg h
noncomputable abbrev lstObj (vs:List Value) (n:Nat):Obj:={ cls:=.type "list",data:=.seq vs.toArray n }
noncomputable abbrev barObj (l:List UInt8):Obj:={ cls:=.type "bytearray",data:=.bytearray l.toArray 0 }
mutual
inductive Rep (γ:Gam) (sg:List Addr) (h:Heap):Val→Value→Prop
 | none:Rep γ sg h .none .none
 | bool (b):Rep γ sg h (.bool b) (.bool b)
 | int (i t):Rep γ sg h (.int i) (.int i t)
 | str (l t):Rep γ sg h (.str l) (.str ⟨l.toArray⟩ t)
 | bytes (l t):Rep γ sg h (.bytes l) (.bytes l.toArray t)
 | tuple {a vs l}:γ a=Option.none→h.IsTuple a vs.toArray→Reps γ sg h l vs→Rep γ sg h (.tuple l) (.ref a)
 | list {a vs l}:γ a=Option.none→h.IsList a vs.toArray→Reps γ sg h l vs→Rep γ sg h (.list l) (.ref a)
 | barr {a l}:γ a=Option.none→h.get? a=some (barObj l)→Rep γ sg h (.barr l) (.ref a)
 | obj {k a}:sg[k]?=some a→Rep γ sg h (.obj k) (.ref a)
inductive Reps (γ:Gam) (sg:List Addr) (h:Heap):List Val→List Value→Prop
 | nil:Reps γ sg h [] []
 | cons {x v l vs}:Rep γ sg h x v→Reps γ sg h l vs→Reps γ sg h (x :: l) (v :: vs)
end
theorem IsTuple_to {h h':Heap} {a its} (x:h.IsTuple a its) (e:∀ o,h.get? a=some o→h'.get? a=some o):h'.IsTuple a its:=let ⟨o,ho,r⟩:=x; ⟨o,e o ho,r⟩
theorem IsList_to {h h':Heap} {a its} (x:h.IsList a its) (e:∀ o,h.get? a=some o→h'.get? a=some o):h'.IsList a its:=let ⟨o,ho,r⟩:=x; ⟨o,e o ho,r⟩
theorem IsTuple_lt {h:Heap} {a its} (x:h.IsTuple a its):a < h.objs.size:=let ⟨_,ho,_⟩:=x; Heap.lt_size ho
theorem IsList_lt {h:Heap} {a its} (x:h.IsList a its):a < h.objs.size:=let ⟨_,ho,_⟩:=x; Heap.lt_size ho
structure Kept (γ:Gam) (sg:List Addr) (h:Heap) (γ':Gam) (sg':List Addr) (h':Heap):Prop where
 froz:∀ a o,γ a=none→h.get? a=some o→γ' a=none
 keep:∀ a o,γ a=none→h.get? a=some o→h'.get? a=some o
 sg:sg <+: sg'
theorem Kept.refl {γ sg h}:Kept γ sg h γ sg h:=⟨λ_ _ e _=>e,λ_ _ _ e=>e,List.prefix_refl _⟩
theorem Kept.ge {γ sg h γ' sg' h'} (k:Kept γ sg h γ' sg' h') {i:Nat} {a:Addr} (e:sg[i]?=some a):sg'[i]?=some a:=by
 obtain ⟨t,rfl⟩:=k.sg
 rw [List.getElem?_append_left]
 ·exact e
 ·exact (List.getElem?_eq_some_iff.mp e).1
noncomputable def RepI (γ:Gam) (sg:List Addr) (h:Heap) (x:Val) (v:Value):Prop:=match x with
 | .none=>v=.none
 | .bool b=>v=.bool b
 | .int i=>∃ t,v=.int i t
 | .str l=>∃ t,v=.str ⟨l.toArray⟩ t
 | .bytes l=>∃ t,v=.bytes l.toArray t
 | .tuple l=>∃ a vs,v=.ref a∧γ a=none∧h.IsTuple a vs.toArray∧Reps γ sg h l vs
 | .list l=>∃ a vs,v=.ref a∧γ a=none∧h.IsList a vs.toArray∧Reps γ sg h l vs
 | .barr l=>∃ a,v=.ref a∧γ a=none∧h.get? a=some (barObj l)
 | .obj k=>∃ a,v=.ref a∧sg[k]?=some a
theorem Rep.inv {γ sg h x v} (r:Rep γ sg h x v):RepI γ sg h x v:=by
 cases r with
 | none=>exact rfl
 | bool=>exact rfl
 | int i t=>exact ⟨t,rfl⟩
 | str l t=>exact ⟨t,rfl⟩
 | bytes l t=>exact ⟨t,rfl⟩
 | tuple a b c=>exact ⟨_,_,rfl,a,b,c⟩
 | list a b c=>exact ⟨_,_,rfl,a,b,c⟩
 | barr a b=>exact ⟨_,rfl,a,b⟩
 | obj a=>exact ⟨_,rfl,a⟩
noncomputable def RepsI (γ:Gam) (sg:List Addr) (h:Heap) (l:List Val) (vs:List Value):Prop:=match l with
 | []=>vs=[]
 | x :: l=>∃ v ws,vs=v :: ws∧Rep γ sg h x v∧Reps γ sg h l ws
theorem Reps.inv {γ sg h l vs} (r:Reps γ sg h l vs):RepsI γ sg h l vs:=by
 cases r with
 | nil=>exact rfl
 | cons a b=>exact ⟨_,_,rfl,a,b⟩
theorem Reps.inv1 {γ sg h x vs} (r:Reps γ sg h [x] vs):∃ v,vs=[v]∧Rep γ sg h x v:=by
 obtain ⟨v,ws,rfl,a,b⟩:=r.inv
 obtain rfl:ws=[]:=b.inv
 exact ⟨v,rfl,a⟩
theorem Reps.inv2 {γ sg h x y vs} (r:Reps γ sg h [x,y] vs):∃ v w,vs=[v,w]∧Rep γ sg h x v∧Rep γ sg h y w:=by
 obtain ⟨v,ws,rfl,a,b⟩:=r.inv
 obtain ⟨w,rfl,c⟩:=b.inv1
 exact ⟨v,w,rfl,a,c⟩
theorem Reps.inv3 {γ sg h x y z vs} (r:Reps γ sg h [x,y,z] vs):∃ v w u,vs=[v,w,u]∧Rep γ sg h x v∧Rep γ sg h y w∧Rep γ sg h z u:=by
 obtain ⟨v,ws,rfl,a,b⟩:=r.inv
 obtain ⟨w,u,rfl,c,d⟩:=b.inv2
 exact ⟨v,w,u,rfl,a,c,d⟩
theorem Rep.mono {γ sg h γ' sg' h'} (k:Kept γ sg h γ' sg' h') {x v} (r:Rep γ sg h x v):Rep γ' sg' h' x v :=
 Rep.rec (motive_1:=λx v _=>Rep γ' sg' h' x v) (motive_2:=λl vs _=>Reps γ' sg' h' l vs) .none .bool .int .str .bytes
  (λa b _ ih=>.tuple (let ⟨o,ho,_⟩:=b; k.froz _ o a ho) (IsTuple_to b λo=>k.keep _ o a) ih)
  (λa b _ ih=>.list (let ⟨o,ho,_⟩:=b; k.froz _ o a ho) (IsList_to b λo=>k.keep _ o a) ih)
  (λa b=>.barr (k.froz _ _ a b) (k.keep _ _ a b)) (λa=>.obj (k.ge a)) .nil (λ_ _ a b=>.cons a b) r
theorem Reps.mono {γ sg h γ' sg' h'} (k:Kept γ sg h γ' sg' h') {l vs} (r:Reps γ sg h l vs):Reps γ' sg' h' l vs :=
 Reps.rec (motive_1:=λ_ _ _=>True) (motive_2:=λl vs _=>Reps γ' sg' h' l vs) trivial (λ_=>trivial) (λ_ _=>trivial) (λ_ _=>trivial) (λ_ _=>trivial)
  (λ_ _ _ _=>trivial) (λ_ _ _ _=>trivial) (λ_ _=>trivial) (λ_=>trivial) .nil (λa _ _ b=>.cons (a.mono k) b) r
theorem Reps.length {γ sg h} {l:List Val}:∀ {vs},Reps γ sg h l vs→vs.length=l.length:=by
 induction l with
 | nil=>intro vs r; obtain rfl:vs=[]:=r.inv; rfl
 | cons x l ih=>intro vs r; obtain ⟨v,ws,rfl,_,b⟩:=r.inv; exact congrArg Nat.succ (ih b)
theorem Reps.append {γ sg h m ws} {l:List Val}:∀ {vs},Reps γ sg h l vs→Reps γ sg h m ws→Reps γ sg h (l ++ m) (vs ++ ws):=by
 induction l with
 | nil=>intro vs r y; obtain rfl:vs=[]:=r.inv; exact y
 | cons x l ih=>intro vs r y; obtain ⟨v,us,rfl,a,b⟩:=r.inv; exact .cons a (ih b y)
theorem Reps.one {γ sg h x v} (a:Rep γ sg h x v):Reps γ sg h [x] [v]:=.cons a .nil
theorem Reps.get {γ sg h} {l:List Val}:∀ {vs},Reps γ sg h l vs→∀ {k:Nat} {x},l[k]?=some x→∃ v,vs[k]?=some v∧Rep γ sg h x v:=by
 induction l with
 | nil=>intro vs r k x e; exact nsm e
 | cons y l ih =>
  intro vs r k x e
  obtain ⟨v,us,rfl,a,b⟩:=r.inv
  cases k with
  | zero=>obtain rfl:=sj e; exact ⟨_,rfl,a⟩
  | succ k =>
   rw [List.getElem?_cons_succ] at e
   obtain ⟨u,h1,h2⟩:=ih b e
   exact ⟨u,by rw [List.getElem?_cons_succ]; exact h1,h2⟩
theorem Reps.set {γ sg h x v} (q:Rep γ sg h x v) {l:List Val}:∀ {vs},Reps γ sg h l vs→∀ k,Reps γ sg h (l.set k x) (vs.set k v):=by
 induction l with
 | nil=>intro vs r k; obtain rfl:vs=[]:=r.inv; exact .nil
 | cons y l ih =>
  intro vs r k
  obtain ⟨u,us,rfl,a,b⟩:=r.inv
  cases k with
  | zero=>exact .cons q b
  | succ k=>exact .cons a (ih b k)
theorem Reps.take {γ sg h} {l:List Val}:∀ {vs},Reps γ sg h l vs→∀ k,Reps γ sg h (l.take k) (vs.take k):=by
 induction l with
 | nil=>intro vs r k; obtain rfl:vs=[]:=r.inv; rw [List.take_nil,List.take_nil]; exact .nil
 | cons y l ih =>
  intro vs r k
  obtain ⟨u,us,rfl,a,b⟩:=r.inv
  cases k with
  | zero=>exact .nil
  | succ k=>exact .cons a (ih b k)
theorem Reps.drop {γ sg h} {l:List Val}:∀ {vs},Reps γ sg h l vs→∀ k,Reps γ sg h (l.drop k) (vs.drop k):=by
 induction l with
 | nil=>intro vs r k; obtain rfl:vs=[]:=r.inv; rw [List.drop_nil,List.drop_nil]; exact .nil
 | cons y l ih =>
  intro vs r k
  obtain ⟨u,us,rfl,a,b⟩:=r.inv
  cases k with
  | zero=>exact .cons a b
  | succ k=>exact ih b k
theorem Reps.reverse {γ sg h} {l:List Val}:∀ {vs},Reps γ sg h l vs→Reps γ sg h l.reverse vs.reverse:=by
 induction l with
 | nil=>intro vs r; obtain rfl:vs=[]:=r.inv; exact .nil
 | cons x l ih =>
  intro vs r
  obtain ⟨v,us,rfl,a,b⟩:=r.inv
  rw [List.reverse_cons,List.reverse_cons]
  exact (ih b).append (Reps.one a)
noncomputable def LVOk (γ:Gam) (sg:List Addr) (h:Heap) (t:Tag):LV→Value→Prop
 | .val x,v=>Rep γ sg h x v
 | .olist l,v=>∃ a vs n,v=.ref a∧γ a=some t∧h.get? a=some (lstObj vs n)∧Reps γ sg h l vs
 | .obarr l,v=>∃ a,v=.ref a∧γ a=some t∧h.get? a=some (barObj l)
theorem LVOk.mono {γ sg h γ' sg' h' t t'} (k:Kept γ sg h γ' sg' h') (q:∀ a o,γ a=some t→h.get? a=some o→γ' a=some t'∧h'.get? a=some o) :
  ∀ {x v},LVOk γ sg h t x v→LVOk γ' sg' h' t' x v
 | .val _,_,r=>Rep.mono k r
 | .olist _,_,⟨a,vs,n,e,g,o,r⟩=>⟨a,vs,n,e,(q a _ g o).1,(q a _ g o).2,r.mono k⟩
 | .obarr _,_,⟨a,e,g,o⟩=>⟨a,e,(q a _ g o).1,(q a _ g o).2⟩
set_option genCtorIdx false in
inductive Place where
 | loc (L:Addr) (x:Str)
 | cell (c:Addr)
noncomputable def Place.addr:Place→Addr
 | .loc L _=>L
 | .cell c=>c
noncomputable def Place.has (h:Heap):Place→Value→Prop
 | .loc L x,v=>∃ m,h.Ns L m∧m x=some v
 | .cell c,v=>h.IsCell c (some v)
noncomputable def Place.ok (γ:Gam) (h:Heap):Place→Prop
 | .loc L _=>γ L=some .ns∧∃ m,h.Ns L m
 | .cell c=>γ c=some .cell∧∃ v,h.IsCell c v
theorem IsCell_to {h h':Heap} {c v} (x:h.IsCell c v) (e:∀ o,h.get? c=some o→h'.get? c=some o):h'.IsCell c v:=let ⟨o,ho,r⟩:=x; ⟨o,e o ho,r⟩
theorem Place.has_to {h h':Heap}:∀ {p:Place} {v},p.has h v→(∀ o,h.get? p.addr=some o→h'.get? p.addr=some o)→p.has h' v
 | .loc _ _,_,⟨m,hn,e⟩,k=>⟨m,hn.at k,e⟩
 | .cell _,_,x,k=>IsCell_to x k
theorem Place.ok_to {γ γ':Gam} {h h':Heap}:∀ {p:Place},p.ok γ h→γ' p.addr=γ p.addr→(∀ o,h.get? p.addr=some o→h'.get? p.addr=some o)→p.ok γ' h'
 | .loc _ _,⟨g,m,hn⟩,e,k=>⟨e.trans g,m,hn.at k⟩
 | .cell _,⟨g,v,x⟩,e,k=>⟨e.trans g,v,IsCell_to x k⟩
theorem Place.ok_tag {γ:Gam} {h:Heap}:∀ {p:Place},p.ok γ h→γ p.addr=some .ns∨γ p.addr=some .cell
 | .loc _ _,x=>.inl x.1
 | .cell _,x=>.inr x.1
theorem Place.ok_at {γ:Gam} {h:Heap}:∀ {p:Place},p.ok γ h→∃ o,h.get? p.addr=some o
 | .loc _ _,⟨_,_,o,_,_,h,_⟩=>⟨o,h⟩
 | .cell _,⟨_,_,o,h,_⟩=>⟨o,h⟩
structure Cfg where
 prog:Program
 w:World
 K:Frag
 base:Heap
 gens:Array GenState
 os:OsState
 clsA:Nat→Addr
 fnA:Nat→Addr
 fname:Nat→Str
 nf:Nat
noncomputable def FieldsOk (C:Cfg) (γ:Gam) (sg:List Addr) (h:Heap) (k:Nat):List (Nat×LV)→List DictEntry→Prop
 | [],[]=>True
 | (f,x) :: r,e :: es=>(∃ t,e.key=.str (C.fname f) t)∧LVOk γ sg h (.sf k f) x e.val∧FieldsOk C γ sg h k r es
 | _,_=>False
noncomputable def SObjOk (C:Cfg) (γ:Gam) (sg:List Addr) (h:Heap) (k:Nat):SObj→Addr→Prop
 | .inst c fs,a=>∃ da es n,γ a=none∧h.get? a=some (instObj (C.clsA c) da)∧γ da=some (.sd k)∧h.get? da=some (dictOf es n)∧FieldsOk C γ sg h k fs es∧((fs.map (·.1)).Nodup∧∀ p∈fs,p.1 < C.nf)
 | .slist l,a=>∃ vs,γ a=some (.sl k)∧h.IsList a vs.toArray∧Reps γ sg h l vs
theorem FieldsOk.mono {C:Cfg} {γ sg h γ' sg' h' k} (kp:Kept γ sg h γ' sg' h') (q:∀ f a o,γ a=some (.sf k f)→h.get? a=some o→γ' a=some (.sf k f)∧h'.get? a=some o) :
  ∀ {fs es},FieldsOk C γ sg h k fs es→FieldsOk C γ' sg' h' k fs es:=by
 intro fs
 induction fs with
 | nil =>
  intro es x
  cases es with
  | nil=>exact trivial
  | cons=>exact False.elim x
 | cons p r ih =>
  intro es x
  cases es with
  | nil=>exact False.elim x
  | cons e es=>exact ⟨x.1,x.2.1.mono kp (q _),ih x.2.2⟩
theorem SObjOk.mono {C:Cfg} {γ sg h γ' sg' h' k} (kp:Kept γ sg h γ' sg' h') (q:∀ a o,(γ a=some (.sd k)∨(∃ f,γ a=some (.sf k f))∨γ a=some (.sl k))→h.get? a=some o→γ' a=γ a∧h'.get? a=some o) :
  ∀ {x a},SObjOk C γ sg h k x a→SObjOk C γ' sg' h' k x a:=by
 intro x a z
 cases x with
 | inst c fs =>
  obtain ⟨da,es,n,h1,h2,h3,h4,h5,h6⟩:=z
  exact ⟨da,es,n,kp.froz _ _ h1 h2,kp.keep _ _ h1 h2,((q da _ (.inl h3) h4).1).trans h3,(q da _ (.inl h3) h4).2,
   h5.mono kp (λf a o e1 e2=>⟨((q a o (.inr (.inl ⟨f,e1⟩)) e2).1).trans e1,(q a o (.inr (.inl ⟨f,e1⟩)) e2).2⟩),h6⟩
 | slist l =>
  obtain ⟨vs,h1,h2,h3⟩:=z
  obtain ⟨o,ho,_⟩:=id h2
  exact ⟨vs,((q a o (.inr (.inr h1)) ho).1).trans h1,IsList_to h2 λo ho=>(q a o (.inr (.inr h1)) ho).2,h3.mono kp⟩
structure Inv (C:Cfg) (pl:Nat→Option Place) (γ:Gam) (sg:List Addr) (σ:St) (s:Shared):Prop where
 gens:s.gens=C.gens
 os:s.os=C.os
 keep:∀ b o,C.base.get? b=some o→s.heap.get? b=some o
 dom:∀ a t,γ a=some t→(∃ o,s.heap.get? a=some o)∧C.base.get? a=none
 ok:∀ i p,pl i=some p→p.ok γ s.heap
 inj:∀ i j p,pl i=some p→pl j=some p→i=j
 vars:∀ i x,σ.get i=some x→∃ p v,pl i=some p∧p.has s.heap v∧LVOk γ sg s.heap (.var i) x v
 len:sg.length=σ.store.length
 store:∀ k o a,σ.sto k=some o→sg[k]?=some a→SObjOk C γ sg s.heap k o a
structure AdvS (γ:Gam) (sg:List Addr) (s:Shared) (γ':Gam) (sg':List Addr) (s':Shared):Prop where
 there:∀ a o,s.heap.get? a=some o→∃ o',s'.heap.get? a=some o'
 kept:Kept γ sg s.heap γ' sg' s'.heap
 prot:∀ a,γ a=some .prot→γ' a=some .prot
 keepP:∀ a o,γ a=some .prot→s.heap.get? a=some o→s'.heap.get? a=some o
structure Adv (γ:Gam) (sg:List Addr) (s:Shared) (γ':Gam) (sg':List Addr) (s':Shared):Prop extends AdvS γ sg s γ' sg' s' where
 names:∀ a o t,γ a=some t→(t=.ns∨t=.cell)→s.heap.get? a=some o→γ' a=some t∧s'.heap.get? a=some o
theorem AdvS.refl {γ sg s}:AdvS γ sg s γ sg s:=⟨λ_ o e=>⟨o,e⟩,.refl,λ_ e=>e,λ_ _ _ e=>e⟩
theorem Adv.refl {γ sg s}:Adv γ sg s γ sg s:=⟨.refl,λ_ _ _ e _ g=>⟨e,g⟩⟩
theorem Kept.trans {γ sg h γ1 sg1 h1 γ2 sg2 h2} (x:Kept γ sg h γ1 sg1 h1) (y:Kept γ1 sg1 h1 γ2 sg2 h2):Kept γ sg h γ2 sg2 h2 :=
 ⟨λa o e l=>y.froz a o (x.froz a o e l) (x.keep a o e l),λa o e g=>y.keep a o (x.froz a o e g) (x.keep a o e g),x.sg.trans y.sg⟩
theorem AdvS.trans {γ sg s γ1 sg1 s1 γ2 sg2 s2} (x:AdvS γ sg s γ1 sg1 s1) (y:AdvS γ1 sg1 s1 γ2 sg2 s2):AdvS γ sg s γ2 sg2 s2 :=
 ⟨λa o e=>let ⟨o',e'⟩:=x.there a o e; y.there a o' e',x.kept.trans y.kept,λa e=>y.prot a (x.prot a e),λa o e g=>y.keepP a o (x.prot a e) (x.keepP a o e g)⟩
theorem Adv.trans {γ sg s γ1 sg1 s1 γ2 sg2 s2} (x:Adv γ sg s γ1 sg1 s1) (y:Adv γ1 sg1 s1 γ2 sg2 s2):Adv γ sg s γ2 sg2 s2 :=
 ⟨x.toAdvS.trans y.toAdvS,λa o t e q g=>let r:=x.names a o t e q g; y.names a o t r.1 q r.2⟩
theorem Inv.grow {C:Cfg} {pl γ sg σ s} (I:Inv C pl γ sg σ s) {γ':Gam} {s':Shared} (hg:s'.gens=s.gens) (ho:s'.os=s.os)
  (hk:∀ a o,s.heap.get? a=some o→s'.heap.get? a=some o) (he:∀ a o,s.heap.get? a=some o→γ' a=γ a) (hd:∀ a t,γ' a=some t→s.heap.get? a=none→(∃ o,s'.heap.get? a=some o)∧C.base.get? a=none) :
  Inv C pl γ' sg σ s':=by
 have kp:Kept γ sg s.heap γ' sg s'.heap:=⟨λa o e l=>(he a o l).trans e,λa o _ g=>hk a o g,List.prefix_refl _⟩
 refine ⟨hg.trans I.gens,ho.trans I.os,λb o e=>hk _ _ (I.keep b o e),λa t e=>?_,λi p e=>?_,I.inj,λi x e=>?_,I.len,λk o a e1 e2=>?_⟩
 ·cases q:s.heap.get? a with
  | none=>exact hd a t e q
  | some o=>exact ⟨⟨o,hk _ _ q⟩,(I.dom a t ((he a o q).symm.trans e)).2⟩
 ·have:=I.ok i p e
  obtain ⟨o,ho⟩:=Place.ok_at this
  exact Place.ok_to this (he _ o ho) λo=>hk _ o
 ·obtain ⟨p,v,h1,h2,h3⟩:=I.vars i x e
  exact ⟨p,v,h1,Place.has_to h2 λo=>hk _ o,h3.mono kp λa o e1 e2=>⟨(he _ _ e2).trans e1,hk _ _ e2⟩⟩
 ·exact (I.store k o a e1 e2).mono kp λa o _ e2=>⟨he _ _ e2,hk _ _ e2⟩
theorem adv_grow {γ sg} {s:Shared} {γ':Gam} {s':Shared} (hk:∀ a o,s.heap.get? a=some o→s'.heap.get? a=some o) (he:∀ a o,s.heap.get? a=some o→γ' a=γ a)
  (hd:∀ a t,γ a=some t→∃ o,s.heap.get? a=some o):Adv γ sg s γ' sg s' :=
 ⟨⟨λa o e=>⟨o,hk a o e⟩,⟨λa o e l=>(he a o l).trans e,λa o _ g=>hk a o g,List.prefix_refl _⟩,λa e=>let ⟨o,ho⟩:=hd _ _ e; (he a o ho).trans e,λa o _ g=>hk a o g⟩,λa o t e _ g=>⟨(he a o g).trans e,hk a o g⟩⟩
theorem Inv.tok {C:Cfg} {pl γ sg σ s} (I:Inv C pl γ sg σ s) (t:Nat):Inv C pl γ sg σ { s with toks:=t }:=⟨I.gens,I.os,I.keep,I.dom,I.ok,I.inj,I.vars,I.len,I.store⟩
theorem adv_tok {γ sg} {s:Shared} (t:Nat):Adv γ sg s γ sg { s with toks:=t }:=⟨⟨λ_ o e=>⟨o,e⟩,.refl,λ_ e=>e,λ_ _ _ e=>e⟩,λ_ _ _ e _ g=>⟨e,g⟩⟩
theorem get?_size (h:Heap):h.get? h.objs.size=none:=Heap.get?_none_of_le (Nat.le_refl _)
theorem Inv.new {C:Cfg} {pl γ sg σ s} (I:Inv C pl γ sg σ s) {a:Addr} (h:s.heap.get? a=none):C.base.get? a=none:=by
 cases q:C.base.get? a with
 | none=>rfl
 | some o=>have:=I.keep a o q; rw [h] at this; cases this
theorem Inv.push {C:Cfg} {pl γ sg σ s} (I:Inv C pl γ sg σ s) (o:Obj) (t:Option Tag) (k:Nat) (hf:o.isFreed=false):Inv C pl (γ.upd s.heap.objs.size t) sg σ { s with heap:=s.heap.push o,toks:=k }:=by
 refine I.grow rfl rfl (λa x e=>Heap.get?_push_of_some _ e) (λa o l=>Gam.upd_ne _ _ (Nat.ne_of_lt (Heap.lt_size l))) λa u e q=>?_
 unfold Gam.upd at e
 split at e
 ·rename_i h; subst h; exact ⟨⟨o,Heap.get?_push_size _ hf⟩,I.new q⟩
 ·obtain ⟨⟨o',ho⟩,_⟩:=I.dom a u e
  rw [q] at ho; cases ho
theorem Inv.pushA {C:Cfg} {pl γ sg σ s} (I:Inv C pl γ sg σ s) (o:Obj) (t:Option Tag) (k:Nat):Adv γ sg s (γ.upd s.heap.objs.size t) sg { s with heap:=s.heap.push o,toks:=k } :=
 adv_grow (λa x e=>Heap.get?_push_of_some _ e) (λa o l=>Gam.upd_ne _ _ (Nat.ne_of_lt (Heap.lt_size l))) λa t e=>(I.dom a t e).1
theorem Inv.free {C:Cfg} {pl γ sg σ s a} (I:Inv C pl γ sg σ s) (h:γ a=some .prot):Inv C pl (γ.upd a none) sg σ s:=by
 have hk:Kept γ sg s.heap (γ.upd a none) sg s.heap:=⟨λb _ e _=>by unfold Gam.upd; split <;> first | rfl | exact e,λ_ _ _ e=>e,List.prefix_refl _⟩
 have ht:∀ b t,γ b=some t→t≠.prot→γ.upd a none b=γ b:=λb t e n=>by
  unfold Gam.upd; split
  ·rename_i q; subst q; rw [h] at e; cases e; exact absurd rfl n
  ·rfl
 refine ⟨I.gens,I.os,I.keep,λb t e=>?_,λi p e=>?_,I.inj,λi x e=>?_,I.len,λk o b e1 e2=>?_⟩
 ·unfold Gam.upd at e; split at e
  ·cases e
  ·exact I.dom b t e
 ·have:=I.ok i p e
  refine Place.ok_to this ?_ λo e=>e
  rcases Place.ok_tag this with q | q <;> exact ht _ _ q (by intro e; cases e)
 ·obtain ⟨p,v,h1,h2,h3⟩:=I.vars i x e
  exact ⟨p,v,h1,h2,h3.mono hk λb o e1 e2=>⟨(ht _ _ e1 (by intro e; cases e)).trans e1,e2⟩⟩
 ·refine (I.store k o b e1 e2).mono hk λb o q e2=>⟨?_,e2⟩
  rcases q with q | ⟨f,q⟩ | q <;> exact ht _ _ q (by intro e; cases e)
theorem LVOk.frz {γ sg h x v}:LVOk γ sg h .prot x v→∃ γ',Rep γ' sg h x.frz v∧((γ'=γ∧∃ y,x=.val y)∨((∀ y,x≠.val y)∧∃ a,v=.ref a∧γ a=some .prot∧γ'=γ.upd a none)):=by
 cases x with
 | val y=>exact λr=>⟨γ,r,.inl ⟨rfl,_,rfl⟩⟩
 | olist l =>
  rintro ⟨a,vs,n,rfl,g,o,r⟩
  have k:Kept γ sg h (γ.upd a none) sg h:=⟨λb _ e _=>by unfold Gam.upd; split <;> first | rfl | exact e,λ_ _ _ e=>e,List.prefix_refl _⟩
  exact ⟨_,.list (Gam.upd_self ..) ⟨_,o,rfl,_,rfl⟩ (r.mono k),.inr ⟨(λ_ e=>nomatch e),a,rfl,g,rfl⟩⟩
 | obarr l =>
  rintro ⟨a,rfl,g,o⟩
  exact ⟨_,.barr (Gam.upd_self ..) o,.inr ⟨(λ_ e=>nomatch e),a,rfl,g,rfl⟩⟩
noncomputable def NewR (s:Shared):LV→Value→Prop
 | .val _,_=>True
 | _,v=>∀ a,v=.ref a→s.heap.get? a=none
noncomputable def Room (n:Nat) (A:Around):Prop:=A.handled=none∧A.depth + 10 * n + 10 < recursionLimit∧A.units + 100 * n + 200 < cLine
noncomputable def KE (C:Cfg) (pl:Nat→Option Place) (γ:Gam) (sg:List Addr) (s:Shared) (σ':St) (r:LV) (Q:Value→Shared→Prop):Prop:=∀ γ' sg' v s',Inv C pl γ' sg' σ' s'→Adv γ sg s γ' sg' s'→LVOk γ' sg' s'.heap .prot r v→NewR s r v→Q v s'
noncomputable def KW (C:Cfg) (pl:Nat→Option Place) (γ:Gam) (sg:List Addr) (s:Shared) (σ:St) (r:LV) (Q:Value→Shared→Prop):Prop:=∀ γ' v s',Inv C pl γ' sg σ s'→Adv γ sg s γ' sg s'→LVOk γ' sg s'.heap .prot r v→NewR s r v→Q v s'
noncomputable def KR (C:Cfg) (pl:Nat→Option Place) (γ:Gam) (sg:List Addr) (s:Shared) (σ':St) (x:Val) (Q:Value→Shared→Prop):Prop:=∀ γ' sg' v s',Inv C pl γ' sg' σ' s'→Adv γ sg s γ' sg' s'→Rep γ' sg' s'.heap x v→Q v s'
noncomputable def TE (C:Cfg) (pl:Nat→Option Place) (n:Nat) (t:Sem Value) (f:St→Option (LV×St)):Prop :=
 ∀ {A:Around} {E:Value→Shared→Prop} {Q:Value→Shared→Prop} {γ sg σ s r σ'},Room n A→Inv C pl γ sg σ s→f σ=some (r,σ') →
  KE C pl γ sg s σ' r Q→wpN (model C.prog C.w) A t Q E s
theorem TE.val {C pl n t f} (h:TE C pl n t f) {A:Around} {E:Value→Shared→Prop} {Q:Value→Shared→Prop} {γ sg σ s r σ'} (hR:Room n A) (I:Inv C pl γ sg σ s) (e:f σ=some (r,σ'))
  (hQ:KR C pl γ sg s σ' r.frz Q):wpN (model C.prog C.w) A t Q E s:=by
 refine h hR I e λγ' sg' v s' I' A' R N=>?_
 obtain ⟨γ2,R2,q⟩:=R.frz
 rcases q with ⟨rfl,_⟩ | ⟨hne,a,rfl,g,rfl⟩
 ·exact hQ _ _ _ _ I' A' R2
 ·have hn:s.heap.get? a=none:=by
   cases r with
   | val y=>exact absurd rfl (hne y)
   | olist l=>exact N a rfl
   | obarr l=>exact N a rfl
  have ne:∀ {b o},s.heap.get? b=some o→b≠a:=λl q=>by subst q; rw [hn] at l; cases l
  refine hQ _ _ _ _ (I'.free g) ?_ R2
  refine ⟨⟨A'.there,⟨λb o e l=>?_,A'.kept.keep,A'.kept.sg⟩,λb e=>?_,A'.keepP⟩,λb o t e q l=>?_⟩
  ·rw [Gam.upd_ne _ _ (ne l)]; exact A'.kept.froz b o e l
  ·obtain ⟨⟨o,ho⟩,_⟩:=I.dom _ _ e
   rw [Gam.upd_ne _ _ (ne ho)]; exact A'.prot b e
  ·rw [Gam.upd_ne _ _ (ne l)]; exact A'.names b o t e q l
end Mine
end
section
open PySem PySem.W PyProof.Rows PySem.Calls
namespace Mine
section
variable {C:Cfg} {pl:Nat→Option Place} {n:Nat}
theorem NewR.val {s x v}:NewR s (.val x) v:=trivial
noncomputable def KEs (C:Cfg) (pl:Nat→Option Place) (γ:Gam) (sg:List Addr) (s:Shared) (σ':St) (r:List Val) (Q:List Value→Shared→Prop):Prop:=∀ γ' sg' vs s',Inv C pl γ' sg' σ' s'→Adv γ sg s γ' sg' s'→Reps γ' sg' s'.heap r vs→Q vs s'
noncomputable def TEs (C:Cfg) (pl:Nat→Option Place) (n:Nat) (ts:List (Bool×Sem Value)) (f:St→Option (List Val×St)):Prop :=
 ∀ {A:Around} {E:Value→Shared→Prop} {Q:List Value→Shared→Prop} {γ sg σ s r σ'},Room n A→Inv C pl γ sg σ s→f σ=some (r,σ') →
  KEs C pl γ sg s σ' r Q→wpN (model C.prog C.w) A (spliced ts) Q E s
theorem TEs.nil:TEs C pl n [] (λσ=>some ([],σ)):=by
 intro A E Q γ sg σ s r σ' _ I e hQ
 cases e
 exact N_nil (hQ _ _ _ _ I .refl .nil)
theorem TEs.cons {t ts f g} (h:TE C pl n t f) (hs:TEs C pl n ts g):TEs C pl n ((false,t) :: ts) (λσ=>kcons (f σ) g):=by
 intro A E Q γ sg σ s r σ' hR I e hQ
 refine kcons_inv (r:=f σ) (es:=g) e λx σ1 xs e1 e2 zz1=>?_; obtain rfl:=zz1
 refine N_cons (h.val hR I e1 λγ1 sg1 v s1 I1 A1 R1=>hs hR I1 e2 λγ2 sg2 vs s2 I2 A2 R2=>?_)
 exact hQ _ _ _ _ I2 (A1.trans A2) (.cons (R1.mono A2.kept) R2)
theorem TE.const {t:Sem Value} {x:Val} (h:∀ {A:Around} {E:Value→Shared→Prop} {Q:Value→Shared→Prop} {s:Shared},(∀ v k,(∀ γ sg h,Rep γ sg h x v)→Q v { s with toks:=k })→wpAny (model C.prog C.w) A t Q E s) :
  TE C pl n t (λσ=>some (.val x,σ)):=by
 intro A E Q γ sg σ s r σ' _ I e hQ
 cases e
 exact .of <| h λv k r=>hQ γ sg v _ (I.tok k) (adv_tok k) (r _ _ _) trivial
theorem T_none {env k pos}:TE C pl n (eval (.Constant .none k pos) env) (λσ=>some (.val .none,σ)):=by
 refine TE.const λ {A E Q s} h=>?_
 show wpAny _ _ (pure Value.none) _ _ _
 exact wpAny_pure (h .none s.toks λ_ _ _=>.none)
theorem T_bool {env k pos b}:TE C pl n (eval (.Constant (.bool b) k pos) env) (λσ=>some (.val (.bool b),σ)):=by
 refine TE.const λ {A E Q s} h=>?_
 show wpAny _ _ (pure (Value.bool b)) _ _ _
 exact wpAny_pure (h _ s.toks λ_ _ _=>.bool b)
theorem T_int {env k pos i}:TE C pl n (eval (.Constant (.int i) k pos) env) (λσ=>some (.val (.int i),σ)) :=
 TE.const λh=>wpAny_Constant_int (h _ _ λ_ _ _=>.int _ _)
theorem T_str {env k pos} {x:Str}:TE C pl n (eval (.Constant (.str x) k pos) env) (λσ=>some (.val (.str x.cps.toList),σ)) :=
 TE.const λh=>Calls.Constant_str (h _ _ λ_ _ _=>by
  have:x=⟨x.cps.toList.toArray⟩:=by cases x; simp
  rw [this]; exact .str _ _)
theorem T_bytes {env k pos} {x:List UInt8}:TE C pl n (eval (.Constant (.bytes x) k pos) env) (λσ=>some (.val (.bytes x),σ)) :=
 TE.const λ {A E Q s} h=>(by
  show wpAny _ _ (mkTextBytes x.toArray) _ _ _
  exact λ Γ p hΓ=>h (.bytes x.toArray s.toks) (s.toks + 1) λ_ _ _=>.bytes _ _)
structure Cx where
 scope:Scope
 ix:List (Str×Nat)
structure EnvOk (pl:Nat→Option Place) (cx:Cx) (env:Env):Prop where
 scope:env.scope=cx.scope
 kind:cx.scope.kind=.function
 globals:env.globals=mainGlobals
 builtins:env.builtins=builtinsNs
 loc:∀ x i,cx.ix.lookup x=some i→cx.scope.names.lookup x=some .local→pl i=some (.loc env.locals x)
 dom:∀ i,(∀ x,(x,i) ∉ cx.ix)→pl i=none
 cel:∀ x i,cx.ix.lookup x=some i→cx.scope.names.lookup x=some .cell∨cx.scope.names.lookup x=some .free→∃ c,env.cells.lookup x=some c∧pl i=some (.cell c)
theorem gv_eq:∀ (l:List (Option LV)) (i:Nat),gv l i=(l[i]?).join
 | [],_=>rfl
 | _ :: _,0=>rfl
 | _ :: l,i + 1=>(gv_eq l i).trans (by rw [List.getElem?_cons_succ])
theorem St.get_eq (σ:St) (i:Nat):σ.get i=(σ.vars[i]?).join:=gv_eq _ _
theorem St.get_set (σ:St) (i j:Nat) (x y:LV) (h:(σ.set i x).get j=some y):(i=j∧y=x)∨(i≠j∧σ.get j=some y):=by
 rw [St.get_eq] at h ⊢
 unfold St.set at h
 dsimp only at h
 rw [List.getElem?_set] at h
 split at h
 ·rename_i q; subst q
  split at h
  ·cases h; exact .inl ⟨rfl,rfl⟩
  ·cases h
 ·rename_i q; exact .inr ⟨q,h⟩
theorem Inv.read {γ sg σ s i x σ'} (I:Inv C pl γ sg σ s) (e:readVar i σ=some (x,σ')) :
  ∃ γ' p v,pl i=some p∧p.has s.heap v∧Inv C pl γ' sg σ' s∧Adv γ sg s γ' sg s∧Rep γ' sg s.heap x v:=by
 unfold readVar at e
 have own:∀ {y:LV} {a:Addr} {p v},σ.get i=some y→pl i=some p→p.has s.heap v→γ a=some (.var i)→Rep (γ.upd a none) sg s.heap y.frz v →
   ∃ γ' p v,pl i=some p∧p.has s.heap v∧Inv C pl γ' sg (σ.set i (.val y.frz)) s∧Adv γ sg s γ' sg s∧Rep γ' sg s.heap y.frz v:=by
  intro y a p v _ hp hv hg hr
  have hk:Kept γ sg s.heap (γ.upd a none) sg s.heap:=⟨λb _ e _=>by unfold Gam.upd; split <;> first | rfl | exact e,λ_ _ _ e=>e,List.prefix_refl _⟩
  have ht:∀ b t,γ b=some t→t≠.var i→γ.upd a none b=γ b:=λb t e n=>by
   unfold Gam.upd; split
   ·rename_i q; subst q; rw [hg] at e; cases e; exact absurd rfl n
   ·rfl
  refine ⟨_,p,v,hp,hv,⟨I.gens,I.os,I.keep,λb t e=>?_,λj q e=>?_,I.inj,λj z e=>?_,I.len,λk o b e1 e2=>?_⟩,⟨⟨λ_ o e=>⟨o,e⟩,hk,λb e=>?_,λ_ _ _ e=>e⟩,λb o t e q g=>⟨(ht _ _ e (by rintro rfl; rcases q with q | q <;> cases q)).trans e,g⟩⟩,hr⟩
  ·unfold Gam.upd at e; split at e
   ·cases e
   ·exact I.dom b t e
  ·have:=I.ok j q e
   refine Place.ok_to this ?_ λo e=>e
   rcases Place.ok_tag this with q | q <;> exact ht _ _ q (by intro e; cases e)
  ·rcases St.get_set _ _ _ _ _ e with ⟨rfl,rfl⟩ | ⟨hne,e⟩
   ·exact ⟨p,v,hp,hv,hr⟩
   ·obtain ⟨p',v',h1,h2,h3⟩:=I.vars j z e
    exact ⟨p',v',h1,h2,h3.mono hk λb o e1 e2=>⟨(ht _ _ e1 (by intro e; cases e; exact hne rfl)).trans e1,e2⟩⟩
  ·refine (I.store k o b e1 e2).mono hk λb o q e2=>⟨?_,e2⟩
   rcases q with q | ⟨f,q⟩ | q <;> exact ht _ _ q (by intro e; cases e)
  ·exact (ht _ _ e (by intro e; cases e)).trans e
 split at e
 ·rename_i y hy
  cases e
  obtain ⟨p,v,h1,h2,h3⟩:=I.vars i _ hy
  exact ⟨γ,p,v,h1,h2,I,.refl,h3⟩
 ·rename_i y hn hy
  obtain ⟨rfl,rfl⟩:x=y.frz∧σ'=σ.set i (.val y.frz):=by injection e with e; injection e with e1 e2; exact ⟨e1.symm,e2.symm⟩
  obtain ⟨p,v,h1,h2,h3⟩:=I.vars i _ hy
  cases y with
  | val z=>exact absurd rfl (hn z)
  | olist l =>
   obtain ⟨a,vs,m,rfl,g,o,r⟩:=h3
   have hk:Kept γ sg s.heap (γ.upd a none) sg s.heap:=⟨λb _ e _=>by unfold Gam.upd; split <;> first | rfl | exact e,λ_ _ _ e=>e,List.prefix_refl _⟩
   exact own hy h1 h2 g (.list (Gam.upd_self ..) ⟨_,o,rfl,_,rfl⟩ (r.mono hk))
  | obarr l =>
   obtain ⟨a,rfl,g,o⟩:=h3
   exact own hy h1 h2 g (.barr (Gam.upd_self ..) o)
 ·cases e
noncomputable def isVarKind (sc:Scope) (x:Str):Bool:=match sc.names.lookup x with
 | some .local=>true
 | some .cell=>true
 | some .free=>true
 | _=>false
theorem wp_load {cx env x i p v} {A:Around} {E:Value→Shared→Prop} {Q:Value→Shared→Prop} {s:Shared} (H:EnvOk pl cx env) (hi:cx.ix.lookup x=some i) (hk:isVarKind cx.scope x=true) (hc:(x == ("__classdict__":Str))=false)
  (hp:pl i=some p) (hv:p.has s.heap v) (h:Q v s):wpAny (model C.prog C.w) A (loadName env x) Q E s:=by
 have hkk:env.scope.kind=.function:=H.scope ▸ H.kind
 have hko:env.kindOf x=cx.scope.names.lookup x:=by unfold Env.kindOf; rw [H.scope]
 unfold isVarKind at hk
 split at hk
 ·rename_i q
  have:=H.loc x i hi q
  rw [hp] at this; cases this
  obtain ⟨m,hn,e⟩:=hv
  exact wpAny_loadName_local hkk (hko.trans q) hn e h
 ·rename_i q
  obtain ⟨c,h1,h2⟩:=H.cel x i hi (.inl q)
  rw [hp] at h2; cases h2
  exact wpAny_loadName_cell hkk (hko.trans q) h1 hv h
 ·rename_i q
  obtain ⟨c,h1,h2⟩:=H.cel x i hi (.inr q)
  rw [hp] at h2; cases h2
  exact wpAny_loadName_free hkk (hko.trans q) h1 hv h hc
 ·cases hk
theorem T_var {cx env x i pos} (H:EnvOk pl cx env) (hi:cx.ix.lookup x=some i) (hk:isVarKind cx.scope x=true) (hc:(x == ("__classdict__":Str))=false) (hd:(x == ("__debug__":Str))=false) :
  TE C pl n (eval (.Name x pos) env) (λσ=>rv (σ.get i) i σ):=by
 intro A E Q γ sg σ s r σ' _ I e hQ
 refine rv_inv e λy zz1 e1=>?_; obtain rfl:=zz1
 obtain ⟨γ',p,v,h1,h2,I',A',R⟩:=I.read e1
 exact .of (wpAny_Name (wp_load H hi hk hc h1 h2 (hQ _ _ _ _ I' A' R trivial)) hd)
end
theorem okLen_le {n:Nat} (h:okLen n=true):n≤1000000:=Nat.le_of_ble_eq_true h
theorem sizeLine_ok {n:Nat} (h:okLen n=true):n≤sizeLine:=by have:=okLen_le h; rw [sizeLine_eq]; omega
theorem small_abs {i:Int} (h1:-(2 ^ 63:Int) < i) (h2:i < (2 ^ 63:Int)):i.natAbs < 2 ^ 64:=by omega
theorem small_iff {i:Int} (h:small i=true):-(2 ^ 63:Int) < i∧i < (2 ^ 63:Int):=by
 rw [small_eq] at h
 simpa using h
section
variable {C:Cfg} {pl:Nat→Option Place} {n:Nat} {A:Around} {E:Value→Shared→Prop} {γ:Gam} {sg:List Addr} {σ:St} {s:Shared}
structure PV (C:Cfg) (A:Around) (s:Shared) (t:Sem Value) (x:Val):Prop where
 go:∀ {E:Value→Shared→Prop} {Q:Value→Shared→Prop},(∀ v k,(∀ γ sg h,Rep γ sg h x v)→Q v { s with toks:=k })→wpAny (model C.prog C.w) A t Q E s
theorem usePV {t x} (I:Inv C pl γ sg σ s) (p:PV C A s t x) {Q:Value→Shared→Prop}
  (hQ:KW C pl γ sg s σ (.val x) Q):wpAny (model C.prog C.w) A t Q E s :=
 p.go λv k r=>hQ γ v _ (I.tok k) (adv_tok k) (r _ _ _) trivial
theorem PV.int {t i} (h:∀ {E:Value→Shared→Prop} {Q:Value→Shared→Prop},(∀ u k,Q (.int i u) { s with toks:=k })→wpAny (model C.prog C.w) A t Q E s):PV C A s t (.int i) :=
 ⟨λhQ=>h λu k=>hQ (.int i u) k λ_ _ _=>.int _ _⟩
theorem PV.bool {t b} (h:∀ {E:Value→Shared→Prop} {Q:Value→Shared→Prop},(∀ k,Q (.bool b) { s with toks:=k })→wpAny (model C.prog C.w) A t Q E s):PV C A s t (.bool b) :=
 ⟨λhQ=>h λk=>hQ _ k λ_ _ _=>.bool _⟩
theorem own_list (I:Inv C pl γ sg σ s) {l vs} (R:Reps γ sg s.heap l vs) {Q:Value→Shared→Prop} (m k:Nat)
  (hQ:KW C pl γ sg s σ (.olist l) Q) :
  Q (.ref s.heap.objs.size) { s with heap:=s.heap.push (lstObj vs m),toks:=k }:=by
 refine hQ _ _ _ (I.push (lstObj vs m) (some .prot) k rfl) (I.pushA _ _ _) ⟨_,vs,m,rfl,Gam.upd_self ..,Heap.get?_push_size _ rfl,?_⟩ λa e=>by cases e; exact get?_size _
 exact R.mono (I.pushA (lstObj vs m) (some .prot) k).kept
theorem new_tuple (I:Inv C pl γ sg σ s) {l vs} (R:Reps γ sg s.heap l vs) {Q:Value→Shared→Prop} (m k:Nat)
  (hQ:KW C pl γ sg s σ (.val (.tuple l)) Q) :
  Q (.ref s.heap.objs.size) { s with heap:=s.heap.push { cls:=.type "tuple",data:=.seq vs.toArray m },toks:=k }:=by
 refine hQ _ _ _ (I.push { cls:=.type "tuple",data:=.seq vs.toArray m } none k rfl) (I.pushA _ _ _) (.tuple (Gam.upd_self ..) ⟨_,Heap.get?_push_size _ rfl,rfl,_,rfl⟩ ?_) trivial
 exact R.mono (I.pushA { cls:=.type "tuple",data:=.seq vs.toArray m } none k).kept
theorem wp_intOp (I:Inv C pl γ sg σ s) {op:Operator} {a b:Int} {t u:Tok} {z:LV} (e:intOp op a b=some z) {Q:Value→Shared→Prop}
  (hQ:KW C pl γ sg s σ z Q):wpAny (model C.prog C.w) A (binaryOp op (.int a t) (.int b u)) Q E s:=by
 cases op with
 | Add=>obtain rfl:=sj e; exact usePV I (PV.int λh=>PyProof.Rows.add_int (h _ _)) hQ
 | Sub=>obtain rfl:=sj e; exact usePV I (PV.int λh=>PyProof.Rows.sub_int (h _ _)) hQ
 | Mult =>
  obtain ⟨h,rfl⟩:=ite_some (c:=small b=true) e
  obtain ⟨h1,h2⟩:=small_iff h
  exact usePV I (PV.int λh=>PyProof.Rows.mul_int (h _ _) (.of_right (intBits_le_64 (Int.lt_trans (by decide) h1) (Int.lt_trans h2 (by decide))))) hQ
 | FloorDiv =>
  obtain ⟨h,rfl⟩:=ite_some (c:=b≠0∧b.natAbs < 1073741824) e
  exact usePV I (PV.int λh'=>PyProof.Rows.floordiv_int h.1 (h' _ _) (.inl (PyProof.noPylong_small h.2))) hQ
 | Mod =>
  have e:(if b=0 then none else some (LV.val (.int (Int.fmod a b))))=some z:=e
  by_cases h:b=0
  ·rw [if_pos h] at e; exact nsm e
  ·rw [if_neg h] at e
   obtain rfl:=sj e
   exact usePV I (PV.int λh'=>PyProof.Rows.mod_int' h (h' _ _)) hQ
 | Pow =>
  obtain ⟨h,rfl⟩:=ite_some (c:=(small a && decide (0≤b) && decide (b≤64))=true) e
  simp only [Bool.and_eq_true,decide_eq_true_eq] at h
  obtain ⟨h1,h2⟩:=small_iff h.1.1
  exact usePV I (PV.int λh'=>PyProof.Rows.pow_int_small h.1.2 (Int.le_trans h.2 (by decide)) (small_abs h1 h2) (h' _ _)) hQ
 | RShift =>
  obtain ⟨h,rfl⟩:=ite_some (c:=0≤b) e
  exact usePV I (PV.int λh'=>PyProof.Rows.rshift_int h (h' _ _)) hQ
 | LShift =>
  obtain ⟨h,rfl⟩:=ite_some (c:=(small a && decide (0≤b) && decide (b≤64))=true) e
  simp only [Bool.and_eq_true,decide_eq_true_eq] at h
  obtain ⟨h1,h2⟩:=small_iff h.1.1
  exact usePV I (PV.int λh'=>PyProof.Rows.lshift_int_small h.1.2 (Int.le_trans h.2 (by decide)) (small_abs h1 h2) (h' _ _)) hQ
 | BitAnd=>obtain rfl:=sj e; exact usePV I (PV.int λh=>PyProof.Rows.and_int (h _ _)) hQ
 | BitOr=>obtain rfl:=sj e; exact usePV I (PV.int λh=>PyProof.Rows.or_int (h _ _)) hQ
 | _=>exact nsm e
theorem wp_binop (I:Inv C pl γ sg σ s) {op x y v u z} (hx:Rep γ sg s.heap x v) (hy:Rep γ sg s.heap y u) (e:binop op x y=some z) {Q:Value→Shared→Prop}
  (hQ:KW C pl γ sg s σ z Q):wpAny (model C.prog C.w) A (binaryOp op v u) Q E s:=by
 cases x with
 | int=>cases y with
  | int =>
   obtain ⟨t,rfl⟩:=hx.inv
   obtain ⟨u,rfl⟩:=hy.inv
   exact wp_intOp I e hQ
  | _=>exact nsm e
 | list l=>cases y with
  | list m=>cases op with
   | Add =>
    obtain ⟨hz,rfl⟩:=ite_some (c:=okLen (l.length + m.length)=true) e
    obtain ⟨a,vs,rfl,ga,ha,ra⟩:=hx.inv
    obtain ⟨b,ws,rfl,gb,hb,rb⟩:=hy.inv
    obtain ⟨⟨cls,dd,data,sl⟩,ho,hc,n,hd⟩:=id ha
    obtain ⟨⟨cls2,dd2,data2,sl2⟩,ho2,hc2,n2,hd2⟩:=id hb
    simp only at hc hd hc2 hd2
    subst hc hd hc2 hd2
    have e:vs.toArray ++ ws.toArray=(vs ++ ws).toArray:=by simp
    have hsz:vs.toArray.size + ws.toArray.size≤sizeLine:=by
     have:=sizeLine_ok hz
     rw [List.size_toArray,List.size_toArray,ra.length,rb.length]; exact this
    refine concat_meets ⟨_,ho,rfl⟩ ⟨_,ho2,rfl⟩ noFill_list_add seq_list_add PySem.F.slot_list_add PySem.F.entry_list_add (PySem.F.args_list_add_2 _ _) (list_addW a b vs.toArray ws.toArray n n2 dd dd2 sl sl2 hsz) ⟨ho,ho2,?_⟩
    rw [e]
    exact own_list I (ra.append rb) 0 s.toks hQ
   | _=>exact nsm e
  | _=>exact nsm e
 | bytes l=>cases y with
  | bytes m=>cases op with
   | Add =>
    obtain ⟨hz,rfl⟩:=ite_some (c:=okLen (l.length + m.length)=true) e
    obtain ⟨t,rfl⟩:=hx.inv
    obtain ⟨u,rfl⟩:=hy.inv
    have hz:=okLen_le hz
    refine KBy.add_bytes (by simp only [List.size_toArray]; omega) λt' k=>?_
    rw [List.append_toArray]
    exact hQ γ _ _ (I.tok k) (adv_tok k) (.bytes _ _) trivial
   | _=>exact nsm e
  | _=>exact nsm e
 | _=>exact nsm e
end
end Mine
end
section
open PySem PySem.W PyProof.Rows PySem.Calls PySem.SeqAt
namespace Mine
section
variable {γ:Gam} {sg:List Addr} {h:Heap}
theorem andO_inv {p q:Option Bool} {b} (e:andO p q=some b):∃ x y,p=some x∧q=some y∧b=(x && y):=by
 cases p with
 | none=>exact nsm e
 | some x=>cases q with
  | none=>exact nsm e
  | some y=>exact ⟨x,y,rfl,rfl,(sj e).symm⟩
noncomputable def VeqI (x y:Val) (b:Bool):Prop:=match x with
 | .none=>y=.none∧b=true
 | .bool p=>∃ q,y=.bool q∧b=(p == q)
 | .int p=>∃ q,y=.int q∧b=decide (p=q)
 | .str p=>∃ q,y=.str q∧b=decide (p=q)
 | .bytes p=>∃ q,y=.bytes q∧b=decide (p=q)
 | .tuple l=>∃ m,y=.tuple m∧veqs l m=some b
 | .list l=>∃ m,y=.list m∧veqs l m=some b
 | .barr _=>False
 | .obj _=>False
theorem veq_inv {x y:Val} {b:Bool} (e:veq x y=some b):VeqI x y b:=by
 cases x with
 | none=>cases y with
  | none=>exact ⟨rfl,(sj e).symm⟩
  | _=>exact nsm e
 | bool=>cases y with
  | bool=>exact ⟨_,rfl,(sj e).symm⟩
  | _=>exact nsm e
 | int=>cases y with
  | int=>exact ⟨_,rfl,(sj e).symm⟩
  | _=>exact nsm e
 | str=>cases y with
  | str=>exact ⟨_,rfl,(sj e).symm⟩
  | _=>exact nsm e
 | bytes=>cases y with
  | bytes=>exact ⟨_,rfl,(sj e).symm⟩
  | _=>exact nsm e
 | tuple=>cases y with
  | tuple=>exact ⟨_,rfl,e⟩
  | _=>exact nsm e
 | list=>cases y with
  | list=>exact ⟨_,rfl,e⟩
  | _=>exact nsm e
 | barr=>exact nsm e
 | obj=>exact nsm e
theorem veqs_cons {x y:Val} {l m b} (e:veqs (x :: l) (y :: m)=some b):∃ p q,veq x y=some p∧veqs l m=some q∧b=(p && q):=andO_inv e
theorem veqs_ne:∀ {xs ys:List Val} {b},veqs xs ys=some b→xs.length≠ys.length→b=false
 | [],[],_,_,h=>absurd rfl h
 | [],_ :: _,_,e,_=>(sj e).symm
 | _ :: _,[],_,e,_=>(sj e).symm
 | x :: xs,y :: ys,b,e,h=>by
  obtain ⟨p,q,_,e2,rfl⟩:=veqs_cons e
  rw [veqs_ne e2 λg=>h (congrArg Nat.succ g),Bool.and_false]
theorem ref_inj {a b:Addr} (e:Value.ref a=.ref b):a=b:=by injection e
theorem seq_same {h:Heap} {a vs ws} {c d:Value} (b:∃ o,h.get? a=some o∧o.cls=c∧∃ n,o.data=.seq vs n) (b':∃ o,h.get? a=some o∧o.cls=d∧∃ n,o.data=.seq ws n):vs=ws:=by
 obtain ⟨o,h1,_,n,h3⟩:=b
 obtain ⟨o',k1,_,n',k3⟩:=b'
 obtain rfl:o=o':=sj (h1.symm.trans k1)
 have e:=h3.symm.trans k3
 injection e
theorem Rep.uniq {x:Val} {v:Value} (r:Rep γ sg h x v):∀ {y:Val} {b},Rep γ sg h y v→veq x y=some b→x=y∧b=true :=
 Rep.rec (motive_1:=λx v _=>∀ {y:Val} {b},Rep γ sg h y v→veq x y=some b→x=y∧b=true)
  (motive_2:=λl vs _=>∀ {m:List Val} {b},Reps γ sg h m vs→veqs l m=some b→l=m∧b=true)
  (λ_ e=>by obtain ⟨rfl,rfl⟩:=veq_inv e; exact ⟨rfl,rfl⟩)
  (λp y b r e=>by
   obtain ⟨q,rfl,rfl⟩:=veq_inv e
   have g:Value.bool p=.bool q:=r.inv
   injection g with g; subst g; exact ⟨rfl,by simp⟩)
  (λp t y b r e=>by
   obtain ⟨q,rfl,rfl⟩:=veq_inv e
   obtain ⟨_,g⟩:=r.inv
   injection g with g; subst g; exact ⟨rfl,by simp⟩)
  (λp t y b r e=>by
   obtain ⟨q,rfl,rfl⟩:=veq_inv e
   obtain ⟨_,g⟩:=r.inv
   injection g with g; injection g with g; rw [Array.mk.inj g]; exact ⟨rfl,by simp⟩)
  (λp t y b r e=>by
   obtain ⟨q,rfl,rfl⟩:=veq_inv e
   obtain ⟨_,g⟩:=r.inv
   injection g with g; rw [Array.mk.inj g]; exact ⟨rfl,by simp⟩)
  (λ_ b' _ ih y b r e=>by
   obtain ⟨m,rfl,e⟩:=veq_inv e
   obtain ⟨_,ws,g,_,c',d'⟩:=r.inv
   injection g with g; subst g
   have g:=Array.mk.inj (seq_same b' c'); subst g
   obtain ⟨rfl,rfl⟩:=ih d' e; exact ⟨rfl,rfl⟩)
  (λ_ b' _ ih y b r e=>by
   obtain ⟨m,rfl,e⟩:=veq_inv e
   obtain ⟨_,ws,g,_,c',d'⟩:=r.inv
   injection g with g; subst g
   have g:=Array.mk.inj (seq_same b' c'); subst g
   obtain ⟨rfl,rfl⟩:=ih d' e; exact ⟨rfl,rfl⟩)
  (λ_ _ y b _ e=>(veq_inv e).elim) (λ_ y b _ e=>(veq_inv e).elim)
  (by
   intro m b r e
   cases m with
   | nil=>exact ⟨rfl,(sj e).symm⟩
   | cons=>obtain ⟨_,_,g,_⟩:=r.inv; cases g)
  (λ_ _ ih1 ih2=>by
   intro m b r e
   cases m with
   | nil=>have g:=r.inv; cases g
   | cons y m =>
    obtain ⟨p,q,e1,e2,rfl⟩:=veqs_cons e
    obtain ⟨_,_,g,r1,r2⟩:=r.inv
    injection g with g1 g2; subst g1 g2
    obtain ⟨rfl,rfl⟩:=ih1 r1 e1
    obtain ⟨rfl,rfl⟩:=ih2 r2 e2
    exact ⟨rfl,rfl⟩) r
theorem EqAt.bytes_bytes (A:Around) (s:Shared) (a:Array UInt8) (t:Tok) (b:Array UInt8) (u:Tok):EqAt A s (.bytes a t) (.bytes b u) (decide (a.toList=b.toList)):=λprog w E Q hq=>by
 unfold eqBool
 refine wpAny_holding ?_
 refine wpAny_ite_split (λhab=>?_) (λ_=>?_)
 ·have e:a=b:=by have:=eq_of_beq hab; injection this
  subst e
  exact wpAny_bind (wpAny_rule (wpAny_pure (by simpa using hq)))
 ·refine wpAny_bind ?_
  show wpAny _ _ (compareOp .Eq (.bytes a t) (.bytes b u)) _ _ _
  refine eq_bytes (wpAny_truthy_bool ?_)
  have:(a.toList == b.toList)=decide (a.toList=b.toList):=by rw [Bool.eq_iff_iff]; simp
  rw [this]; exact hq
noncomputable def pairB (xs ys:List Val) (j:Nat):Bool:=(veq (xs.getD j .none) (ys.getD j .none)).getD false
theorem veqs_len:∀ {xs ys:List Val} {b},veqs xs ys=some b→xs.length=ys.length→b=(List.range xs.length).all (pairB xs ys)
 | [],[],_,e,_=>(sj e).symm
 | [],_ :: _,_,_,h=>nomatch h
 | _ :: _,[],_,_,h=>nomatch h
 | x :: xs,y :: ys,b,e,h=>by
  obtain ⟨p,q,hp,hq,rfl⟩:=veqs_cons e
  rw [List.length_cons,List.range_succ_eq_map,List.all_cons,List.all_map,veqs_len hq (Nat.succ.inj h)]
  have e1:pairB (x :: xs) (y :: ys) 0=p:=by show (veq x y).getD false=p; rw [hp]; rfl
  rw [e1]; rfl
theorem veqs_min {xs ys:List Val} {b} (e:veqs xs ys=some b):b=((List.range (min xs.length ys.length)).all (pairB xs ys) && xs.length == ys.length):=by
 by_cases h:xs.length=ys.length
 ·rw [←h,Nat.min_self,←veqs_len e h,beq_self_eq_true,Bool.and_true]
 ·rw [veqs_ne e h,beq_eq_false_iff_ne.mpr h,Bool.and_false]
theorem veqs_get:∀ {xs ys:List Val} {b},veqs xs ys=some b→∀ {j:Nat},j < xs.length→j < ys.length→veq (xs.getD j .none) (ys.getD j .none)=some (pairB xs ys j)
 | [],_,_,_,_,h,_=>absurd h (Nat.not_lt_zero _)
 | _ :: _,[],_,_,_,_,h=>absurd h (Nat.not_lt_zero _)
 | x :: xs,y :: ys,b,e,j,h1,h2=>by
  obtain ⟨p,q,hp,hq,rfl⟩:=veqs_cons e
  cases j with
  | zero=>show veq x y=some ((veq x y).getD false); rw [hp]; rfl
  | succ j=>exact veqs_get hq (j:=j) (Nat.lt_of_succ_lt_succ h1) (Nat.lt_of_succ_lt_succ h2)
section
variable {γ:Gam} {sg:List Addr}
theorem eq_imm {A:Around} {s:Shared} {x y:Val} {v u:Value} {b:Bool} (hx:Rep γ sg s.heap x v) (hy:Rep γ sg s.heap y u) (e:veq x y=some b) (h1:∀ l,x≠.tuple l) (h2:∀ l,x≠.list l):EqAt A s v u b:=by
 have e:=veq_inv e
 cases x with
 | none =>
  obtain ⟨rfl,rfl⟩:=e
  obtain rfl:v=.none:=hx.inv
  obtain rfl:u=.none:=hy.inv
  exact EqAt.same _
 | bool p =>
  obtain ⟨q,rfl,rfl⟩:=e
  obtain rfl:v=.bool _:=hx.inv
  obtain rfl:u=.bool _:=hy.inv
  exact SeqAt.EqAt.bool_bool _ _
 | int p =>
  obtain ⟨q,rfl,rfl⟩:=e
  obtain ⟨t,rfl⟩:=hx.inv
  obtain ⟨t',rfl⟩:=hy.inv
  exact @SeqAt.EqAt.int_int A s p t q t'
 | str p =>
  obtain ⟨q,rfl,rfl⟩:=e
  obtain ⟨t,rfl⟩:=hx.inv
  obtain ⟨t',rfl⟩:=hy.inv
  have z:=@SeqAt.EqAt.str_str A s ⟨p.toArray⟩ t ⟨q.toArray⟩ t'
  have:((⟨p.toArray⟩:Str) == ⟨q.toArray⟩)=decide (p=q):=by rw [Bool.eq_iff_iff]; simp
  rw [this] at z; exact z
 | bytes p =>
  obtain ⟨q,rfl,rfl⟩:=e
  obtain ⟨t,rfl⟩:=hx.inv
  obtain ⟨t',rfl⟩:=hy.inv
  exact EqAt.bytes_bytes _ _ _ _ _ _
 | tuple l=>exact absurd rfl (h1 l)
 | list l=>exact absurd rfl (h2 l)
 | barr=>exact e.elim
 | obj=>exact e.elim
theorem eq_at:∀ (d:Nat) {A:Around} {s:Shared} {x y:Val} {v u:Value} {b:Bool},vshal d x=true→A.units + d < cLine→Rep γ sg s.heap x v→Rep γ sg s.heap y u→veq x y=some b→EqAt A s v u b:=by
 intro d
 induction d with
 | zero=>exact λhd hu hx hy e=>eq_imm hx hy e (λl h=>by subst h; cases hd) (λl h=>by subst h; cases hd)
 | succ d ih =>
  intro A s x y v u b hd hu hx hy e
  have seqs:∀ {l m:List Val} {vs ws:List Value} {b:Bool},l.all (vshal d)=true→Reps γ sg s.heap l vs→Reps γ sg s.heap m ws→veqs l m=some b →
    ∀ j (h1:j < vs.toArray.size) (h2:j < ws.toArray.size),EqAt A.in1 s vs.toArray[j] ws.toArray[j] (pairB l m j):=by
   intro l m vs ws b hl hr hr' e j h1 h2
   simp only [List.size_toArray] at h1 h2
   have l1:=hr.length
   have l2:=hr'.length
   have j1:j < l.length:=l1 ▸ h1
   have j2:j < m.length:=l2 ▸ h2
   obtain ⟨v',e1,r1⟩:=hr.get (List.getElem?_eq_getElem j1)
   obtain ⟨u',e2,r2⟩:=hr'.get (List.getElem?_eq_getElem j2)
   have q:=veqs_get e j1 j2
   rw [List.getD_eq_getElem?_getD,List.getElem?_eq_getElem j1,List.getD_eq_getElem?_getD,List.getElem?_eq_getElem j2] at q
   simp only [Option.getD_some] at q
   have hv:vs[j]=v':=by rw [List.getElem?_eq_getElem h1] at e1; exact sj e1
   have hw:ws[j]=u':=by rw [List.getElem?_eq_getElem h2] at e2; exact sj e2
   simp only [List.getElem_toArray,hv,hw]
   exact ih (List.all_eq_true.mp hl _ (List.getElem_mem j1)) (by show A.units + 1 + d < cLine; omega) r1 r2 q
  cases x with
  | tuple l =>
   obtain ⟨m,rfl,e'⟩:=veq_inv e
   obtain ⟨a,vs,rfl,ga,ha,ra⟩:=hx.inv
   obtain ⟨a',ws,rfl,ga',ha',ra'⟩:=hy.inv
   by_cases haa:a=a'
   ·subst haa
    rw [(Rep.uniq (.tuple ga ha ra) (.tuple ga' ha' ra') e).2]; exact EqAt.same _
   ·refine EqAt.of_refs haa ?_
    have z:=RcAt.tuples (A:=A) ha ha' (by omega) (seqs hd ra ra' e')
    rw [veqs_min e',←ra.length,←ra'.length]
    simpa using z
  | list l =>
   obtain ⟨m,rfl,e'⟩:=veq_inv e
   obtain ⟨a,vs,rfl,ga,ha,ra⟩:=hx.inv
   obtain ⟨a',ws,rfl,ga',ha',ra'⟩:=hy.inv
   by_cases haa:a=a'
   ·subst haa
    rw [(Rep.uniq (.list ga ha ra) (.list ga' ha' ra') e).2]; exact EqAt.same _
   ·refine EqAt.of_refs haa ?_
    by_cases hl:l.length=m.length
    ·have z:=RcAt.lists (A:=A) ha ha' (by simp [ra.length,ra'.length,hl]) (by omega) (seqs hd ra ra' e')
     rw [veqs_len e' hl]
     simpa [ra.length] using z
    ·rw [veqs_ne e' hl]
     exact RcAt.lists_lengths ha ha' (by simp [ra.length,ra'.length,hl]) (by omega)
  | _=>exact eq_imm hx hy e nofun nofun
end
end
section
variable {γ:Gam} {sg:List Addr}
theorem seqs_at {d:Nat} {A:Around} {s:Shared} {l m:List Val} {vs ws:List Value} {b:Bool} (hl:l.all (vshal d)=true) (hu:A.units + 1 + d < cLine) (hr:Reps γ sg s.heap l vs) (hr':Reps γ sg s.heap m ws) (e:veqs l m=some b) :
  ∀ j (h1:j < vs.toArray.size) (h2:j < ws.toArray.size),EqAt A.in1 s vs.toArray[j] ws.toArray[j] (pairB l m j):=by
 intro j h1 h2
 simp only [List.size_toArray] at h1 h2
 have l1:=hr.length
 have l2:=hr'.length
 have j1:j < l.length:=l1 ▸ h1
 have j2:j < m.length:=l2 ▸ h2
 obtain ⟨v',e1,r1⟩:=hr.get (List.getElem?_eq_getElem j1)
 obtain ⟨u',e2,r2⟩:=hr'.get (List.getElem?_eq_getElem j2)
 have q:=veqs_get e j1 j2
 rw [List.getD_eq_getElem?_getD,List.getElem?_eq_getElem j1,List.getD_eq_getElem?_getD,List.getElem?_eq_getElem j2] at q
 simp only [Option.getD_some] at q
 have hv:vs[j]=v':=by rw [List.getElem?_eq_getElem h1] at e1; exact sj e1
 have hw:ws[j]=u':=by rw [List.getElem?_eq_getElem h2] at e2; exact sj e2
 simp only [List.getElem_toArray,hv,hw]
 exact eq_at d (List.all_eq_true.mp hl _ (List.getElem_mem j1)) hu r1 r2 q
theorem int_dec (i j:Int):(i == j)=decide (i=j):=rfl
theorem str_dec (l m:List Nat):((⟨l.toArray⟩:Str) == ⟨m.toArray⟩)=decide (l=m):=by rw [Bool.eq_iff_iff]; simp
theorem bytes_dec (l m:List UInt8):(l.toArray.toList == m.toArray.toList)=decide (l=m):=by rw [Bool.eq_iff_iff]; simp
theorem wp_eq {prog:Program} {w:World} {A:Around} {E:Value→Shared→Prop} {Q:Value→Shared→Prop} {s:Shared} {d:Nat} {x y:Val} {v u:Value} {b:Bool} (hd:vshal d x=true) (hu:A.units + 1 + d < cLine) (hx:Rep γ sg s.heap x v) (hy:Rep γ sg s.heap y u) (e:veq x y=some b)
  (h:Q (.bool b) s):wpAny (model prog w) A (compareOp .Eq v u) Q E s:=by
 cases x with
 | none =>
  obtain ⟨rfl,rfl⟩:=veq_inv e
  obtain rfl:v=.none:=hx.inv
  obtain rfl:u=.none:=hy.inv
  exact RcAt.none_none prog w E Q h
 | bool =>
  obtain ⟨q,rfl,rfl⟩:=veq_inv e
  obtain rfl:v=.bool _:=hx.inv
  obtain rfl:u=.bool _:=hy.inv
  exact RcAt.bool_bool _ _ prog w E Q h
 | int =>
  obtain ⟨q,rfl,rfl⟩:=veq_inv e
  obtain ⟨t,rfl⟩:=hx.inv
  obtain ⟨t',rfl⟩:=hy.inv
  exact PyProof.Rows.eq_int (by rw [int_dec]; exact h)
 | str =>
  obtain ⟨q,rfl,rfl⟩:=veq_inv e
  obtain ⟨t,rfl⟩:=hx.inv
  obtain ⟨t',rfl⟩:=hy.inv
  exact PyProof.Rows.eq_str (by rw [str_dec]; exact h)
 | bytes =>
  obtain ⟨q,rfl,rfl⟩:=veq_inv e
  obtain ⟨t,rfl⟩:=hx.inv
  obtain ⟨t',rfl⟩:=hy.inv
  exact eq_bytes (by rw [bytes_dec]; exact h)
 | tuple l =>
  obtain ⟨m,rfl,e'⟩:=veq_inv e
  obtain ⟨a,vs,rfl,ga,ha,ra⟩:=hx.inv
  obtain ⟨a',ws,rfl,ga',ha',ra'⟩:=hy.inv
  cases d with
  | zero=>cases hd
  | succ d =>
   have z:=RcAt.tuples (A:=A) ha ha' (by omega) (seqs_at hd (by omega) ra ra' e')
   refine z prog w E Q ?_
   rw [veqs_min e'] at h
   simpa [ra.length,ra'.length] using h
 | list l =>
  obtain ⟨m,rfl,e'⟩:=veq_inv e
  obtain ⟨a,vs,rfl,ga,ha,ra⟩:=hx.inv
  obtain ⟨a',ws,rfl,ga',ha',ra'⟩:=hy.inv
  cases d with
  | zero=>cases hd
  | succ d =>
   by_cases hl:l.length=m.length
   ·have z:=RcAt.lists (A:=A) ha ha' (by simp [ra.length,ra'.length,hl]) (by omega) (seqs_at hd (by omega) ra ra' e')
    refine z prog w E Q ?_
    rw [veqs_len e' hl] at h
    simpa [ra.length] using h
   ·rw [veqs_ne e' hl] at h
    exact RcAt.lists_lengths ha ha' (by simp [ra.length,ra'.length,hl]) (by omega) prog w E Q h
 | barr=>exact (veq_inv e).elim
 | obj=>exact (veq_inv e).elim
theorem wp_ne {prog:Program} {w:World} {A:Around} {E:Value→Shared→Prop} {Q:Value→Shared→Prop} {s:Shared} {d:Nat} {x y:Val} {v u:Value} {b:Bool} (hd:vshal d x=true) (hu:A.units + 1 + d < cLine) (hx:Rep γ sg s.heap x v) (hy:Rep γ sg s.heap y u) (e:veq x y=some b)
  (h:Q (.bool (!b)) s):wpAny (model prog w) A (compareOp .NotEq v u) Q E s:=by
 cases x with
 | none =>
  obtain ⟨rfl,rfl⟩:=veq_inv e
  obtain rfl:v=.none:=hx.inv
  obtain rfl:u=.none:=hy.inv
  exact RcNeAt.none_none prog w E Q h
 | bool =>
  obtain ⟨q,rfl,rfl⟩:=veq_inv e
  obtain rfl:v=.bool _:=hx.inv
  obtain rfl:u=.bool _:=hy.inv
  exact RcNeAt.bool_bool _ _ prog w E Q h
 | int =>
  obtain ⟨q,rfl,rfl⟩:=veq_inv e
  obtain ⟨t,rfl⟩:=hx.inv
  obtain ⟨t',rfl⟩:=hy.inv
  exact RcNeAt.int_int _ _ _ _ prog w E Q (by rw [int_dec]; exact h)
 | str =>
  obtain ⟨q,rfl,rfl⟩:=veq_inv e
  obtain ⟨t,rfl⟩:=hx.inv
  obtain ⟨t',rfl⟩:=hy.inv
  exact RcNeAt.str_str _ _ _ _ prog w E Q (by rw [str_dec]; exact h)
 | bytes =>
  obtain ⟨q,rfl,rfl⟩:=veq_inv e
  obtain ⟨t,rfl⟩:=hx.inv
  obtain ⟨t',rfl⟩:=hy.inv
  exact ne_bytes (by rw [bne,bytes_dec]; exact h)
 | tuple l =>
  obtain ⟨m,rfl,e'⟩:=veq_inv e
  obtain ⟨a,vs,rfl,ga,ha,ra⟩:=hx.inv
  obtain ⟨a',ws,rfl,ga',ha',ra'⟩:=hy.inv
  cases d with
  | zero=>cases hd
  | succ d =>
   have z:=RcNeAt.tuples (A:=A) ha ha' (by omega) (seqs_at hd (by omega) ra ra' e')
   refine z prog w E Q ?_
   rw [veqs_min e'] at h
   simpa [ra.length,ra'.length] using h
 | list l =>
  obtain ⟨m,rfl,e'⟩:=veq_inv e
  obtain ⟨a,vs,rfl,ga,ha,ra⟩:=hx.inv
  obtain ⟨a',ws,rfl,ga',ha',ra'⟩:=hy.inv
  cases d with
  | zero=>cases hd
  | succ d =>
   by_cases hl:l.length=m.length
   ·have z:=RcNeAt.lists (A:=A) ha ha' (by simp [ra.length,ra'.length,hl]) (by omega) (seqs_at hd (by omega) ra ra' e')
    refine z prog w E Q ?_
    rw [veqs_len e' hl] at h
    simpa [ra.length] using h
   ·rw [veqs_ne e' hl] at h
    exact RcNeAt.lists_lengths ha ha' (by simp [ra.length,ra'.length,hl]) (by omega) prog w E Q h
 | barr=>exact (veq_inv e).elim
 | obj=>exact (veq_inv e).elim
end
theorem slot_bytes_lt:Slot "bytes" (cmpInfo .Lt).2.1 "bytes.__lt__" :=
 .of (owner:="bytes") (n:="__lt__") (by rw [typeLookup_type,builtinLookup_eq_fast]; kernel_rfl) (by decide +kernel) (by decide +kernel) (by decide +kernel)
  (by first | exact .inl (by decide +kernel) | exact .inr (by decide +kernel)) (by rw [isSubtype_type]; kernel_rfl)
theorem entry_bytes_lt:entryFor table "bytes.__lt__"=some Builtin.«bytes.__lt__»:=entryFor_of_tree (by kernel_rfl)
theorem args_bytes_lt (a b:Value):argsOk "bytes.__lt__" ⟨[a,b],[]⟩:=by unfold argsOk; kernel_rfl
theorem gives_bytes_lt (b c:Array UInt8) (t u:Tok):Gives (Builtin.«bytes.__lt__» ⟨[.bytes b t,.bytes c u],[]⟩) (.val (.bool (bytesLt b.toList c.toList))):=by
 refine .of_wp λM A E s Q hq=>?_
 show wpAny M A (isInstance (.bytes c u) (.type "bytes") >>= λr=>_) _ E s
 refine wpAny_bind (wpAny_isInstance (typeIs_bytes s c u) F.sub_bytes_bytes ?_)
 exact wpAny_pure ⟨_,rfl,hq⟩
section
variable {C:Cfg} {pl:Nat→Option Place} {n:Nat} {A:Around} {E:Value→Shared→Prop} {γ:Gam} {sg:List Addr} {σ:St} {s:Shared}
variable {prog:Program} {w:World}
theorem lt_bytes {b c:Array UInt8} {t u:Tok} {Q:Value→Shared→Prop} (h:Q (.bool (bytesLt b.toList c.toList)) s):wpAny (model prog w) A (compareOp .Lt (.bytes b t) (.bytes c u)) Q E s :=
 compareOp_gives (op:=.Lt) (typeIs_bytes s b t) (typeIs_bytes s c u) slot_bytes_lt entry_bytes_lt (args_bytes_lt _ _) (gives_bytes_lt b c t u) (λe=>nomatch e) h
theorem tuple_ltAt (l b:Addr) (x1 x2 y1 y2:Value) (n n2:Nat) (dd dd2:Option Addr) (sl sl2:Array (Option Value)) (e1:Bool) (r:Bool) :
  Meets (Builtin.«tuple.__lt__» ⟨[.ref l,.ref b],[]⟩)
   (λA R s=>s.heap.get? l=some { cls:=.type "tuple",dict:=dd,data:=.seq #[x1,x2] n,slots:=sl }∧s.heap.get? b=some { cls:=.type "tuple",dict:=dd2,data:=.seq #[y1,y2] n2,slots:=sl2 } ∧
    EqAt A.in1 s x1 y1 e1∧(e1=true→EqAt A.in1 s x2 y2 false) ∧
    (∀ (prog:Program) (w:World) (E:Value→Shared→Prop) (Q:Value→Shared→Prop),Q (.bool r) s→wpAny (model prog w) A.in1 (richCompare .Lt (if e1 then x2 else x1) (if e1 then y2 else y1)) Q E s) ∧
    R (.ok (.ret (.bool r))) s) :=
 .of_wp λprog w A R s h=>by
  obtain ⟨hp,g,d,tk,os⟩:=s; obtain ⟨hl,hb,he1,he2,hc,h⟩:=h
  have f2:=AutoSeq1.sub_tuple_tuple
  have k1:=λE Q=>he1 prog w E Q
  have k3:=λE Q=>hc prog w E Q
  cases e1 with
  | false =>
   simp only [Bool.false_eq_true,if_false] at k3
   wp_walk using AutoSeq1.wpAny_loadPart' hl,AutoSeq1.wpAny_loadPart' hb,k1 _ _,k3 _ _
   exact ⟨_,rfl,h⟩
  | true =>
   have k2:=λE Q=>he2 rfl prog w E Q
   simp only [if_true] at k3
   wp_walk using AutoSeq1.wpAny_loadPart' hl,AutoSeq1.wpAny_loadPart' hb,k1 _ _,k2 _ _,k3 _ _
   exact ⟨_,rfl,h⟩
end
section
variable {A:Around} {E:Value→Shared→Prop} {γ:Gam} {sg:List Addr} {s:Shared}
variable {prog:Program} {w:World}
theorem lt_pair {l b:Addr} {a c:List UInt8} {i j:Int} {Q:Value→Shared→Prop} (hu:A.units + 30 < cLine) (hx:Rep γ sg s.heap (.tuple [.bytes a,.int i]) (.ref l)) (hy:Rep γ sg s.heap (.tuple [.bytes c,.int j]) (.ref b)) {r:Bool}
  (e:(if a=c then (if i=j then none else some (decide (i < j))) else some (bytesLt a c))=some r) (h:Q (.bool r) s):wpAny (model prog w) A (compareOp .Lt (.ref l) (.ref b)) Q E s:=by
    obtain ⟨_,vs,g,ga,ha,ra⟩:=hx.inv
    obtain rfl:=ref_inj g
    obtain ⟨_,ws,g,gb,hb,rb⟩:=hy.inv
    obtain rfl:=ref_inj g
    obtain ⟨v1,v2,rfl,r1,r2⟩:=ra.inv2
    obtain ⟨v3,v4,rfl,t1,t2⟩:=rb.inv2
    obtain ⟨k1,rfl⟩:=r1.inv
    obtain ⟨k2,rfl⟩:=r2.inv
    obtain ⟨k3,rfl⟩:=t1.inv
    obtain ⟨k4,rfl⟩:=t2.inv
    obtain ⟨⟨cls,dd,data,sl⟩,ho,hc,n,hd⟩:=id ha
    obtain ⟨⟨cls2,dd2,data2,sl2⟩,ho2,hc2,n2,hd2⟩:=id hb
    simp only at hc hd hc2 hd2
    subst hc hd hc2 hd2
    show wpAny _ _ (richCompare .Lt (.ref l) (.ref b)) Q E s
    split at e
    ·rename_i hac
     subst hac
     split at e
     ·cases e
     ·rename_i hij
      cases e
      refine richCompare_meets_room (op:=.Lt) ⟨_,ho,rfl⟩ ⟨_,ho2,rfl⟩ F.slot_tuple_lt F.entry_tuple_lt (F.args_tuple_lt_2 _ _) (tuple_ltAt l b _ _ _ _ n n2 dd dd2 sl sl2 true (decide (i < j)))
       ⟨ho,ho2,?_,λ_=>?_,λprog w E Q hq=>?_,⟨nofun,h⟩⟩ (by omega)
      ·have:=EqAt.bytes_bytes A.in1 s a.toArray k1 a.toArray k3
       simpa using this
      ·have:=@SeqAt.EqAt.int_int A.in1 s i k2 j k4
       have e:(i == j)=false:=by simpa using hij
       rw [e] at this; exact this
      ·simp only [if_true]
       exact PyProof.Rows.lt_int hq
    ·rename_i hac
     cases e
     refine richCompare_meets_room (op:=.Lt) ⟨_,ho,rfl⟩ ⟨_,ho2,rfl⟩ F.slot_tuple_lt F.entry_tuple_lt (F.args_tuple_lt_2 _ _) (tuple_ltAt l b _ _ _ _ n n2 dd dd2 sl sl2 false (bytesLt a c))
      ⟨ho,ho2,?_,nofun,λprog w E Q hq=>?_,⟨nofun,h⟩⟩ (by omega)
     ·have:=EqAt.bytes_bytes A.in1 s a.toArray k1 c.toArray k3
      simpa [hac] using this
     ·simp only [Bool.false_eq_true,if_false]
      exact lt_bytes hq
theorem intO_inv {x:Val} {a} (e:intO x=some a):x=.int a:=by
 cases x with
 | int=>obtain rfl:=sj e; rfl
 | _=>exact nsm e
theorem bytesO_inv {x:Val} {a} (e:bytesO x=some a):x=.bytes a:=by
 cases x with
 | bytes=>obtain rfl:=sj e; rfl
 | _=>exact nsm e
theorem two_inv {α β:Type} {f:Val→Option α} {g:Val→Option β} {l p} (e:two f g l=some p):∃ x y,l=[x,y]∧f x=some p.1∧g y=some p.2:=by
 match l with
 | []=>exact nsm e
 | [_]=>exact nsm e
 | _ :: _ :: _ :: _=>exact nsm e
 | [x,y] =>
  have e:(match f x with
   | some a=>(match g y with
    | some b=>some (a,b)
    | none=>none)
   | none=>none)=some p:=e
  cases h1:f x with
  | none=>rw [h1] at e; exact nsm e
  | some a=>cases h2:g y with
   | none=>rw [h1,h2] at e; exact nsm e
   | some b=>rw [h1,h2] at e; obtain rfl:=sj e; exact ⟨x,y,rfl,h1,h2⟩
theorem any_two (a b c:Int):[b,c].any (· == a)=(decide (a=b) || decide (a=c)):=by
 rw [List.any_cons,List.any_cons,List.any_nil,Bool.or_false,int_dec,int_dec]
 by_cases h1:a=b <;> by_cases h2:a=c <;> simp [h1,h2,eq_comm]
theorem intC_go {h:Heap} {G:Value→Value→Bool→Prop} {f:Int→Int→Bool} {x y:Val} {v u b} (hx:Rep γ sg h x v) (hy:Rep γ sg h y u) (e:intC f x y=some b) (c:∀ i s j t,G (.int i s) (.int j t) (f i j)):G v u b:=by
 induction hx using Rep.casesOn with
 | int i s=>induction hy using Rep.casesOn with
  | int j t=>exact sj e ▸ c i s j t
  | _=>exact nsm e
 | _=>exact nsm e
theorem lt_go {h:Heap} {G:Value→Value→Bool→Prop} {x y:Val} {v u b} (hx:Rep γ sg h x v) (hy:Rep γ sg h y u) (e:ltV x y=some b) (c1:∀ i s j t,G (.int i s) (.int j t) (decide (i < j)))
  (c2:∀ l s m t,G (.str ⟨List.toArray l⟩ s) (.str ⟨List.toArray m⟩ t) (strLt l m)) (c3:∀ l s m t,G (.bytes (List.toArray l) s) (.bytes (List.toArray m) t) (bytesLt l m))
  (c4:∀ a1 a2 p q b,Rep γ sg h (.tuple [.bytes p.1,.int p.2]) (.ref a1)→Rep γ sg h (.tuple [.bytes q.1,.int q.2]) (.ref a2)→ltP p q=some b→G (.ref a1) (.ref a2) b):G v u b:=by
 induction hx using Rep.casesOn with
 | int i s=>exact intC_go (f:=λa b=>decide (a < b)) (.int i s) hy e c1
 | str l s=>induction hy using Rep.casesOn with
  | str m t=>exact sj e ▸ c2 l s m t
  | _=>exact nsm e
 | bytes l s=>induction hy using Rep.casesOn with
  | bytes m t=>exact sj e ▸ c3 l s m t
  | _=>exact nsm e
 | @tuple a1 vs l g i r=>induction hy using Rep.casesOn with
  | @tuple a2 ws m g2 i2 r2 =>
   have e:(match two bytesO intO l with
    | some p=>(match two bytesO intO m with
     | some q=>ltP p q
     | none=>none)
    | none=>none)=some b:=e
   cases h1:two bytesO intO l with
   | none=>rw [h1] at e; exact nsm e
   | some p=>cases h2:two bytesO intO m with
    | none=>rw [h1,h2] at e; exact nsm e
    | some q =>
     rw [h1,h2] at e
     obtain ⟨x1,x2,rfl,f1,f2⟩:=two_inv h1
     obtain ⟨y1,y2,rfl,f3,f4⟩:=two_inv h2
     obtain rfl:=bytesO_inv f1
     obtain rfl:=intO_inv f2
     obtain rfl:=bytesO_inv f3
     obtain rfl:=intO_inv f4
     exact c4 a1 a2 p q b (.tuple g i r) (.tuple g2 i2 r2) e
  | _=>exact nsm e
 | _=>exact nsm e
theorem le_go {h:Heap} {G:Value→Value→Bool→Prop} {x y:Val} {v u b} (hx:Rep γ sg h x v) (hy:Rep γ sg h y u) (e:leV x y=some b) (c1:∀ i s j t,G (.int i s) (.int j t) (decide (i≤j)))
  (c2:∀ l s m t,G (.str ⟨List.toArray l⟩ s) (.str ⟨List.toArray m⟩ t) (!strLt m l)):G v u b:=by
 induction hx using Rep.casesOn with
 | int i s=>exact intC_go (f:=λa b=>decide (a≤b)) (.int i s) hy e c1
 | str l s=>induction hy using Rep.casesOn with
  | str m t=>exact sj e ▸ c2 l s m t
  | _=>exact nsm e
 | _=>exact nsm e
theorem in_go {h:Heap} {G:Value→Value→Bool→Prop} {x y:Val} {v u b} (hx:Rep γ sg h x v) (hy:Rep γ sg h y u) (e:inV x y=some b)
  (c:∀ i t i1 t1 i2 t2 a,h.IsTuple a [Value.int i1 t1,.int i2 t2].toArray→G (.int i t) (.ref a) (decide (i=i1) || decide (i=i2))):G v u b:=by
 induction hx using Rep.casesOn with
 | int i s=>induction hy using Rep.casesOn with
  | @tuple a vs l g ht r =>
   have e:(match two intO intO l with
    | some p=>some (decide (i=p.1) || decide (i=p.2))
    | none=>none)=some b:=e
   cases h1:two intO intO l with
   | none=>rw [h1] at e; exact nsm e
   | some p =>
    rw [h1] at e
    obtain ⟨x1,x2,rfl,f1,f2⟩:=two_inv h1
    obtain rfl:=intO_inv f1
    obtain rfl:=intO_inv f2
    obtain ⟨v1,v2,rfl,r1,r2⟩:=r.inv2
    obtain ⟨t1,rfl⟩:=r1.inv
    obtain ⟨t2,rfl⟩:=r2.inv
    exact sj e ▸ c i s p.1 t1 p.2 t2 a ht
  | _=>exact nsm e
 | _=>exact nsm e
theorem none_go {h:Heap} {G:Value→Bool→Prop} {x:Val} {v} {b:Bool} (hx:Rep γ sg h x v) (e:isN x .none=some b) (c0:G .none true) (c1:∀ i t,G (.int i t) false) (c2:∀ l t,G (.str l t) false)
  (c3:∀ l t,G (.bytes l t) false) (c4:∀ a,G (.ref a) false):G v b:=by
 induction hx using Rep.casesOn with
 | none=>exact sj e ▸ c0
 | int=>exact sj e ▸ c1 _ _
 | str=>exact sj e ▸ c2 _ _
 | bytes=>exact sj e ▸ c3 _ _
 | tuple=>exact sj e ▸ c4 _
 | _=>exact nsm e
theorem nnone_go {h:Heap} {G:Value→Bool→Prop} {x:Val} {v} {b:Bool} (hx:Rep γ sg h x v) (e:isNN x .none=some b) (c0:G .none false) (c1:∀ i t,G (.int i t) true) (c4:∀ a,G (.ref a) true):G v b:=by
 induction hx using Rep.casesOn with
 | none=>exact sj e ▸ c0
 | int=>exact sj e ▸ c1 _ _
 | tuple=>exact sj e ▸ c4 _
 | _=>exact nsm e
theorem isr_go {h:Heap} {G:Value→Prop} {x y:Val} {u} {b:Bool} (hy:Rep γ sg h y u) (c:isN x .none=some b→G .none):isN x y=some b→G u:=by
 induction hy using Rep.casesOn with
 | none=>exact c
 | _=>exact λe=>nsm e
theorem isnr_go {h:Heap} {G:Value→Prop} {x y:Val} {u} {b:Bool} (hy:Rep γ sg h y u) (c:isNN x .none=some b→G .none):isNN x y=some b→G u:=by
 induction hy using Rep.casesOn with
 | none=>exact c
 | _=>exact λe=>nsm e
theorem wp_cmp {op:CmpOp} {x y:Val} {v u:Value} {b:Bool} {Q:Value→Shared→Prop} (hu:A.units + 30 < cLine) (hx:Rep γ sg s.heap x v) (hy:Rep γ sg s.heap y u) (e:cmpop op x y=some b)
  (h:Q (.bool b) s):wpAny (model prog w) A (compareOp op v u) Q E s:=by
 cases op with
 | Eq =>
  obtain ⟨hd,e⟩:=ite_some' (c:=vshal 20 x=true) (o:=veq x y) e
  exact wp_eq hd (by omega) hx hy e h
 | NotEq =>
  obtain ⟨hd,e⟩:=ite_some' (c:=vshal 20 x=true) (o:=(veq x y).map (!·)) e
  obtain ⟨b',e',rfl⟩:=Option.map_eq_some_iff.mp e
  exact wp_ne hd (by omega) hx hy e' h
 | Lt=>exact lt_go (G:=λv u b=>Q (.bool b) s→wpAny (model prog w) A (compareOp .Lt v u) Q E s) hx hy e (λ_ _ _ _ h=>PyProof.Rows.lt_int h) (λ_ _ _ _ h=>PyProof.Rows.lt_str h) (λ_ _ _ _ h=>lt_bytes h) (λ_ _ _ _ _ r1 r2 e h=>lt_pair hu r1 r2 e h) h
 | LtE=>exact le_go (G:=λv u b=>Q (.bool b) s→wpAny (model prog w) A (compareOp .LtE v u) Q E s) hx hy e (λ_ _ _ _ h=>PyProof.Rows.le_int h) (λ_ _ _ _ h=>P.le_str h) h
 | Gt=>exact intC_go (G:=λv u b=>Q (.bool b) s→wpAny (model prog w) A (compareOp .Gt v u) Q E s) hx hy e (λ_ _ _ _ h=>PyProof.Rows.gt_int h) h
 | GtE=>exact intC_go (G:=λv u b=>Q (.bool b) s→wpAny (model prog w) A (compareOp .GtE v u) Q E s) hx hy e (λ_ _ _ _ h=>PyProof.Rows.ge_int h) h
 | In=>exact in_go (G:=λv u b=>Q (.bool b) s→wpAny (model prog w) A (compareOp .In v u) Q E s) hx hy e (λ_ _ _ _ _ _ _ ht h=>by
   refine PyProof.Rows.in_tuple_ints (show IsTup s.heap _ _ from ht) (.cons _ _ (.cons _ _ .nil)) ?_
   rw [any_two]; exact h) h
 | Is=>exact isr_go (G:=λu=>Q (.bool b) s→wpAny (model prog w) A (compareOp .Is v u) Q E s) hy (λe=>none_go (G:=λv b=>Q (.bool b) s→wpAny (model prog w) A (compareOp .Is v .none) Q E s) hx e (λh=>is_none_gen h) (λ_ _ h=>is_none_gen h) (λ_ _ h=>is_none_gen h) (λ_ _ h=>is_none_gen h) (λ_ h=>is_none_gen h)) e h
 | IsNot=>exact isnr_go (G:=λu=>Q (.bool b) s→wpAny (model prog w) A (compareOp .IsNot v u) Q E s) hy (λe=>nnone_go (G:=λv b=>Q (.bool b) s→wpAny (model prog w) A (compareOp .IsNot v .none) Q E s) hx e (λh=>isnot_none_gen h) (λ_ _ h=>isnot_none_gen h) (λ_ h=>isnot_none_gen h)) e h
 | _=>exact nsm e
end
theorem NewR.up {s s':Shared} (h:∀ a o,s.heap.get? a=some o→∃ o',s'.heap.get? a=some o'):∀ {x v},NewR s' x v→NewR s x v
 | .val _,_,_=>trivial
 | .olist _,_,k=>λa e=>by
  cases q:s.heap.get? a with
  | none=>rfl
  | some o=>obtain ⟨o',e'⟩:=h a o q; rw [k a e] at e'; cases e'
 | .obarr _,_,k=>λa e=>by
  cases q:s.heap.get? a with
  | none=>rfl
  | some o=>obtain ⟨o',e'⟩:=h a o q; rw [k a e] at e'; cases e'
theorem Room.units {n:Nat} {A:Around} (h:Room n A):A.units + 30 < cLine:=by have:=h.2.2; omega
section
variable {A:Around} {E:Value→Shared→Prop} {γ:Gam} {sg:List Addr} {s:Shared}
variable {prog:Program} {w:World}
theorem wp_truth {x:Val} {v:Value} {b:Bool} {Q:Bool→Shared→Prop} (hx:Rep γ sg s.heap x v) (e:truth x=some b) (h:∀ k,Q b { s with toks:=k }):wpAny (model prog w) A (truthy v) Q E s:=by
 cases x with
 | none =>
  obtain rfl:v=.none:=hx.inv
  obtain rfl:=sj e
  exact truthy_none (h s.toks)
 | bool =>
  obtain rfl:v=.bool _:=hx.inv
  obtain rfl:=sj e
  exact wpAny_truthy_bool (h s.toks)
 | int =>
  obtain ⟨t,rfl⟩:=hx.inv
  obtain rfl:=sj e
  exact PyProof.Rows.truthy_int (h s.toks)
 | list l =>
  obtain ⟨hl,rfl⟩:=ite_some (c:=okLen l.length=true) e
  have hl:=okLen_le hl
  obtain ⟨a,vs,rfl,g,hh,r⟩:=hx.inv
  have h2:=h (s.toks + 1 + 1)
  have e2:(!l.isEmpty)=!vs.toArray.isEmpty:=by
   cases l with
   | nil=>obtain rfl:vs=[]:=r.inv; rfl
   | cons=>obtain ⟨_,_,rfl,_⟩:=r.inv; rfl
  rw [e2] at h2
  exact wpAny_truthy_list hh (by simp only [List.size_toArray,r.length]; omega) h2
 | _=>exact nsm e
end
section
variable {C:Cfg} {pl:Nat→Option Place} {n:Nat} {T:Tabs} {cf:CF} {env:Env}
theorem T_bin {l r:Expr} {op:Operator} {pos:Pos} {a b:ME} (ha:TE C pl n (eval l env) (evE T cf a)) (hb:TE C pl n (eval r env) (evE T cf b)) :
  TE C pl n (eval (.BinOp l op r pos) env) (evE T cf (.bin op a b)):=by
 intro A E Q γ sg σ s z σ' hR I e hQ
 refine k2_inv (r:=evE T cf a σ) (e:=evE T cf b) e λx σ1 y e1 e2 e3=>?_
 refine N_BinOp (ha.val hR I e1 λγ1 sg1 v1 s1 I1 A1 R1=>hb.val hR I1 e2 λγ2 sg2 v2 s2 I2 A2 R2=>?_)
 exact .of <| wp_binop I2 (R1.mono A2.kept) R2 e3 λγ3 v3 s3 I3 A3 R3 N3=>hQ _ _ _ _ I3 ((A1.trans A2).trans A3) R3 (NewR.up (A1.trans A2).there N3)
theorem T_neg {x:Expr} {pos:Pos} {a:ME} (ha:TE C pl n (eval x env) (evE T cf a)):TE C pl n (eval (.UnaryOp .USub x pos) env) (evE T cf (.neg a)):=by
 intro A E Q γ sg σ s z σ' hR I e hQ
 refine k1_inv (r:=evE T cf a σ) e λx e1 e2=>?_
 refine ng_inv e2 λi zz1 zz2=>?_; obtain rfl:=zz1; obtain rfl:=zz2
 refine N_UnaryOp (ha.val hR I e1 λγ1 sg1 v1 s1 I1 A1 R1=>?_)
 obtain ⟨t,rfl⟩:=R1.inv
 exact .of <| PyProof.Rows.neg_int (hQ _ _ _ _ (I1.tok _) (A1.trans (adv_tok _)) (.int _ _) trivial)
theorem T_not {x:Expr} {pos:Pos} {a:ME} (ha:TE C pl n (eval x env) (evE T cf a)):TE C pl n (eval (.UnaryOp .Not x pos) env) (evE T cf (.not a)):=by
 intro A E Q γ sg σ s z σ' hR I e hQ
 refine k1_inv (r:=evE T cf a σ) e λy e1 e2=>?_
 refine ntB_inv e2 λb e4 zz1=>?_; obtain rfl:=zz1
 refine N_UnaryOp (ha.val hR I e1 λγ1 sg1 v1 s1 I1 A1 R1=>?_)
 exact .of <| not_of (wp_truth R1 e4 λk=>hQ _ _ _ _ (I1.tok _) (A1.trans (adv_tok _)) (.bool _) trivial)
theorem T_one {op:BoolOp} {x:Expr} {pos:Pos} {a:ME} (ha:TE C pl n (eval x env) (evE T cf a)):TE C pl n (eval (.BoolOp op [x] pos) env) (evE T cf a) :=
 λhR I e hQ=>(ha hR I e hQ)
theorem T_and {x y:Expr} {rest:List Expr} {pos:Pos} {a b:ME} (ha:TE C pl n (eval x env) (evE T cf a)) (hb:TE C pl n (eval (.BoolOp .And (y :: rest) pos) env) (evE T cf b)) :
  TE C pl n (eval (.BoolOp .And (x :: y :: rest) pos) env) (evE T cf (.and a b)):=by
 intro A E Q γ sg σ s z σ' hR I e hQ
 refine kand_inv (r:=evE T cf a σ) (e:=evE T cf b) e λp σ1 e1 e=>?_
 refine N_and (ha.val hR I e1 λγ1 sg1 v1 s1 I1 A1 R1=>?_)
 obtain ⟨ht,e⟩ | ⟨ht,rfl,rfl⟩:=e
 ·exact .of <| wp_truth R1 ht λk=>hb hR (I1.tok k) e λγ2 sg2 v2 s2 I2 A2 R2 N2=>hQ _ _ _ _ I2 ((A1.trans (adv_tok k)).trans A2) R2 (NewR.up A1.there N2)
 ·exact .of <| wp_truth R1 ht λk=>hQ _ _ _ _ (I1.tok k) (A1.trans (adv_tok k)) R1 trivial
theorem T_cmp {l r:Expr} {op:CmpOp} {pos:Pos} {a b:ME} (hm:behindInMarks op r=false) (ha:TE C pl n (eval l env) (evE T cf a)) (hb:TE C pl n (eval r env) (evE T cf b)) :
  TE C pl n (eval (.Compare l [op] [r] pos) env) (evE T cf (.cmp op a b)):=by
 intro A E Q γ sg σ s z σ' hR I e hQ
 refine k2_inv (r:=evE T cf a σ) (e:=evE T cf b) e λx σ1 y e1 e2 e3=>?_
 refine co_inv e3 λz' e4 zz1=>?_; obtain rfl:=zz1
 refine N_Compare1 (ha.val hR I e1 λγ1 sg1 v1 s1 I1 A1 R1=>hb.val hR I1 e2 λγ2 sg2 v2 s2 I2 A2 R2=>?_) hm
 exact .of <| wp_cmp hR.units (R1.mono A2.kept) R2 e4 (hQ _ _ _ _ I2 (A1.trans A2) (.bool _) trivial)
theorem T_cmp2 {l r q:Expr} {op1 op2:CmpOp} {pos:Pos} {a b c:ME} (hm:lastMarks [op1,op2] [r,q]=false) (ha:TE C pl n (eval l env) (evE T cf a)) (hb:TE C pl n (eval r env) (evE T cf b)) (hc:TE C pl n (eval q env) (evE T cf c)) :
  TE C pl n (eval (.Compare l [op1,op2] [r,q] pos) env) (evE T cf (.cmp2 op1 op2 a b c)):=by
 intro A E Q γ sg σ s z σ' hR I e hQ
 refine kc2_inv (r:=evE T cf a σ) (b:=evE T cf b) (c:=evE T cf c) e λx σ1 y σ2 e1 e2 e=>?_
 refine N_chain (ha.val hR I e1 λγ1 sg1 v1 s1 I1 A1 R1=>?_) hm
 refine N_chain_link (hb.val hR I1 e2 λγ2 sg2 v2 s2 I2 A2 R2=>?_)
 obtain ⟨ht,w,t,e3,e4,rfl⟩ | ⟨ht,rfl,rfl⟩:=e
 ·refine .of <| wp_cmp hR.units (R1.mono A2.kept) R2 ht (.of (wpAny_truthy_bool ?_))
  refine N_chain_last (hc.val hR I2 e3 λγ3 sg3 v3 s3 I3 A3 R3=>?_)
  exact .of <| wp_cmp hR.units (R2.mono A3.kept) R3 e4 (hQ _ _ _ _ I3 ((A1.trans A2).trans A3) (.bool _) trivial)
 ·exact .of <| wp_cmp hR.units (R1.mono A2.kept) R2 ht (.of <| wpAny_truthy_bool (hQ _ _ _ _ I2 (A1.trans A2) (.bool _) trivial))
noncomputable def KT (C:Cfg) (pl:Nat→Option Place) (γ:Gam) (sg:List Addr) (s:Shared) (σ':St) (b:Bool) (Q:Bool→Shared→Prop):Prop:=∀ γ' sg' s',Inv C pl γ' sg' σ' s'→Adv γ sg s γ' sg' s'→Q b s'
noncomputable def TT (C:Cfg) (pl:Nat→Option Place) (n:Nat) (t:Sem Bool) (f:St→Option (LV×St)):Prop :=
 ∀ {A:Around} {E:Value→Shared→Prop} {Q:Bool→Shared→Prop} {γ sg σ s r σ' b},Room n A→Inv C pl γ sg σ s→f σ=some (r,σ')→truth r.frz=some b →
  KT C pl γ sg s σ' b Q→wpN (model C.prog C.w) A t Q E s
theorem TT_value {x:Expr} {a:ME} (ha:TE C pl n (eval x env) (evE T cf a)) (he:isTrue x env (eval x env)=(do let v ←eval x env; standAt x.pos; holding [v] (truthy v))) :
  TT C pl n (isTrue x env (eval x env)) (evE T cf a):=by
 intro A E Q γ sg σ s r σ' b hR I e ht hQ
 exact N_isTrue_plain (ha.val hR I e λγ1 sg1 v1 s1 I1 A1 R1=>.of <| wp_truth R1 ht λk=>hQ _ _ _ (I1.tok k) (A1.trans (adv_tok k))) he
theorem TT_not {x:Expr} {pos:Pos} {a:ME} {whole} (ha:TT C pl n (isTrue x env (eval x env)) (evE T cf a)):TT C pl n (isTrue (.UnaryOp .Not x pos) env whole) (evE T cf (.not a)):=by
 intro A E Q γ sg σ s r σ' b hR I e ht hQ
 refine k1_inv (r:=evE T cf a σ) e λy e1 e2=>?_
 refine ntB_inv e2 λb' e4 zz1=>?_; obtain rfl:=zz1
 obtain rfl:=sj ht
 exact N_isTrue_not (ha hR I e1 e4 hQ)
theorem TT_one {op:BoolOp} {x:Expr} {pos:Pos} {a:ME} {whole} (ha:TT C pl n (isTrue x env (eval x env)) (evE T cf a)):TT C pl n (isTrue (.BoolOp op [x] pos) env whole) (evE T cf a):=by
 intro A E Q γ sg σ s r σ' b hR I e ht hQ
 cases op with
 | And=>exact N_isTrue_and (ha hR I e ht λγ1 sg1 s1 I1 A1=>by
   cases b with
   | true=>exact wpN_pure (a:=true) (hQ _ _ _ I1 A1)
   | false=>exact hQ _ _ _ I1 A1)
 | Or=>exact N_isTrue_or (ha hR I e ht λγ1 sg1 s1 I1 A1=>by
   cases b with
   | true=>exact hQ _ _ _ I1 A1
   | false=>exact wpN_pure (a:=false) (hQ _ _ _ I1 A1))
theorem TT_and {x:Expr} {rest:List Expr} {pos:Pos} {a b:ME} {whole} (ha:TT C pl n (isTrue x env (eval x env)) (evE T cf a)) (hb:TT C pl n (isTrue (.BoolOp .And rest pos) env whole) (evE T cf b)) :
  TT C pl n (isTrue (.BoolOp .And (x :: rest) pos) env whole) (evE T cf (.and a b)):=by
 intro A E Q γ sg σ s r σ' c hR I e ht hQ
 refine kand_inv (r:=evE T cf a σ) (e:=evE T cf b) e λp σ1 e1 e=>?_
 obtain ⟨h1,e⟩ | ⟨h1,rfl,rfl⟩:=e
 ·exact N_isTrue_and (ha hR I e1 h1 λγ1 sg1 s1 I1 A1=>hb hR I1 e ht λγ2 sg2 s2 I2 A2=>hQ _ _ _ I2 (A1.trans A2))
 ·obtain rfl:=sj (h1.symm.trans ht)
  exact N_isTrue_and (ha hR I e1 h1 λγ1 sg1 s1 I1 A1=>hQ _ _ _ I1 A1)
theorem TT_or {x:Expr} {rest:List Expr} {pos:Pos} {a b:ME} {whole} (ha:TT C pl n (isTrue x env (eval x env)) (evE T cf a)) (hb:TT C pl n (isTrue (.BoolOp .Or rest pos) env whole) (evE T cf b)) :
  TT C pl n (isTrue (.BoolOp .Or (x :: rest) pos) env whole) (evE T cf (.or a b)):=by
 intro A E Q γ sg σ s r σ' c hR I e ht hQ
 refine kor_inv (r:=evE T cf a σ) (e:=evE T cf b) e λp σ1 e1 e=>?_
 obtain ⟨h1,rfl,rfl⟩ | ⟨h1,e⟩:=e
 ·obtain rfl:=sj (h1.symm.trans ht)
  exact N_isTrue_or (ha hR I e1 h1 λγ1 sg1 s1 I1 A1=>hQ _ _ _ I1 A1)
 ·exact N_isTrue_or (ha hR I e1 h1 λγ1 sg1 s1 I1 A1=>hb hR I1 e ht λγ2 sg2 s2 I2 A2=>hQ _ _ _ I2 (A1.trans A2))
theorem TT_cmp {l r:Expr} {op:CmpOp} {pos:Pos} {a b:ME} {whole} (hm:behindInMarks op r=false) (ha:TE C pl n (eval l env) (evE T cf a)) (hb:TE C pl n (eval r env) (evE T cf b)) :
  TT C pl n (isTrue (.Compare l [op] [r] pos) env whole) (evE T cf (.cmp op a b)):=by
 intro A E Q γ sg σ s z σ' c hR I e ht hQ
 refine k2_inv (r:=evE T cf a σ) (e:=evE T cf b) e λx σ1 y e1 e2 e3=>?_
 refine co_inv e3 λz' e4 zz1=>?_; obtain rfl:=zz1
 obtain rfl:=sj ht
 refine N_isTrue_Compare1 (ha.val hR I e1 λγ1 sg1 v1 s1 I1 A1 R1=>hb.val hR I1 e2 λγ2 sg2 v2 s2 I2 A2 R2=>?_) hm
 exact .of <| wp_cmp hR.units (R1.mono A2.kept) R2 e4 (.of <| wpAny_truthy_bool (hQ _ _ _ I2 (A1.trans A2)))
theorem TT_cmp2 {l r q:Expr} {op1 op2:CmpOp} {pos:Pos} {a b c:ME} {whole} (hm:lastMarks [op1,op2] [r,q]=false) (ha:TE C pl n (eval l env) (evE T cf a)) (hb:TE C pl n (eval r env) (evE T cf b)) (hc:TE C pl n (eval q env) (evE T cf c)) :
  TT C pl n (isTrue (.Compare l [op1,op2] [r,q] pos) env whole) (evE T cf (.cmp2 op1 op2 a b c)):=by
 intro A E Q γ sg σ s z σ' d hR I e ht hQ
 refine kc2_inv (r:=evE T cf a σ) (b:=evE T cf b) (c:=evE T cf c) e λx σ1 y σ2 e1 e2 e=>?_
 refine N_isTrue_chain (ha.val hR I e1 λγ1 sg1 v1 s1 I1 A1 R1=>?_) hm
 refine N_test_link (hb.val hR I1 e2 λγ2 sg2 v2 s2 I2 A2 R2=>?_)
 obtain ⟨h1,w,t,e3,e4,rfl⟩ | ⟨h1,rfl,rfl⟩:=e
 ·obtain rfl:=sj ht
  refine .of <| wp_cmp hR.units (R1.mono A2.kept) R2 h1 (.of (wpAny_truthy_bool ?_))
  refine N_test_last (hc.val hR I2 e3 λγ3 sg3 v3 s3 I3 A3 R3=>?_)
  exact .of <| wp_cmp hR.units (R2.mono A3.kept) R3 e4 (.of <| wpAny_truthy_bool (hQ _ _ _ I3 ((A1.trans A2).trans A3)))
 ·obtain rfl:=sj ht
  exact .of <| wp_cmp hR.units (R1.mono A2.kept) R2 h1 (.of <| wpAny_truthy_bool (hQ _ _ _ I2 (A1.trans A2)))
theorem T_ite {t x y:Expr} {pos:Pos} {c a b:ME} (hc:TT C pl n (isTrue t env (eval t env)) (evE T cf c)) (ha:TE C pl n (eval x env) (evE T cf a)) (hb:TE C pl n (eval y env) (evE T cf b)) :
  TE C pl n (eval (.IfExp t x y pos) env) (evE T cf (.ite c a b)):=by
 intro A E Q γ sg σ s z σ' hR I e hQ
 refine kite_inv (r:=evE T cf c σ) (a:=evE T cf a) (b:=evE T cf b) e λp σ1 e1 e=>?_
 rcases e with ⟨h1,e⟩ | ⟨h1,e⟩
 ·exact N_IfExp (hc hR I e1 h1 λγ1 sg1 s1 I1 A1=>ha hR I1 e λγ2 sg2 v2 s2 I2 A2 R2 N2=>hQ _ _ _ _ I2 (A1.trans A2) R2 (NewR.up A1.there N2))
 ·exact N_IfExp (hc hR I e1 h1 λγ1 sg1 s1 I1 A1=>hb hR I1 e λγ2 sg2 v2 s2 I2 A2 R2 N2=>hQ _ _ _ _ I2 (A1.trans A2) R2 (NewR.up A1.there N2))
theorem backTo_false {pos:Pos} {ts:List (Bool×Sem Value)} (h:∀ x∈ts,x.1=false):backTo pos ts=ts:=by
 induction ts with
 | nil=>rfl
 | cons x r ih =>
  obtain ⟨b,t⟩:=x
  have hb:b=false:=h (b,t) (.head _)
  subst hb
  show (false,t) :: backTo pos r=(false,t) :: r
  rw [ih λy hy=>h y (.tail _ hy)]
theorem T_list {es:List Expr} {pos:Pos} {ms:MEs} (hp:backTo pos (starEach es env)=starEach es env) (h:TEs C pl n (starEach es env) (evEs T cf ms)):TE C pl n (eval (.List es pos) env) (evE T cf (.list ms)):=by
 intro A E Q γ sg σ s z σ' hR I e hQ
 refine kes_inv (rs:=evEs T cf ms σ) e λvs e1 e=>?_
 obtain ⟨hl,rfl⟩:=ite_some (c:=okLen vs.length=true) e
 refine N_List ?_
 rw [hp]
 refine h hR I e1 λγ1 sg1 us s1 I1 A1 R1=>⟨by rw [R1.length]; exact sizeLine_ok hl,?_⟩
 exact own_list I1 R1 0 s1.toks λγ2 v2 s2 I2 A2 R2 N2=>hQ _ _ _ _ I2 (A1.trans A2) R2 (NewR.up A1.there N2)
theorem T_tuple {es:List Expr} {k:Nat} {pos:Pos} {ms:MEs} (hp:backTo pos (starEach es env)=starEach es env) (h:TEs C pl n (starEach es env) (evEs T cf ms)):TE C pl n (eval (.Tuple es k pos) env) (evE T cf (.tuple ms)):=by
 intro A E Q γ sg σ s z σ' hR I e hQ
 refine kes_inv (rs:=evEs T cf ms σ) e λvs e1 e=>?_
 obtain ⟨hl,rfl⟩:=ite_some (c:=okLen vs.length=true) e
 refine N_Tuple ?_
 rw [hp]
 refine h hR I e1 λγ1 sg1 us s1 I1 A1 R1=>⟨by rw [R1.length]; exact sizeLine_ok hl,?_⟩
 exact new_tuple I1 R1 0 s1.toks λγ2 v2 s2 I2 A2 R2 N2=>hQ _ _ _ _ I2 (A1.trans A2) R2 (NewR.up A1.there N2)
end
noncomputable def KV (C:Cfg) (pl:Nat→Option Place) (γ:Gam) (sg:List Addr) (s:Shared) (σ:St) (z:Val) (Q:Value→Shared→Prop):Prop:=∀ γ' v' s',Inv C pl γ' sg σ s'→Adv γ sg s γ' sg s'→Rep γ' sg s'.heap z v'→Q v' s'
theorem subscripted_plain {slice:Expr} (h:∀ a b p,slice≠.Slice a b none p) (o i:Value):subscripted slice false o i=operate [o,i] (getItem o i):=by
 unfold subscripted
 split
 ·rename_i a b p _; exact absurd rfl (h _ _ _)
 ·rename_i e; cases e
 ·rfl
theorem subscripted_slice {a b:Option Expr} {p:Pos} (o i:Value):subscripted (.Slice a b none p) false o i=operate [i,o] (getItem o i):=rfl
section
variable {A:Around} {E:Value→Shared→Prop} {γ:Gam} {sg:List Addr} {s:Shared}
variable {C:Cfg} {pl:Nat→Option Place} {n:Nat} {T:Tabs} {cf:CF} {env:Env} {σ:St}
theorem place_some {i:Int} {n k:Nat} (h:place i n=some k):-(2 ^ 63:Int) < i∧i < 2 ^ 63∧seqIndex? i n=some k:=by
 unfold place at h
 split at h
 ·rename_i hs
  exact ⟨(small_iff hs).1,(small_iff hs).2,h⟩
 ·cases h
theorem seqIndex_cases {i:Int} {n k:Nat} (h:seqIndex? i n=some k):(0≤i∧k=i.toNat∧k < n)∨(i < 0∧-(n:Int)≤i∧k=(i + n).toNat∧k < n):=by
 unfold seqIndex? at h
 by_cases hi:i < 0
 ·simp only [if_pos hi] at h
  by_cases hb:(decide (0≤i + (n:Int)) && decide (i + (n:Int) < n))=true
  ·rw [if_pos hb] at h
   simp only [Bool.and_eq_true,decide_eq_true_eq] at hb
   cases h
   exact .inr ⟨hi,by omega,rfl,by omega⟩
  ·rw [if_neg hb] at h; cases h
 ·simp only [if_neg hi] at h
  by_cases hb:(decide (0≤i) && decide (i < (n:Int)))=true
  ·rw [if_pos hb] at h
   simp only [Bool.and_eq_true,decide_eq_true_eq] at hb
   cases h
   exact .inl ⟨by omega,rfl,by omega⟩
  ·rw [if_neg hb] at h; cases h
theorem sub_tail (I:Inv C pl γ sg σ s) {value slice:Expr} (hs:∀ a b p,slice≠.Slice a b none p) {x y z:Val} {v u:Value} (hx:Rep γ sg s.heap x v) (hy:Rep γ sg s.heap y u) (e:subv x y=some z) {Q:Value→Shared→Prop}
  (hQ:KV C pl γ sg s σ z Q):wpAny (model C.prog C.w) A (subscriptTail value slice v u) Q E s:=by
 cases y with
 | int i =>
  obtain ⟨ti,rfl⟩:=hy.inv
  cases x with
  | list l =>
   have e:(place i l.length).bind (l[·]?)=some z:=e
   obtain ⟨a,vs,rfl,g,hh,r⟩:=hx.inv
   obtain ⟨k,e1,e2⟩:=Option.bind_eq_some_iff.mp e
   obtain ⟨h1,h2,h3⟩:=place_some e1
   obtain ⟨v',e3,r'⟩:=r.get e2
   have hl:=r.length
   refine tail_any hh.typeIs slot_list_getitem.lookup ?_ (subscripted_plain hs _ _)
   rcases seqIndex_cases h3 with ⟨h0,hk,_⟩ | ⟨h0,hb,hk,_⟩
   ·exact wpAny_getItem_list hh h0 h2 (by rw [←hk]; simpa using e3) (hQ γ _ _ I .refl r')
   ·exact wpAny_getItem_list_neg hh h0 (by simpa [hl] using hb) (Int.le_of_lt h1) (by simp only [List.size_toArray,hl]; rw [←hk]; simpa using e3) (hQ γ _ _ I .refl r')
  | tuple l =>
   have e:(place i l.length).bind (l[·]?)=some z:=e
   obtain ⟨a,vs,rfl,g,hh,r⟩:=hx.inv
   obtain ⟨k,e1,e2⟩:=Option.bind_eq_some_iff.mp e
   obtain ⟨h1,h2,h3⟩:=place_some e1
   obtain ⟨v',e3,r'⟩:=r.get e2
   have hl:=r.length
   refine tail_any (IsTup.typeIs (show IsTup s.heap a _ from hh)) slot_tuple_getitem.lookup ?_ (subscripted_plain hs _ _)
   exact PyProof.Rows.getItem_tuple (show IsTup s.heap a _ from hh) (Int.le_of_lt h1) h2 (by simpa [hl] using h3) (by simpa using e3) (hQ γ _ _ I .refl r')
  | bytes l =>
   have e:((place i l.length).bind λk=>(l[k]?).map λx=>Val.int (x.toNat:Int))=some z:=e
   obtain ⟨tb,rfl⟩:=hx.inv
   obtain ⟨k,e1,e2⟩:=Option.bind_eq_some_iff.mp e
   obtain ⟨c,e3,rfl⟩:=Option.map_eq_some_iff.mp e2
   obtain ⟨h1,h2,h3⟩:=place_some e1
   refine tail_any (typeIs_bytes s _ _) FB.slot_bytes_getitem.lookup ?_ (subscripted_plain hs _ _)
   refine getItem_gives (typeIs_bytes s _ _) (by decide) FB.slot_bytes_getitem FB.entry_bytes_getitem (FB.args_bytes_getitem_2 _ _) (gives_bytes_getitem _ _ _ _ c ?_ ?_) (hQ γ _ _ (I.tok _) (adv_tok _) (.int _ _))
   ·simp only [Builtin.Bytes.fitsIndex,Bool.and_eq_true,decide_eq_true_eq]; omega
   ·simp only [List.size_toArray,h3,Option.bind_some]; simpa using e3
  | str l =>
   have e:((place i l.length).bind λk=>(l[k]?).map λx=>Val.str [x])=some z:=e
   obtain ⟨tb,rfl⟩:=hx.inv
   obtain ⟨k,e1,e2⟩:=Option.bind_eq_some_iff.mp e
   obtain ⟨c,e3,rfl⟩:=Option.map_eq_some_iff.mp e2
   obtain ⟨h1,h2,h3⟩:=place_some e1
   refine tail_any (T:="str") (typeIs_str s _ _) PySem.F.slot_str_getitem.lookup ?_ (subscripted_plain hs _ _)
   refine PyProof.Rows.getItem_str (c:=c) ?_ ?_ (hQ γ _ _ (I.tok _) (adv_tok _) (.str [c] _))
   ·rw [Bool.or_eq_false_iff,decide_eq_false_iff_not,decide_eq_false_iff_not]; omega
   ·rw [show (⟨_⟩:Str).length=_ from List.size_toArray,h3,Option.bind_some]; simpa using e3
  | _=>exact nsm e
 | _=>exact nsm e
theorem T_sub {value slice:Expr} {pos:Pos} {a i:ME} (hs:∀ a b p,slice≠.Slice a b none p) (ha:TE C pl n (eval value env) (evE T cf a)) (hi:TE C pl n (eval slice env) (evE T cf i)) :
  TE C pl n (eval (.Subscript value slice pos) env) (evE T cf (.sub a i)):=by
 intro A E Q γ sg σ s z σ' hR I e hQ
 refine k2_inv (r:=evE T cf a σ) (e:=evE T cf i) e λx σ1 y e1 e2 e3=>?_
 refine vV_inv e3 λz' e4 zz1=>?_; obtain rfl:=zz1
 refine N_Subscript (ha.val hR I e1 λγ1 sg1 v1 s1 I1 A1 R1=>hi.val hR I1 e2 λγ2 sg2 v2 s2 I2 A2 R2=>?_)
 exact .of <| sub_tail I2 hs (R1.mono A2.kept) R2 e4 λγ3 v3 s3 I3 A3 R3=>hQ _ _ _ _ I3 ((A1.trans A2).trans A3) R3 trivial
noncomputable def TP (C:Cfg) (pl:Nat→Option Place) (n:Nat) (x:Option Expr) (env:Env) (f:St→Option (LV×St)):Prop:=TE C pl n (evalPart x env) f
theorem TP_none:TP C pl n none env (evE T cf (.const .none)):=by
 intro A E Q γ sg σ s z σ' hR I e hQ
 obtain ⟨rfl,rfl⟩:=si2 (e:some (LV.val Val.none,σ)=some (z,σ'))
 rw [evalPart_none]
 exact wpN_pure (hQ _ _ _ _ I .refl .none trivial)
theorem TP_some {x:Expr} {f} (h:TE C pl n (eval x env) f):TP C pl n (some x) env f:=h
theorem isPart_of {y:Val} {u:Value} {a:Option Int} (hy:Rep γ sg s.heap y u) (e:bnd y=some a):IsPart u a:=by
 cases y with
 | none =>
  obtain rfl:u=.none:=hy.inv
  obtain rfl:=sj e
  exact .none
 | int i =>
  obtain ⟨t,rfl⟩:=hy.inv
  obtain rfl:=sj e
  exact .int _ _
 | _=>exact nsm e
theorem Reps.cutL {h:Heap} {l vs} (r:Reps γ sg h l vs) (lo hi:Option Int):Reps γ sg h (cutL l lo hi) (cutL vs lo hi):=by
 unfold Mine.cutL
 rw [r.length]
 exact (r.drop _).take _
theorem slc_tail (I:Inv C pl γ sg σ s) {value:Expr} {la lb:Option Expr} {p:Pos} {x y z:Val} {w:LV} {v u t:Value} {k:Addr} (hx:Rep γ sg s.heap x v) (hy:Rep γ sg s.heap y u) (hz:Rep γ sg s.heap z t) (hk:s.heap.IsSliceOf k u t .none) (e:slcv x y z=some w) {Q:Value→Shared→Prop}
  (hQ:KW C pl γ sg s σ w Q):wpAny (model C.prog C.w) A (subscriptTail value (.Slice la lb none p) v (.ref k)) Q E s:=by
 cases x with
 | list l =>
  obtain ⟨hl,e⟩:=ite_some' (c:=okLen l.length=true) (o:=(bnd y).bind λa=>(bnd z).map λb=>LV.olist (Mine.cutL l a b)) e
  obtain ⟨a,e1,e2⟩:=Option.bind_eq_some_iff.mp e
  obtain ⟨b,e3,rfl⟩:=Option.map_eq_some_iff.mp e2
  obtain ⟨ad,vs,rfl,g,hh,r⟩:=hx.inv
  refine tail_any hh.typeIs slot_list_getitem.lookup (wpAny_getItem_list_slice hh hk (isPart_of hy e1) (isPart_of hz e3) .none (by simp) ?_ (by simp only [List.size_toArray,r.length]; exact sizeLine_ok hl)) (subscripted_slice _ _)
  have e5:slicePick vs.toArray a b none=(Mine.cutL vs a b).toArray:=by rw [slicePick_plain]; simp [Mine.cutL]
  rw [e5]
  exact own_list I (r.cutL a b) 0 s.toks hQ
 | bytes l =>
  obtain ⟨hl,e⟩:=ite_some' (c:=okLen l.length=true) (o:=(bnd y).bind λa=>(bnd z).map λb=>LV.val (.bytes (Mine.cutL l a b))) e
  have hl:=okLen_le hl
  obtain ⟨a,e1,e2⟩:=Option.bind_eq_some_iff.mp e
  obtain ⟨b,e3,rfl⟩:=Option.map_eq_some_iff.mp e2
  obtain ⟨_,rfl⟩:=hx.inv
  refine tail_any (typeIs_bytes s _ _) FB.slot_bytes_getitem.lookup ?_ (subscripted_slice _ _)
  refine getItem_meets (typeIs_bytes s _ _) (by decide) FB.slot_bytes_getitem FB.entry_bytes_getitem (FB.args_bytes_getitem_2 _ _) (KBc.meets_slice2 _ _ _ (isPart_of hy e1) (isPart_of hz e3)) ⟨hk,?_,λt' k'=>?_⟩
  ·have:=KBc.size_picked_le l.toArray a b
   simp only [List.size_toArray] at this
   rw [sizeLine_eq]; omega
  ·have e5:KBy.picked l.toArray a b=(Mine.cutL l a b).toArray:=by rw [KBc.picked_eq]; simp [Mine.cutL]
   rw [e5]
   exact hQ γ _ _ (I.tok k') (adv_tok k') (.bytes _ _) trivial
 | str l=>cases y with
  | none=>cases z with
   | int b =>
    obtain ⟨hb,rfl⟩:=ite_some (c:=0≤b∧b.toNat≤l.length∧okLen l.length=true) e
    obtain ⟨t0,rfl⟩:=hx.inv
    obtain rfl:u=.none:=hy.inv
    obtain ⟨tb,rfl⟩:=hz.inv
    obtain ⟨hb0,hb1,hl⟩:=hb
    have hl:=okLen_le hl
    obtain ⟨bn,rfl⟩:=Int.eq_ofNat_of_zero_le hb0
    have hb1:bn≤l.length:=by simpa using hb1
    refine tail_any (T:="str") (typeIs_str s _ _) PySem.F.slot_str_getitem.lookup (wpAny_getItem_str_slice (l:=none) (u:=some ((bn:Int),tb)) (st:=none) hk rfl ?_) (subscripted_slice _ _)
    have e4:slicePicked ⟨l.toArray⟩ none (some ((bn:Int),tb)) none=(List.range bn).map λk=>0 + k:=by
     unfold slicePicked
     show Builtin.Str.strSliceIndices none (some (bn:Int)) 1 (⟨l.toArray⟩:Str).length=_
     rw [StrLaws.sliceIdx_none_lo]
     exact StrLaws.strSliceIndices_plain (a:=0) (b:=bn) (Nat.zero_le _) (by show bn≤l.toArray.size; simpa using hb1)
    have e5:(slicePicked ⟨l.toArray⟩ none (some ((bn:Int),tb)) none).filterMap ((⟨l.toArray⟩:Str).cps[·]?)=l.take bn:=by
     unfold slicePicked
     show (Builtin.Str.strSliceIndices none (some (bn:Int)) 1 (⟨l.toArray⟩:Str).length).filterMap _=_
     rw [StrLaws.sliceIdx_none_lo]
     have:=StrLaws.sliced_plain ⟨l.toArray⟩ (a:=0) (b:=bn) (Nat.zero_le _) (by show bn≤l.toArray.size; simpa using hb1)
     simpa using this
    unfold sliceMade
    split
    ·rename_i hc
     simp only [Option.map_none,Option.getD_none,Bool.and_eq_true,beq_iff_eq,true_and,e4,List.length_map,List.length_range] at hc
     have hlen:bn=l.length:=by rw [hc]; show l.toArray.size=_; simp
     subst hlen
     exact hQ γ _ _ I .refl (by rw [Int.toNat_natCast,List.take_length]; exact .str _ _) trivial
    ·rw [e5]
     refine ⟨?_,hQ γ _ _ (I.tok _) (adv_tok _) ?_ trivial⟩
     ·show (l.take bn).toArray.size≤sizeLine
      rw [sizeLine_eq]; simp only [List.size_toArray,List.length_take]; omega
     ·exact .str _ _
   | _=>exact nsm e
  | _=>exact nsm e
 | _=>exact nsm e
theorem T_slc {value:Expr} {la lb:Option Expr} {p pos:Pos} {a lo hi:ME} (ha:TE C pl n (eval value env) (evE T cf a)) (hl:TP C pl n la env (evE T cf lo)) (hh:TP C pl n lb env (evE T cf hi)) :
  TE C pl n (eval (.Subscript value (.Slice la lb none p) pos) env) (evE T cf (.slc a lo hi)):=by
 intro A E Q γ sg σ s z σ' hR I e hQ
 refine k3_inv (r:=evE T cf a σ) (b:=evE T cf lo) (c:=evE T cf hi) e λx σ1 y σ2 w e1 e2 e3 e4=>?_
 refine N_Subscript (ha.val hR I e1 λγ1 sg1 v1 s1 I1 A1 R1=>N_Slice (hl.val hR I1 e2 λγ2 sg2 v2 s2 I2 A2 R2=>hh.val hR I2 e3 λγ3 sg3 v3 s3 I3 A3 R3=>?_))
 rw [evalPart_none]
 refine wpN_pure ?_
 have I4:=I3.push { cls:=.type "slice",data:=.fields #[v2,v3,.none] } none s3.toks rfl
 have A4:=I3.pushA { cls:=.type "slice",data:=.fields #[v2,v3,.none] } none s3.toks
 have A13:=(A2.trans A3).trans A4
 refine .of <| slc_tail I4 (R1.mono A13.kept) (R2.mono (A3.trans A4).kept) (R3.mono A4.kept) (Heap.IsSliceOf.new _ _ _ _) e4 λγ5 v5 s5 I5 A5 R5 N5=>?_
 exact hQ _ _ _ _ I5 ((A1.trans A13).trans A5) R5 (NewR.up (A1.trans A13).there N5)
end
noncomputable def clsK (K:Frag) (Ca:Addr):Bool:=plainGet K Ca "" && hasDictIn K Ca && findIn K (.ref Ca) "__setattr__" == some (some (.builtin "object.__setattr__")) && plainOver K Ca && makesIn K Ca
structure CfgOk (C:Cfg):Prop where
 X:C.K.In C.base
 bi:∃ mb,C.base.Ns builtinsNs mb∧∀ x,(x == ("__name__":Str))=false→mb x=bootBuiltins x
 lim:C.base.NoLimit
 cls:∀ c,clsK C.K (C.clsA c)=true
 fld:∀ c f,f < C.nf→findIn C.K (.ref (C.clsA c)) (C.fname f)=some none
 inj:∀ f g,f < C.nf→g < C.nf→C.fname f=C.fname g→f=g
section
variable {A:Around} {E:Value→Shared→Prop} {γ:Gam} {sg:List Addr} {s:Shared}
variable {C:Cfg} {pl:Nat→Option Place} {n:Nat} {T:Tabs} {cf:CF} {env:Env} {σ:St} {cx:Cx}
theorem Inv.X (I:Inv C pl γ sg σ s) (G:CfgOk C):C.K.In s.heap:=G.X.keeps I.keep
noncomputable def isGlobal (sc:Scope) (x:Str):Bool:=(match sc.names.lookup x with | some .globalImplicit=>true | _=>false) && !(x == ("__debug__":Str))
theorem isGlobal_of {sc:Scope} {x:Str} (h:isGlobal sc x=true):sc.names.lookup x=some .globalImplicit∧(x == ("__debug__":Str))=false:=by
 unfold isGlobal at h
 simp only [Bool.and_eq_true,Bool.not_eq_true'] at h
 refine ⟨?_,h.2⟩
 have:=h.1
 split at this
 ·assumption
 ·cases this
theorem wp_glob (G:CfgOk C) (I:Inv C pl γ sg σ s) (H:EnvOk pl cx env) {x:Str} {v:Value} {pos:Pos} {Q:Value→Shared→Prop} (hk:isGlobal cx.scope x=true) (e:nsIn C.K mainGlobals x=some (some v)) (h:Q v s) :
  wpAny (model C.prog C.w) A (eval (.Name x pos) env) Q E s:=by
 obtain ⟨h1,h2⟩:=isGlobal_of hk
 refine Name_function_global (H.scope ▸ H.kind) (by unfold Env.kindOf; rw [H.scope]; exact h1) ?_ h2
 unfold loadGlobal
 rw [H.globals]
 refine wpAny_bind ((looks_nsIn (I.X G) e).here ?_)
 exact wpAny_pure h
theorem wp_bname (G:CfgOk C) (I:Inv C pl γ sg σ s) (H:EnvOk pl cx env) {x:Str} {v:Value} {pos:Pos} {Q:Value→Shared→Prop} (hk:isGlobal cx.scope x=true) (e:nsIn C.K mainGlobals x=some none) (hn:(x == ("__name__":Str))=false)
  (hb:bootBuiltins x=some v) (h:Q v s):wpAny (model C.prog C.w) A (eval (.Name x pos) env) Q E s:=by
 obtain ⟨h1,h2⟩:=isGlobal_of hk
 refine Name_function_global (H.scope ▸ H.kind) (by unfold Env.kindOf; rw [H.scope]; exact h1) ?_ h2
 unfold loadGlobal
 rw [H.globals,H.builtins]
 refine wpAny_bind ((looks_nsIn (I.X G) e).here ?_)
 obtain ⟨mb,hb1,hb2⟩:=G.bi
 refine wpAny_bind (wpAny_nsGet (hb1.keeps I.keep) ?_)
 rw [hb2 x hn,hb]
 exact wpAny_pure h
theorem wp_args {ts:List (Bool×Sem Value)} {f:Value} {g:St→Option (List Val×St)} (h:TEs C pl n ts g) (hp:∀ x∈ts,x.1=false) {Q:Args→Shared→Prop} {σ' r} (hR:Room n A) (I:Inv C pl γ sg σ s) (e:g σ=some (r,σ'))
  (hQ:∀ γ' sg' vs s',Inv C pl γ' sg' σ' s'→Adv γ sg s γ' sg' s'→Reps γ' sg' s'.heap r vs→Q ⟨vs,[]⟩ s'):wpN (model C.prog C.w) A (evalArgs f true ts []) Q E s:=by
 unfold evalArgs
 cases ts with
 | nil =>
  show wpN _ A (spliced [] >>= _) Q E s
  refine wpN_bind (h hR I e λγ' sg' vs s' a b c=>wpN_bind (wpN_pure ?_))
  exact wpN_holding (wpN_bind (wpN_pure (wpN_bind (wpN_pure (wpN_pure (hQ γ' sg' vs s' a b c))))))
 | cons x r =>
  obtain ⟨b,t⟩:=x
  have hb:b=false:=hp (b,t) (.head _)
  subst hb
  show wpN _ A (spliced ((false,t) :: r) >>= _) Q E s
  refine wpN_bind (h hR I e λγ' sg' vs s' a b c=>?_)
  refine wpN_holding ?_
  exact wpN_bind (wpN_pure (wpN_bind (wpN_pure (wpN_pure (hQ γ' sg' vs s' a b c)))))
theorem any_false {ts:List (Bool×Sem Value)} (hp:∀ x∈ts,x.1=false):ts.any (·.1)=false:=by
 rw [List.any_eq_false]
 intro x hx
 rw [hp x hx]; decide
noncomputable def biName:BI→Str
 | .len=>"len"
 | .ord=>"ord"
 | .chr=>"chr"
 | .bytes=>"bytes"
 | .barr0=>"bytearray"
 | .isInt=>"isinstance"
 | .isStr=>"isinstance"
 | .isBytes=>"isinstance"
 | .tuple=>"tuple"
 | .bool=>"bool"
 | .max2=>"max"
 | .min3=>"min"
 | .int=>"int"
noncomputable def biVal:BI→Value
 | .len=>.builtin "len"
 | .ord=>.builtin "ord"
 | .chr=>.builtin "chr"
 | .bytes=>.type "bytes"
 | .barr0=>.type "bytearray"
 | .isInt=>.builtin "isinstance"
 | .isStr=>.builtin "isinstance"
 | .isBytes=>.builtin "isinstance"
 | .tuple=>.type "tuple"
 | .bool=>.type "bool"
 | .max2=>.builtin "max"
 | .min3=>.builtin "min"
 | .int=>.type "int"
noncomputable def biMoreV:BI→List Value
 | .isInt=>[.type "int"]
 | .isStr=>[.type "str"]
 | .isBytes=>[.type "bytes"]
 | _=>[]
theorem biBoot (b:BI):bootBuiltins (biName b)=some (biVal b)∧(biName b == ("__name__":Str))=false:=by
 cases b <;> exact ⟨by decide +kernel,by decide +kernel⟩
theorem biBootMore:bootBuiltins "int"=some (.type "int")∧bootBuiltins "str"=some (.type "str")∧bootBuiltins "bytes"=some (.type "bytes")∧bootBuiltins "range"=some (.type "range"):=by
 refine ⟨?_,?_,?_,?_⟩ <;> decide +kernel
theorem N_callWith {M:Model} {pos:Pos} {f:Value} {first:List Value} {ts:List (Bool×Sem Value)} {Q:Value→Shared→Prop} (hp:∀ x∈ts,x.1=false)
  (h:wpN M A (evalArgs f true ts []) (λa s₁=>(∃ k,∀ Q':Keeper→Shared→Prop,Q' k s₁→wpAny M A (keeperOf f) Q' E s₁)∧wpN M A (call f (first ++ a.pos) a.kw) Q E s₁) E s):wpN M A (callWith pos f first ts []) Q E s:=by
 unfold callWith
 refine wpN_bind (wpN_holding (wpN_mono h (λa s₁ h₁=>wpN_standAt ?_) λ_ _ x=>x))
 obtain ⟨⟨k,hk⟩,hc⟩:=h₁
 have hs:(ts.any (·.1) || ([]:List (Option Str×Sem Value)).any (·.1.isNone))=false:=by rw [any_false hp]; rfl
 have fin:∀ {t:Sem Value},wpN M A t Q E s₁→wpN M A (t >>= λr=>holding [r] point >>= λ_=>pure r) Q E s₁ :=
  λht=>wpN_bind (wpN_mono ht (λr s₂ hr=>wpN_step (wpAny_holding (wpAny_point (wpN_pure hr)))) λ_ _ x=>x)
 dsimp only
 rw [hs]
 refine wpN_step (hk _ ?_)
 cases k with
 | frame =>
  dsimp only
  exact wpN_ite (λ_=>fin hc) λ_=>fin (by unfold callMarked; exact wpN_keep hc)
 | boundFrame =>
  dsimp only
  exact wpN_ite (λ_=>fin hc) λ_=>fin (by unfold callMarked; exact wpN_keep hc)
 | machine=>exact fin hc
 | caller=>exact fin (wpN_operate hc)
theorem keeper_builtin {M:Model} {v:Value} (hv:(∃ i,v=.builtin i)∨∃ t,v=.type t):∃ k,∀ Q':Keeper→Shared→Prop,Q' k s→wpAny M A (keeperOf v) Q' E s:=by
 rcases hv with ⟨i,rfl⟩ | ⟨t,rfl⟩ <;> exact ⟨.machine,λ_ q=>wpAny_pure q⟩
theorem keeper_fn {M:Model} {a:Addr} {o:Obj} {fd:FuncData} (ho:s.heap.get? a=some o) (hd:o.data=.func fd):∃ k,∀ Q':Keeper→Shared→Prop,Q' k s→wpAny M A (keeperOf (.ref a)) Q' E s :=
 ⟨.frame,λ_ q=>wpAny_bind (wpAny_load ho (by rw [hd]; exact wpAny_pure q))⟩
theorem N_Call_Name {M:Model} {x:Str} {np pos:Pos} {args:List Expr} {keywords:List Keyword} {Q:Value→Shared→Prop}
  (h:wpN M A (eval (.Name x np) env) (λf s₁=>wpN M A (callWith pos f [] (backTo pos (starEach args env)) (backToKw pos (keywordEach keywords env))) Q E s₁) E s) :
  wpN M A (eval (.Call (.Name x np) args keywords pos) env) Q E s:=by
 show wpN M A (do callWith pos (←eval (.Name x np) env) [] (backTo pos (starEach args env)) (backToKw pos (keywordEach keywords env))) Q E s
 exact wpN_bind h
end
end Mine
end
section
open PySem PySem.W PyProof.Rows PySem.Calls
open Sem (wp)
namespace Mine
theorem ba_mro:mroOf (.type "bytearray")=pure [.type "bytearray",.type "object"]:=by rw [mroOf_type]; kernel_rfl
theorem ba_lookup_new:typeLookup (.type "bytearray") "__new__"=pure (some (.builtin "bytearray.__new__")):=by rw [typeLookup_type,builtinLookup_eq_fast]; kernel_rfl
theorem ba_made:Bind.madeBy (.type "bytearray")=pure (some "bytearray.__new__"):=madeBy_type ba_mro ba_lookup_new (by decide +kernel)
theorem ba_slot_init:Slot "bytearray" "__init__" "bytearray.__init__" :=
 .of (owner:="bytearray") (n:="__init__") (by rw [typeLookup_type,builtinLookup_eq_fast]; kernel_rfl) (by decide +kernel) (by decide +kernel) (by decide +kernel)
  (by first | exact .inl (by decide +kernel) | exact .inr (by decide +kernel)) (by rw [isSubtype_type]; kernel_rfl)
theorem ba_slot_len:Slot "bytearray" "__len__" "bytearray.__len__" :=
 .of (owner:="bytearray") (n:="__len__") (by rw [typeLookup_type,builtinLookup_eq_fast]; kernel_rfl) (by decide +kernel) (by decide +kernel) (by decide +kernel)
  (by first | exact .inl (by decide +kernel) | exact .inr (by decide +kernel)) (by rw [isSubtype_type]; kernel_rfl)
theorem ba_slot_iter:Slot "bytearray" "__iter__" "bytearray.__iter__" :=
 .of (owner:="bytearray") (n:="__iter__") (by rw [typeLookup_type,builtinLookup_eq_fast]; kernel_rfl) (by decide +kernel) (by decide +kernel) (by decide +kernel)
  (by first | exact .inl (by decide +kernel) | exact .inr (by decide +kernel)) (by rw [isSubtype_type]; kernel_rfl)
theorem ba_slot_append:Slot "bytearray" "append" "bytearray.append" :=
 .of (owner:="bytearray") (n:="append") (by rw [typeLookup_type,builtinLookup_eq_fast]; kernel_rfl) (by decide +kernel) (by decide +kernel) (by decide +kernel)
  (by first | exact .inl (by decide +kernel) | exact .inr (by decide +kernel)) (by rw [isSubtype_type]; kernel_rfl)
theorem ba_slot_extend:Slot "bytearray" "extend" "bytearray.extend" :=
 .of (owner:="bytearray") (n:="extend") (by rw [typeLookup_type,builtinLookup_eq_fast]; kernel_rfl) (by decide +kernel) (by decide +kernel) (by decide +kernel)
  (by first | exact .inl (by decide +kernel) | exact .inr (by decide +kernel)) (by rw [isSubtype_type]; kernel_rfl)
theorem ba_sub:isSubtype (.type "bytearray") (.type "bytearray")=pure true:=by rw [isSubtype_type]; kernel_rfl
theorem ba_typeCall:checkTypeCall "bytearray" ⟨[],[]⟩=pure ():=by kernel_rfl
theorem ba_newCall:checkBuiltinCall "bytearray.__new__" ⟨[.type "bytearray"],[]⟩=pure ():=by kernel_rfl
theorem ba_entry_new:entryFor table "bytearray.__new__"=some Builtin.«list.__new__» :=
 entryFor_alias (id':="list.__new__") (by kernel_rfl) (by first | rfl | decide +kernel) (by decide +kernel) (by kernel_rfl)
theorem ba_entry_init:entryFor table "bytearray.__init__"=some Builtin.«bytearray.__init__»:=by first | exact entryFor_of_fast (by kernel_rfl) | exact entryFor_of_tree (by kernel_rfl)
theorem ba_entry_len:entryFor table "bytearray.__len__"=some Builtin.«bytearray.__len__»:=by first | exact entryFor_of_fast (by kernel_rfl) | exact entryFor_of_tree (by kernel_rfl)
theorem ba_entry_iter:entryFor table "bytearray.__iter__"=some Builtin.«bytearray.__iter__»:=by first | exact entryFor_of_fast (by kernel_rfl) | exact entryFor_of_tree (by kernel_rfl)
theorem ba_entry_append:entryFor table "bytearray.append"=some Builtin.«bytearray.append»:=by first | exact entryFor_of_fast (by kernel_rfl) | exact entryFor_of_tree (by kernel_rfl)
theorem ba_entry_extend:entryFor table "bytearray.extend"=some Builtin.«bytearray.extend»:=by first | exact entryFor_of_fast (by kernel_rfl) | exact entryFor_of_tree (by kernel_rfl)
theorem ba_plain_new:plainId "bytearray.__new__"=true:=by decide +kernel
theorem ba_args_init (a:Value):argsOk "bytearray.__init__" ⟨[a],[]⟩:=by unfold argsOk; kernel_rfl
theorem ba_args_len (a:Value):argsOk "bytearray.__len__" ⟨[a],[]⟩:=by unfold argsOk; kernel_rfl
theorem ba_args_iter (a:Value):argsOk "bytearray.__iter__" ⟨[a],[]⟩:=by unfold argsOk; kernel_rfl
theorem ba_args_append (a b:Value):argsOk "bytearray.append" ⟨[a,b],[]⟩:=by unfold argsOk; kernel_rfl
theorem ba_args_extend (a b:Value):argsOk "bytearray.extend" ⟨[a,b],[]⟩:=by unfold argsOk; kernel_rfl
set_option maxHeartbeats 4000000 in
theorem ba_owner:("bytearray.__new__".splitOn ".__new__").headD ""="bytearray":=by simp +decide [String.splitOn,String.splitOnAux]
theorem ba_cls:((Value.type "bytearray" == Value.type "type")=false):=by decide +kernel
theorem ba_can:((Manifest.find? "bytearray").bind (·.mro.findSome? λt=>(Manifest.find? t).bind λb=>if b.noNew then some true else if b.attrs.any (·.1 == "__new__") then some false else none)).getD false=false:=by decide +kernel
section
variable {prog:Program} {w:World} {A:Around} {E:Value→Shared→Prop} {s:Shared} {R:Result→Shared→Prop}
theorem ba_new {Q₁:Value→Shared→Prop} (h:Q₁ (.ref s.heap.objs.size) { s with heap:=s.heap.push (barObj []) }) :
  codeAny (model prog w) A (.call (.builtin "bytearray.__new__") ⟨[.type "bytearray"],[]⟩) (wants Q₁ E) s:=by
 refine codeAny_of_tree ?_
 show wpAny _ A.in1 (do checkBuiltinCall "bytearray.__new__" ⟨[.type "bytearray"],[]⟩; again (.builtin "bytearray.__new__" ⟨[.type "bytearray"],[]⟩)) _ _ s
 refine wpAny_bind (wpAny_of_eq ba_newCall (wpAny_pure ⟨plainId_quiet ba_plain_new _,codeAny_builtin_stack ba_entry_new rfl λp st=>?_⟩))
 rw [Around.under_plainId ba_plain_new _]
 have hsub:=ba_sub
 have hown:=ba_owner
 obtain ⟨hp,g,d,tk,os⟩:=s
 simp only [hown]
 wp_walk
 exact h
theorem codeN_builtin {id:String} {args:Args} {b:Builtin} (hb:entryFor table id=some b)
  (h:wpN (model prog w) (A.under (.builtin id args)) (b args)
   (λfin s'=>match fin with | .done f=>R (.ok f) s' | .again c'=>c'.quiet=true∧isBad c'=false∧codeN (model prog w) A c' R s') (λe s'=>R (.error e) s') s) :
  codeN (model prog w) A (.builtin id args) R s:=by
 refine codeN_of_tree ?_
 show wpN _ _ (match entryFor table id with | some b=>b args | none=>unsupported ((withoutEnding? id "#data").getD id)) _ _ s
 rw [hb]; exact h
theorem codeN_call_builtin {id:String} {args:Args} {b:Builtin} (hq:plainId id=true) (hbad:badIds.contains id=false) (hb:entryFor table id=some b)
  (h:wpN (model prog w) A.in1 (checkBuiltinCall id args) (λ_ s₁=>wpN (model prog w) A.in1 (b args)
   (λfin s'=>match fin with | .done f=>R (.ok f) s' | .again c'=>c'.quiet=true∧isBad c'=false∧codeN (model prog w) A c' R s') (λe s'=>R (.error e) s') s₁)
   (λe s'=>R (.error e) s') s):codeN (model prog w) A (.call (.builtin id) args) R s:=by
 refine codeN_of_tree ?_
 show wpN _ A.in1 (do checkBuiltinCall id args; again (.builtin id args)) _ _ s
 refine wpN_bind (wpN_mono h (λ_ s₁ h₁=>wpN_pure (And.intro (plainId_quiet hq args) (And.intro hbad (codeN_builtin hb ?_)))) λ_ _ h'=>h')
 rw [Around.under_plainId hq args]; exact h₁
noncomputable abbrev IsBarr (h:Heap) (a:Addr) (l:List UInt8):Prop:=h.get? a=some (barObj l)
theorem IsBarr.type {a l} (h:IsBarr s.heap a l):s.TypeIs (.ref a) "bytearray":=⟨_,h,rfl⟩
theorem ba_release:typeLookup (.type "bytearray") "__release_buffer__"=pure (some (.builtin "bytearray.__release_buffer__")):=by rw [typeLookup_type,builtinLookup_eq_fast]; kernel_rfl
theorem ba_rel_end:("bytearray.__release_buffer__".endsWith ("." ++ "__release_buffer__"))=true:=by decide +kernel
theorem ba_rel_drop:("bytearray.__release_buffer__".dropRight ("__release_buffer__".length + 1))="bytearray":=by decide +kernel
theorem ba_own {a l} {Q:Bool→Shared→Prop} (h:IsBarr s.heap a l) (q:Q false s):wpAny (model prog w) A (Builtin.Bytes.ownRelease (.ref a)) Q E s:=by
 unfold Builtin.Bytes.ownRelease Builtin.Bytes.slotIsOwn
 refine wpAny_bind (wpAny_bind (wpAny_specialOf h.type ba_release ?_))
 dsimp only
 rw [ba_rel_end,ba_rel_drop]
 refine wpAny_isInstance h.type ba_sub ?_
 exact wpAny_pure q
theorem ba_exports {a l} {Q:Nat→Shared→Prop} (h:IsBarr s.heap a l) (q:Q 0 s):wpAny (model prog w) A (Builtin.Bytes.exportsOf (.ref a)) Q E s:=by
 unfold Builtin.Bytes.exportsOf
 exact wpAny_bind (wpAny_load h (wpAny_pure q))
theorem ba_payload {a l} {Q:Array UInt8→Shared→Prop} (h:IsBarr s.heap a l) (q:Q l.toArray s):wpAny (model prog w) A (Builtin.Bytes.payload (.ref a)) Q E s:=by
 unfold Builtin.Bytes.payload Builtin.Bytes.payload?
 exact wpAny_bind (wpAny_bind (wpAny_load h (wpAny_pure (wpAny_pure q))))
theorem ba_held {a l} {Q:Bool→Shared→Prop} (h:IsBarr s.heap a l) (q:Q false s):wpN (model prog w) A (Builtin.Bytes.exported (.ref a) <||> (do return (←Builtin.Bytes.exportsOf (.ref a)) > 0)) Q E s:=by
 refine wpN_bind (exported_false ?_)
 exact wpN_step (ba_exports h (wpN_pure q))
theorem ba_write {a:Addr} {l l':List UInt8} {f:Array UInt8→Array UInt8} {Q:Unit→Shared→Prop} (h:IsBarr s.heap a l) (hf:f l.toArray=l'.toArray) (hz:l'.length≤sizeLine)
  (q:∀ h',IsBarr h' a l'→Heap.SameBut a s.heap h'→Q () { s with heap:=h' }):wpAny (model prog w) A (Builtin.Bytes.write (.ref a) f) Q E s:=by
 show wpAny _ _ (updateBytearray a f) _ _ _
 unfold updateBytearray
 refine wpAny_bind (wpAny_load h ?_)
 show wpAny _ _ (update a (Obj.mapBytearray f) >>= λ_=>lookBehind a) _ _ _
 refine wpAny_bind (wpAny_update h ?_)
 have h2:(s.heap.update a (Obj.mapBytearray f)).get? a=some (barObj l'):=by
  have:=Heap.get?_update_self (Obj.mapBytearray f) h rfl
  rw [this]
  show some ({ cls:=.type "bytearray",data:=.bytearray (f l.toArray) 0 }:Obj)=_
  rw [hf]
 refine wpAny_lookBehind h2 ?_ (q _ h2 (Heap.SameBut.update ..))
 show (if l'.toArray.size > sizeLine then some "bytearray:memory" else none)=none
 rw [if_neg]
 rw [List.size_toArray]; omega
theorem ba_bind:Builtin.Bytes.bindOptional "bytearray.__init__" "bytearray" ["source","encoding","errors"] [] []=pure [none,none,none]:=by kernel_rfl
theorem ba_init_eq (a:Addr):∃ X Y,Builtin.«bytearray.__init__» ⟨[.ref a],[]⟩=(Builtin.Bytes.ownRelease (.ref a) >>= λb=>if b=true then X else ((Builtin.Bytes.exported (.ref a) <||> (do return (←Builtin.Bytes.exportsOf (.ref a)) > 0)) >>= λb=>if b=true then Y else (Builtin.Bytes.write (.ref a) (λ_=>#[]) >>= λ_=>(ret .none:Sem Fin)))):=⟨_,_,rfl⟩
theorem ba_init {a:Addr} {Q:Fin→Shared→Prop} (h:IsBarr s.heap a []) (q:∀ h',IsBarr h' a []→Heap.SameBut a s.heap h'→Q (.done (.ret .none)) { s with heap:=h' }) :
  wpN (model prog w) A (Builtin.«bytearray.__init__» ⟨[.ref a],[]⟩) Q E s:=by
 obtain ⟨X,Y,e⟩:=ba_init_eq a
 rw [e]
 refine wpN_step (ba_own h ?_)
 rw [if_neg Bool.false_ne_true]
 refine wpN_bind (ba_held h ?_)
 rw [if_neg Bool.false_ne_true]
 refine wpN_step (ba_write (l':=[]) h rfl (Nat.zero_le _) λh' h1 h2=>?_)
 exact wpN_pure (q h' h1 h2)
theorem ba_make {Q:Value→Shared→Prop} (h:∀ h',(∀ b o,s.heap.get? b=some o→h'.get? b=some o)→IsBarr h' s.heap.objs.size []→Q (.ref s.heap.objs.size) { s with heap:=h' }) :
  wpN (model prog w) A (call (.type "bytearray") []) Q E s:=by
 refine wpN_call (codeN_of_tree ?_)
 show wpN _ _ (callAny (.type "bytearray") _) _ _ _
 refine wpN_pure ⟨Code.quiet_builtin _ (by decide +kernel),(by decide +kernel),codeN_builtin F.entry_type_call ?_⟩
 rw [Around.under_plain (weight_type_call_type "bytearray" [] []) rfl]
 unfold Builtin.«type.__call__»
 simp only [ba_cls,ba_can,ba_mro,ba_made,ba_typeCall,pure_bind,Bool.false_eq_true,if_false,List.isEmpty_cons]
 have up:∀ b o,s.heap.get? b=some o→(s.heap.push (barObj [])).get? b=some o:=λb o e=>Heap.get?_push_of_some _ e
 have here:(s.heap.push (barObj [])).get? s.heap.objs.size=some (barObj []):=Heap.get?_push_size _ rfl
 refine wpN_step (wpAny_holding (wpAny_call (codeAny_mono (ba_new (E:=λ_ _=>False) (Q₁:=λv s'=>v=.ref s.heap.objs.size∧s'={ s with heap:=s.heap.push (barObj []) }) ⟨rfl,rfl⟩) λr s' z=>?_)))
 rcases r with e | (v | _ | _ | _) <;> first | exact z.elim | skip
 obtain ⟨rfl,rfl⟩:=z
 refine wpN_step (wpAny_isInstance (IsBarr.type (s:={ s with heap:=s.heap.push (barObj []) }) here) ba_sub ?_)
 simp only [Bool.not_true,Bool.false_eq_true,if_false]
 refine wpN_bind (wpN_holding ?_)
 unfold callSpecial?
 refine wpN_step (wpAny_specialOf (IsBarr.type (s:={ s with heap:=s.heap.push (barObj []) }) here) ba_slot_init.lookup ?_)
 dsimp only
 refine wpN_holding ?_
 rw [ba_slot_init.bind]
 refine wpN_bind (wpN_pure (wpN_bind (wpN_call (codeN_call_builtin ba_slot_init.plain (by decide +kernel) ba_entry_init ?_))))
 refine .of (ba_slot_init.check _ _ _ _ _ _ _ _ (IsBarr.type (s:={ s with heap:=s.heap.push (barObj []) }) here) (ba_args_init _) ?_)
 refine ba_init (s:={ s with heap:=s.heap.push (barObj []) }) here λh' h1 h2=>?_
 refine wpN_pure ?_
 dsimp only
 refine wpN_pure ?_
 refine h h' (λb o e=>?_) h1
 exact (h2.2 b (Nat.ne_of_lt (Heap.lt_size e))).trans (up b o e)
end
theorem ba_buf:typeLookup (.type "bytearray") "__buffer__"=pure (some (.builtin "bytearray.__buffer__")):=by rw [typeLookup_type,builtinLookup_eq_fast]; kernel_rfl
theorem by_buf:typeLookup (.type "bytes") "__buffer__"=pure (some (.builtin "bytes.__buffer__")):=by rw [typeLookup_type,builtinLookup_eq_fast]; kernel_rfl
theorem by_release:typeLookup (.type "bytes") "__release_buffer__"=pure none:=by rw [typeLookup_type,builtinLookup_eq_fast]; kernel_rfl
theorem ba_bytes:typeLookup (.type "bytearray") "__bytes__"=pure none:=by rw [typeLookup_type,builtinLookup_eq_fast]; kernel_rfl
theorem by_bytes:typeLookup (.type "bytes") "__bytes__"=pure (some (.builtin "bytes.__bytes__")):=by rw [typeLookup_type,builtinLookup_eq_fast]; kernel_rfl
theorem ba_index:typeLookup (.type "bytearray") "__index__"=pure none:=by rw [typeLookup_type,builtinLookup_eq_fast]; kernel_rfl
theorem ba_buf_end:("bytearray.__buffer__".endsWith ("." ++ "__buffer__"))=true:=by decide +kernel
theorem by_buf_end:("bytes.__buffer__".endsWith ("." ++ "__buffer__"))=true:=by decide +kernel
theorem ba_buf_drop:("bytearray.__buffer__".dropRight ("__buffer__".length + 1))="bytearray":=by decide +kernel
theorem by_buf_drop:("bytes.__buffer__".dropRight ("__buffer__".length + 1))="bytes":=by decide +kernel
theorem ba_plainAttrs:PlainAttrs "bytearray" :=
 ⟨⟨"bytearray.__getattribute__",by rw [typeLookup_type,builtinLookup_eq_fast]; kernel_rfl,by decide +kernel⟩,by rw [typeLookup_type,builtinLookup_eq_fast]; kernel_rfl⟩
theorem ba_type_append:typeOf (.builtin "bytearray.append")=pure (.type "method_descriptor"):=by show builtinType _=_; rw [builtinType_eq_fast]; kernel_rfl
theorem ba_type_extend:typeOf (.builtin "bytearray.extend")=pure (.type "method_descriptor"):=by show builtinType _=_; rw [builtinType_eq_fast]; kernel_rfl
theorem by_own {M:Model} {A:Around} {E:Value→Shared→Prop} {s:Shared} {b:Array UInt8} {t:Tok} {Q:Bool→Shared→Prop} (q:Q false s):wpAny M A (Builtin.Bytes.ownRelease (.bytes b t)) Q E s:=by
 unfold Builtin.Bytes.ownRelease Builtin.Bytes.slotIsOwn
 refine wpAny_bind (wpAny_bind (wpAny_specialOf (typeIs_bytes s b t) by_release ?_))
 exact wpAny_pure (wpAny_pure q)
section
variable {prog:Program} {w:World} {A:Around} {E:Value→Shared→Prop} {s:Shared} {R:Result→Shared→Prop}
inductive Lends (s:Shared):Value→List UInt8→Prop
 | bytes (l t):Lends s (.bytes l.toArray t) l
 | barr {a l}:IsBarr s.heap a l→Lends s (.ref a) l
theorem ba_slotOwn {v:Value} {l} {Q:Bool→Shared→Prop} (h:Lends s v l) (q:Q true s):wpAny (model prog w) A (Builtin.Bytes.slotIsOwn v "__buffer__") Q E s:=by
 unfold Builtin.Bytes.slotIsOwn
 cases h with
 | bytes l t =>
  refine wpAny_bind (wpAny_specialOf (typeIs_bytes s _ t) by_buf ?_)
  dsimp only
  rw [by_buf_end,by_buf_drop]
  exact wpAny_isInstance (typeIs_bytes s _ t) F.sub_bytes_bytes q
 | barr h =>
  refine wpAny_bind (wpAny_specialOf h.type ba_buf ?_)
  dsimp only
  rw [ba_buf_end,ba_buf_drop]
  exact wpAny_isInstance h.type ba_sub q
theorem ba_buffer {id:String} {full:Bool} {v:Value} {l} {Q:Option (Array UInt8)→Shared→Prop} (h:Lends s v l) (q:Q (some l.toArray) s):wpAny (model prog w) A (Builtin.Bytes.buffer? id v full) Q E s:=by
 unfold Builtin.Bytes.buffer?
 cases h with
 | bytes l t =>
  refine wpAny_bind (wpAny_specialOf (typeIs_bytes s _ t) by_buf ?_)
  refine wpAny_bind (ba_slotOwn (.bytes l t) ?_)
  simp only [Bool.not_true,Bool.false_eq_true,if_false,pure_bind]
  refine wpAny_bind (wpAny_specialOf (typeIs_bytes s _ t) by_buf ?_)
  refine wpAny_bind (by_own ?_)
  simp only [Bool.false_eq_true,if_false]
  exact wpAny_bind (wpAny_bind (wpAny_pure (wpAny_pure (wpAny_pure q))))
 | barr h =>
  refine wpAny_bind (wpAny_specialOf h.type ba_buf ?_)
  refine wpAny_bind (ba_slotOwn (.barr h) ?_)
  simp only [Bool.not_true,Bool.false_eq_true,if_false,pure_bind]
  refine wpAny_bind (wpAny_specialOf h.type ba_buf ?_)
  refine wpAny_bind (ba_own h ?_)
  simp only [Bool.false_eq_true,if_false]
  exact wpAny_bind (ba_payload h (wpAny_pure q))
theorem ba_take {id:String} {v:Value} {l} {Q:Option (Array UInt8×Option Value)→Shared→Prop} (h:Lends s v l) (q:Q (some (l.toArray,none)) s):wpAny (model prog w) A (Builtin.Bytes.takeBufferQuiet? id v 0) Q E s:=by
 unfold Builtin.Bytes.takeBufferQuiet?
 refine wpAny_bind (wpAny_attempt ?_)
 unfold Builtin.Bytes.takeBuffer?
 have fin:wpAny (model prog w) A (Builtin.Bytes.buffer? id v (full:=(0:Int) == Builtin.Bytes.fullReadOnly) >>= λr=>pure (r.map λx=>(x,(none:Option Value)))) (λa s'=>wpAny (model prog w) A (match (Except.ok a:Except Value _) with | .ok r=>pure r | .error _=>rule "memoryview.buffer.refusal-replaced" >>= λ_=>pure none) Q E s') (λ_ _=>False) s :=
  wpAny_bind (ba_buffer h (wpAny_pure (wpAny_pure q)))
 cases h with
 | bytes l t =>
  refine wpAny_bind (wpAny_specialOf (typeIs_bytes s _ t) by_buf ?_)
  refine wpAny_bind (ba_slotOwn (.bytes l t) ?_)
  simp only [Bool.not_true,Bool.false_eq_true,if_false,pure_bind]
  refine wpAny_bind (wpAny_specialOf (typeIs_bytes s _ t) by_buf ?_)
  exact wpAny_mono fin (λ_ _ z=>z) λ_ _ z=>z.elim
 | barr h =>
  refine wpAny_bind (wpAny_specialOf h.type ba_buf ?_)
  refine wpAny_bind (ba_slotOwn (.barr h) ?_)
  simp only [Bool.not_true,Bool.false_eq_true,if_false,pure_bind]
  refine wpAny_bind (wpAny_specialOf h.type ba_buf ?_)
  exact wpAny_mono fin (λ_ _ z=>z) λ_ _ z=>z.elim
theorem ba_check {a l} {Q:Unit→Shared→Prop} (h:IsBarr s.heap a l) (q:Q () s):wpN (model prog w) A (Builtin.Bytes.checkResize (.ref a)) Q E s:=by
 unfold Builtin.Bytes.checkResize
 refine wpN_bind (ba_held h ?_)
 exact wpN_pure q
theorem ba_append {a:Addr} {l:List UInt8} {i:Int} {t:Tok} {Q:Value→Shared→Prop} (h:IsBarr s.heap a l) (h0:0≤i) (h1:i < 256) (hz:l.length + 1≤sizeLine)
  (q:∀ h',IsBarr h' a (l ++ [UInt8.ofNat i.toNat])→Heap.SameBut a s.heap h'→Q .none { s with heap:=h' }):wpN (model prog w) A (call (.builtin "bytearray.append") [.ref a,.int i t]) Q E s:=by
 refine wpN_call (codeN_call_builtin ba_slot_append.plain (by decide +kernel) ba_entry_append ?_)
 refine .of (ba_slot_append.check _ _ _ _ _ _ _ _ h.type (ba_args_append _ _) ?_)
 unfold Builtin.«bytearray.append»
 refine wpN_step (wpAny_of_eq (a:=(.ref a,.int i t)) rfl ?_)
 refine wpN_step (m:=Builtin.Bytes.byteValue (.int i t)) ?_
 unfold Builtin.Bytes.byteValue
 refine wpAny_bind (wpAny_of_eq (rfl:asIndex (.int i t)=pure i) ?_)
 rw [if_neg (by simp only [Bool.or_eq_true,decide_eq_true_eq]; omega)]
 refine wpAny_pure ?_
 refine wpN_bind (ba_check h ?_)
 refine wpN_step (ba_write (l':=l ++ [UInt8.ofNat i.toNat]) h (by simp [Nat.toUInt8]) (by simpa using hz) λh' h1 h2=>?_)
 exact wpN_pure (q h' h1 h2)
theorem ba_extend {a:Addr} {l m:List UInt8} {v:Value} {Q:Value→Shared→Prop} (h:IsBarr s.heap a l) (hv:Lends s v m) (hz:l.length + m.length≤sizeLine)
  (q:∀ h',IsBarr h' a (l ++ m)→Heap.SameBut a s.heap h'→Q .none { s with heap:=h' }):wpN (model prog w) A (call (.builtin "bytearray.extend") [.ref a,v]) Q E s:=by
 refine wpN_call (codeN_call_builtin ba_slot_extend.plain (by decide +kernel) ba_entry_extend ?_)
 refine .of (ba_slot_extend.check _ _ _ _ _ _ _ _ h.type (ba_args_extend _ _) ?_)
 unfold Builtin.«bytearray.extend»
 refine wpN_step (wpAny_of_eq (a:=(.ref a,v)) rfl ?_)
 have last:∀ A',wpN (model prog w) A' (Builtin.Bytes.write (.ref a) (· ++ m.toArray) >>= λ_=>(ret .none:Sem Fin)) (λfin s'=>match fin with | .done f=>(match (Except.ok f:Result) with | .ok (.ret v)=>Q v s' | .ok _=>False | .error e=>E e s') | .again c'=>c'.quiet=true∧isBad c'=false∧codeN (model prog w) A c' (λr s'=>match r with | .ok (.ret v)=>Q v s' | .ok _=>False | .error e=>E e s') s') (λe s'=>E e s') s:=λA' =>
  wpN_step (ba_write (l':=l ++ m) h (by simp) (by simpa using hz) λh' h1 h2=>wpN_pure (q h' h1 h2))
 have all:∀ A',wpN (model prog w) A' (do
   if (!m.toArray.isEmpty)=true then Builtin.Bytes.checkResize (.ref a)
   Builtin.Bytes.write (.ref a) (· ++ m.toArray)
   (ret .none:Sem Fin)) (λfin s'=>match fin with | .done f=>(match (Except.ok f:Result) with | .ok (.ret v)=>Q v s' | .ok _=>False | .error e=>E e s') | .again c'=>c'.quiet=true∧isBad c'=false∧codeN (model prog w) A c' (λr s'=>match r with | .ok (.ret v)=>Q v s' | .ok _=>False | .error e=>E e s') s') (λe s'=>E e s') s:=λA' =>
  wpN_ite (λ_=>wpN_bind (ba_check h (last A'))) λ_=>last A'
 cases hv with
 | bytes l t =>
  refine wpN_step (wpAny_specialOf (typeIs_bytes s _ t) by_buf ?_)
  simp only [Option.isSome_some,if_true]
  refine wpN_step (wpAny_rule ?_)
  refine wpN_step (ba_payload h ?_)
  refine wpN_step (ba_take (.bytes _ t) ?_)
  simp only [Option.isNone_none,if_true]
  exact all _
 | barr hm =>
  refine wpN_step (wpAny_specialOf hm.type ba_buf ?_)
  simp only [Option.isSome_some,if_true]
  refine wpN_step (wpAny_rule ?_)
  refine wpN_step (ba_payload h ?_)
  refine wpN_step (ba_take (.barr hm) ?_)
  simp only [Option.isNone_none,if_true]
  exact all _
theorem ba_len {a l} {Q:Value→Shared→Prop} (h:IsBarr s.heap a l) (hz:l.length≤1099511627776) (q:Q (.int l.length (s.toks + 1)) { s with toks:=s.toks + 1 + 1 }):wpAny (model prog w) A (call (.builtin "len") [.ref a]) Q E s:=by
 refine call_function_entry kind_len plain_len entry_len (args_len1 _) ?_
 unfold Builtin.«len»
 refine wpAny_bind (m:=oneArg "len" _) (wpAny_pure ?_)
 refine wpAny_bind (m:=callSpecial? (.ref a) (Str.ofString "__len__")) (wpAny_callSpecial?_slot (name:=Str.ofString "__len__") h.type ba_slot_len
  (wpAny_call_entry ba_slot_len h.type ba_entry_len ?_ (ba_args_len _)))
 ·show wpAny _ _ (do retInt (←Builtin.Bytes.payload (.ref a)).size) _ _ s
  refine wpAny_bind (ba_payload h (wpAny_bind (wpAny_mkInt (wpAny_pure ⟨_,rfl,?_⟩))))
  refine wpAny_bind (wpAny_holding (wpAny_pure ?_))
  refine wpAny_bind (wpAny_letGo ?_)
  show wpAny _ _ (if ((l.toArray.size:Nat):Int) < 0 then _ else _) _ _ _
  rw [if_neg (by omega)]
  show wpAny _ _ (if ((l.toArray.size:Nat):Int) ≥ 2 ^ 63 then _ else _) _ _ _
  rw [if_neg (by simp only [List.size_toArray]; omega)]
  exact wpAny_bind (wpAny_mkInt (wpAny_pure ⟨_,rfl,by simpa using q⟩))
theorem by_new {v:Value} {l} {Q:Value→Shared→Prop} (h:Lends s v l) (hz:(∀ a,v=.ref a→l.length≤sizeLine)) (q:∀ t k,Q (.bytes l.toArray t) { s with toks:=k }) :
  codeAny (model prog w) A (.call (.builtin "bytes.__new__") ⟨[.type "bytes",v],[]⟩) (wants Q E) s:=by
 refine codeAny_of_tree ?_
 show wpAny _ A.in1 (do checkBuiltinCall "bytes.__new__" ⟨[.type "bytes",v],[]⟩; again (.builtin "bytes.__new__" ⟨[.type "bytes",v],[]⟩)) _ _ s
 refine wpAny_bind (wpAny_of_eq (F.bm_newCall _) (wpAny_pure ⟨plainId_quiet F.bm_plain _,codeAny_builtin F.bm_entry ?_⟩))
 rw [Around.under_plainId F.bm_plain _]
 unfold Builtin.«bytes.__new__»
 refine wpAny_bind (wpAny_of_eq (a:=true) rfl ?_)
 refine bm_if_false rfl ?_
 refine wpAny_bind (wpAny_of_eq F.bm_sub ?_)
 refine bm_if_false rfl ?_
 refine wpAny_bind (wpAny_of_eq (F.bm_bind _) ?_)
 refine wpAny_bind (wpAny_of_eq (a:=()) rfl ?_)
 refine wpAny_bind (wpAny_of_eq (a:=()) rfl ?_)
 refine bm_if_false rfl ?_
 cases h with
 | bytes l t =>
  refine wpAny_bind (wpAny_specialOf (typeIs_bytes s _ t) by_bytes ?_)
  dsimp only
  refine wpAny_bind (wpAny_rule ?_)
  refine wpAny_bind (wpAny_typeOf (typeIs_bytes s _ t) ?_)
  refine bm_if_true (by decide) ?_
  show wpAny _ _ (if (Value.type "bytes" == Value.type "bytes")=true then _ else _) _ _ _
  refine bm_if_true (by decide) ?_
  exact wpAny_pure (q t s.toks)
 | @barr a _ h =>
  refine wpAny_bind (wpAny_specialOf h.type ba_bytes ?_)
  refine wpAny_bind (wpAny_bind ?_)
  show wpAny _ _ (load a >>= _) _ _ _
  refine wpAny_bind (wpAny_load h ?_)
  refine wpAny_pure (wpAny_pure ?_)
  refine bm_if_false rfl ?_
  refine wpAny_bind (wpAny_specialOf h.type ba_index ?_)
  refine bm_if_true rfl ?_
  show wpAny _ _ (Builtin.Bytes.buffer? "bytes.__new__" (.ref a) true >>= _) _ _ _
  refine wpAny_bind (ba_buffer (.barr h) ?_)
  dsimp only
  refine wpAny_bind (wpAny_rule ?_)
  refine wpAny_bind (wpAny_mkBytes ?_ (by simpa using hz a rfl))
  show wpAny _ _ (if (Value.type "bytes" == Value.type "bytes")=true then _ else _) _ _ _
  refine bm_if_true (by decide) ?_
  exact wpAny_pure (q _ _)
theorem by_call {v:Value} {l} {Q:Value→Shared→Prop} (h:Lends s v l) (hz:(∀ a,v=.ref a→l.length≤sizeLine)) (q:∀ t k,Q (.bytes l.toArray t) { s with toks:=k }):wpAny (model prog w) A (call (.type "bytes") [v]) Q E s:=by
 refine callType_codes (Q₁:=λobj s₁=>s₁.TypeIs obj "bytes"∧Q obj s₁) F.bm_called (F.bm_typeCall _) F.entry_object_init
  (by_new h hz λt k=>⟨PySem.W.typeIs_bytes _ _ _,q t k⟩) λobj s₁ h₁=>?_
 exact ⟨h₁.1,F.args_object_init_2 obj _,object_init_meets F.bm_called.init.lookup F.bm_called.made (by decide) prog w A.in1 _ s₁ ⟨h₁.1,rfl,h₁.2⟩⟩
end
theorem bi_slot_next:Slot "bytearray_iterator" "__next__" "bytearray_iterator.__next__" :=
 .of (owner:="bytearray_iterator") (n:="__next__") (by rw [typeLookup_type,builtinLookup_eq_fast]; kernel_rfl) (by decide +kernel) (by decide +kernel) (by decide +kernel)
  (by first | exact .inl (by decide +kernel) | exact .inr (by decide +kernel)) (by rw [isSubtype_type]; kernel_rfl)
theorem bi_slot_self:Slot "bytearray_iterator" "__iter__" "bytearray_iterator.__iter__" :=
 .of (owner:="bytearray_iterator") (n:="__iter__") (by rw [typeLookup_type,builtinLookup_eq_fast]; kernel_rfl) (by decide +kernel) (by decide +kernel) (by decide +kernel)
  (by first | exact .inl (by decide +kernel) | exact .inr (by decide +kernel)) (by rw [isSubtype_type]; kernel_rfl)
theorem bi_entry_next:entryFor table "bytearray_iterator.__next__"=some Builtin.«bytearray_iterator.__next__»:=entryFor_of_tree (by kernel_rfl)
theorem bi_entry_self:entryFor table "bytearray_iterator.__iter__"=some Builtin.«dict_keyiterator.__iter__»:=entryFor_alias (id':="dict_keyiterator.__iter__") (by kernel_rfl) rfl (by decide +kernel) (by kernel_rfl)
theorem bi_args_next (a:Value):argsOk "bytearray_iterator.__next__" ⟨[a],[]⟩:=by unfold argsOk; kernel_rfl
theorem bi_args_self (a:Value):argsOk "bytearray_iterator.__iter__" ⟨[a],[]⟩:=by unfold argsOk; kernel_rfl
noncomputable def IsBaIter (h:Heap) (it a:Addr) (i:Nat):Prop:=∃ o,h.get? it=some o∧o.cls=.type "bytearray_iterator"∧o.data=.fields #[.ref a,.int i 0]
theorem IsBaIter.type {s:Shared} {it a:Addr} {i:Nat} (y:IsBaIter s.heap it a i):s.TypeIs (.ref it) "bytearray_iterator":=let ⟨o,ho,hc,_⟩:=y; ⟨o,ho,hc⟩
section
variable {prog:Program} {w:World} {A:Around} {E:Value→Shared→Prop} {s:Shared} {a:Addr} {l:List UInt8}
theorem bi_iter {Q:Value→Shared→Prop} (h:IsBarr s.heap a l) (hQ:Q (.ref s.heap.objs.size) { s with heap:=s.heap.push { cls:=.type "bytearray_iterator",data:=.fields #[.ref a,.int 0 0] } }):wpAny (model prog w) A (pyIter (.ref a)) Q E s:=by
 refine wpAny_pyIter_slot h.type ba_slot_iter (wpAny_call_entry ba_slot_iter h.type ba_entry_iter ?_ (ba_args_iter _))
 show wpAny _ _ (do ret (←newFields "bytearray_iterator" [.ref a,rawInt 0])) _ _ s
 exact wpAny_bind (wpAny_newObj_type (wpAny_pure ⟨_,rfl,"bytearray_iterator",_,⟨_,Heap.get?_push_size _ rfl,rfl⟩,bi_slot_next.lookup,hQ⟩))
theorem bi_self {it:Addr} {i:Nat} {Q:Value→Shared→Prop} (hit:IsBaIter s.heap it a i) (h:Q (.ref it) s):wpAny (model prog w) A (pyIter (.ref it)) Q E s:=by
 refine wpAny_pyIter_slot hit.type bi_slot_self (wpAny_call_entry bi_slot_self hit.type bi_entry_self ?_ (bi_args_self _))
 show wpAny _ _ (ret (.ref it)) _ _ s
 exact wpAny_pure ⟨_,rfl,"bytearray_iterator",_,hit.type,bi_slot_next.lookup,h⟩
theorem bi_item {it:Addr} {i:Nat} {c:UInt8} {Q:Option Value→Shared→Prop} (hit:IsBaIter s.heap it a i) (h:IsBarr s.heap a l) (hx:l[i]?=some c)
  (hQ:∀ h',IsBaIter h' it a (i + 1)→Heap.SameBut it s.heap h'→Q (some (.int (c.toNat:Int) s.toks)) { s with heap:=h',toks:=s.toks + 1 }):wpAny (model prog w) A (pyNext (.ref it)) Q E s:=by
 obtain ⟨o,ho,hc,hd⟩:=id hit
 unfold pyNext
 refine wpAny_bind (wpAny_attempt (wpAny_callSpecial?_slot (name:=Str.ofString "__next__") hit.type bi_slot_next (wpAny_call_entry bi_slot_next hit.type bi_entry_next ?_ (bi_args_next _))))
 show wpAny _ _ (field (.ref it) 0 >>= _) _ _ s
 refine wpAny_bind (wpAny_field ho hd (x:=.ref a) rfl ?_)
 refine wpAny_bind (m:=load a) (wpAny_load h ?_)
 show wpAny _ _ (field (.ref it) 1 >>= _) _ _ s
 refine wpAny_bind (wpAny_field ho hd (x:=.int i 0) rfl ?_)
 have hx':l.toArray[i]?=some c:=by simpa using hx
 simp only [Int.toNat_natCast,hx']
 refine wpAny_bind (wpAny_setField ho hd (by simp) (wpAny_bind (wpAny_mkInt (wpAny_pure ⟨_,rfl,wpAny_pure (hQ _ ?_ (Heap.SameBut.update ..))⟩))))
 exact ⟨_,Heap.get?_update_self _ ho (Obj.isFreed_of_fields (Obj.data_mapFields hd _)),(Obj.cls_mapFields ..).trans hc,by
  rw [Obj.data_mapFields hd]; simp [rawInt]⟩
theorem bi_end {it:Addr} {i:Nat} {Q:Option Value→Shared→Prop} (hh:A.handled=none) (hit:IsBaIter s.heap it a i) (h:IsBarr s.heap a l) (hx:l[i]?=none)
  (hQ:∀ h',Heap.ExtBut it s.heap h'→Q none { s with heap:=h' }):wpAny (model prog w) A (pyNext (.ref it)) Q E s:=by
 obtain ⟨o,ho,hc,hd⟩:=id hit
 unfold pyNext
 refine wpAny_bind (wpAny_attempt (wpAny_callSpecial?_slot (name:=Str.ofString "__next__") hit.type bi_slot_next (wpAny_call_entry bi_slot_next hit.type bi_entry_next ?_ (bi_args_next _))))
 show wpAny _ _ (field (.ref it) 0 >>= _) _ _ s
 refine wpAny_bind (wpAny_field ho hd (x:=.ref a) rfl ?_)
 refine wpAny_bind (m:=load a) (wpAny_load h ?_)
 show wpAny _ _ (field (.ref it) 1 >>= _) _ _ s
 refine wpAny_bind (wpAny_field ho hd (x:=.int i 0) rfl ?_)
 have hx':l.toArray[i]?=none:=by simpa using hx
 simp only [Int.toNat_natCast,hx']
 refine wpAny_bind (wpAny_rule (wpAny_bind (wpAny_setField ho hd (by simp) (wpAny_bind (wpAny_letGo ?_)))))
 show wpAny _ _ (newExc (.type "StopIteration") [] >>= _) _ _ _
 refine wpAny_bind ?_
 simp only [newExc,newTuple]
 refine wpAny_bind (wpAny_newObj_type ?_ (by size_fits))
 refine wpAny_bind (m:=firstArgMember _ _) (wpAny_of_eq (a:=Value.none) (by first | rfl | (simp only [firstArgMember]; rfl)) ?_)
 refine wpAny_newObj_type ?_ (by size_fits)
 simp only [raiseNew]
 refine wpAny_bind (wpAny_handled ?_)
 rw [show A.in1.handled=none from hh]
 refine wpAny_bind (wpAny_pure (wpAny_throw ?_))
 refine wpAny_bind (wpAny_isInstance (T:="StopIteration") (b:=true) ⟨_,Heap.get?_push_size _ rfl,rfl⟩ isSubtype_stop ?_)
 exact wpAny_pure (hQ _ (((Heap.SameBut.update ..).extBut.push _).push _))
end
theorem bi_walks {prog:Program} {w:World} {A:Around} (hh:A.handled=none) (I a:Addr) (hne:a≠I) (l:List UInt8) :
  Walks prog w A I [I,a] [I] l.length (λi v=>∃ c u,l[i]?=some c∧v=.int (c.toNat:Int) u) (λi h=>IsBaIter h I a i∧IsBarr h a l) where
 sub:=λb hb=>by simp at hb; simp [hb]
 frame:=λ_ _ _ st hk=>⟨let ⟨o,ho,r⟩:=st.1; ⟨o,hk I (by simp) o ho,r⟩,hk a (by simp) _ st.2⟩
 item:=λi s Q E hi st hQ=>by
  refine bi_item st.1 st.2 (c:=l[i]) (by simp [hi]) λh' hit' hs'=>?_
  exact hQ _ h' (s.toks + 1) ⟨_,_,by simp [hi],rfl⟩ ⟨hit',(hs'.2 a hne).trans st.2⟩ λb o hb e=>hs'.extBut b o (λh=>hb (by simp [h])) e
 done:=λs Q E st hQ=>bi_end hh st.1 st.2 (by simp) λh' he'=>hQ h' s.toks λb o hb e=>he' b o (λh=>hb (by simp [h])) e
 self:=λ_ _ _ _ st hQ=>bi_self st.1 hQ
inductive Iterable (γ:Gam) (sg:List Addr) (h:Heap):Value→List Val→Prop
 | rep {x v items}:Rep γ sg h x v→items? x=some items→Iterable γ sg h v items
 | rng {r a b c t u v items}:γ r=none→IsRange h r a b c t u v→Builtin.Range.small a b c=true→items=((List.range (Builtin.Range.rangeSize a b c).toNat).map λ(k:Nat)=>Val.int (a + (k:Int) * c))→0≤Builtin.Range.rangeSize a b c→Iterable γ sg h (.ref r) items
theorem Iterable.mono {γ sg h γ' sg' h'} (k:Kept γ sg h γ' sg' h') {v items}:Iterable γ sg h v items→Iterable γ' sg' h' v items
 | .rep r e=>.rep (r.mono k) e
 | .rng g hr hs e z=>.rng (k.froz _ _ g hr) (k.keep _ _ g hr) hs e z
noncomputable def quietIt (o:Obj):Bool:=match o.cls with
 | .type t=>!["enumerate","zip","dict_itemiterator","dict_reverseitemiterator","odict_iterator","itertools.zip_longest","itertools.pairwise"].contains t
 | _=>true
theorem quiet_of {h:Heap} {a:Addr} {o:Obj} {t:String} (ho:h.get? a=some o) (hc:o.cls=.type t) (hq:(!["enumerate","zip","dict_itemiterator","dict_reverseitemiterator","odict_iterator","itertools.zip_longest","itertools.pairwise"].contains t)=true):∃ o,h.get? a=some o∧quietIt o=true :=
 ⟨o,ho,by unfold quietIt; rw [hc]; exact hq⟩
structure Wk (C:Cfg) (γ:Gam) (sg:List Addr) (h:Heap) (I:Addr) (fp:List Addr) (items:List Val) (P:Nat→Value→Prop) (St:Nat→Heap→Prop):Prop where
 W:∀ A:Around,A.handled=none→Walks C.prog C.w A I fp [I] items.length P St
 tag:γ I=some .prot
 fp:∀ b∈fp,b=I∨((γ b=none∨γ b=some .prot)∧∃ o,h.get? b=some o)
 val:∀ i v,P i v→∀ x,items[i]?=some x→Rep γ sg h x v
 quiet:∀ i h,St i h→∃ o,h.get? I=some o∧quietIt o=true
theorem Wk.monoS {C γ sg γ' sg' I fp items P St} {s s':Shared} (x:Wk C γ sg s.heap I fp items P St) (A:AdvS γ sg s γ' sg' s'):Wk C γ' sg' s'.heap I fp items P St :=
 ⟨x.W,A.prot _ x.tag,λb hb=>(x.fp b hb).imp id λ⟨g,o,e⟩=>⟨g.imp (λg=>A.kept.froz b o g e) λg=>A.prot b g,o,g.elim (λg=>A.kept.keep b o g e) λg=>A.keepP b o g e⟩,λi v p y hy=>(x.val i v p y hy).mono A.kept,x.quiet⟩
theorem Wk.stS {C γ sg γ' sg' I fp items P St} {s s':Shared} (x:Wk C γ sg s.heap I fp items P St) (A:AdvS γ sg s γ' sg' s') {i:Nat} (hs:St i s.heap):St i s'.heap:=by
 refine (x.W { } rfl).frame i _ _ hs λb hb o e=>?_
 rcases x.fp b hb with rfl | ⟨g | g,_⟩
 ·exact A.keepP _ o x.tag e
 ·exact A.kept.keep b o g e
 ·exact A.keepP b o g e
theorem Wk.mono {C γ sg γ' sg' I fp items P St} {s s':Shared} (x:Wk C γ sg s.heap I fp items P St) (A:Adv γ sg s γ' sg' s'):Wk C γ' sg' s'.heap I fp items P St:=x.monoS A.toAdvS
theorem Wk.st {C γ sg γ' sg' I fp items P St} {s s':Shared} (x:Wk C γ sg s.heap I fp items P St) (A:Adv γ sg s γ' sg' s') {i:Nat} (hs:St i s.heap):St i s'.heap:=x.stS A.toAdvS hs
noncomputable def KWk (C:Cfg) (pl:Nat→Option Place) (γ:Gam) (sg:List Addr) (σ:St) (s:Shared) (items:List Val) (Q:Value→Shared→Prop):Prop:=∀ γ' it fp P St s',Inv C pl γ' sg σ s'→Adv γ sg s γ' sg s'→Wk C γ' sg s'.heap it fp items P St→St 0 s'.heap→s.heap.get? it=none→Q (.ref it) s'
section
variable {C:Cfg} {pl:Nat→Option Place} {A:Around} {E:Value→Shared→Prop} {γ:Gam} {sg:List Addr} {σ:St} {s:Shared}
theorem wk_new (I:Inv C pl γ sg σ s) (o:Obj) (hf:o.isFreed=false) {fp items} {P:Nat→Value→Prop} {St:Nat→Heap→Prop}
  (W:∀ A:Around,A.handled=none→Walks C.prog C.w A s.heap.objs.size fp [s.heap.objs.size] items.length P St) (hfp:∀ b∈fp,b=s.heap.objs.size∨((γ b=none∨γ b=some .prot)∧∃ o,s.heap.get? b=some o))
  (hval:∀ i v,P i v→∀ x,items[i]?=some x→Rep γ sg s.heap x v) (hst:St 0 (s.heap.push o)) (hqt:∀ i h,St i h→∃ o,h.get? s.heap.objs.size=some o∧quietIt o=true) {Q:Value→Shared→Prop} (k:Nat)
  (hQ:KWk C pl γ sg σ s items Q) :
  Q (.ref s.heap.objs.size) { s with heap:=s.heap.push o,toks:=k }:=by
 have I':=I.push o (some .prot) k hf
 have A':=I.pushA o (some .prot) k
 refine hQ _ _ fp P St _ I' A' ⟨W,Gam.upd_self ..,λb hb=>(hfp b hb).imp id λ⟨g,o',e⟩=>⟨g.imp (λg=>A'.kept.froz b o' g e) λg=>A'.prot b g,o',Heap.get?_push_of_some _ e⟩,λi v p x hx=>(hval i v p x hx).mono A'.kept,hqt⟩ hst (get?_size _)
theorem ga {α:Type} {l:List α} {i:Nat} {c:α} (h:l.toArray[i]?=some c):l[i]?=some c:=by simpa using h
theorem gm {α β:Type} {l:List α} {i:Nat} {c:α} {f:α→β} {y:β} (h:l[i]?=some c) (e:(l.map f)[i]?=some y):y=f c:=by
 rw [List.getElem?_map,h] at e; exact (sj e).symm
theorem fp2 {L a:Addr} {o:Obj} (g:γ a=none∨γ a=some .prot) (ho:s.heap.get? a=some o):∀ b∈[L,a],b=L∨((γ b=none∨γ b=some .prot)∧∃ o,s.heap.get? b=some o):=λb hb=>by
 rcases List.mem_cons.mp hb with rfl | hb
 ·exact .inl rfl
 ·rw [List.mem_singleton.mp hb]; exact .inr ⟨g,o,ho⟩
theorem fp1 {L:Addr}:∀ b∈[L],b=L∨((γ b=none∨γ b=some .prot)∧∃ o,s.heap.get? b=some o):=λb hb=>.inl (List.mem_singleton.mp hb)
theorem iter_list (I:Inv C pl γ sg σ s) {a:Addr} {vs:List Value} {l:List Val} (g:γ a=none∨γ a=some .prot) (hh:s.heap.IsList a vs.toArray) (r:Reps γ sg s.heap l vs) {Q:Value→Shared→Prop}
  (hQ:KWk C pl γ sg σ s l Q) :
  wpAny (model C.prog C.w) A (pyIter (.ref a)) Q E s:=by
 refine wpAny_pyIter_list hh ?_
 have ne:a≠s.heap.objs.size:=Nat.ne_of_lt (IsList_lt hh)
 refine wk_new I _ rfl (fp:=[s.heap.objs.size,a]) (P:=λi v=>vs.toArray[i]?=some v) (St:=λi h=>h.IsListIter s.heap.objs.size a i∧h.IsList a vs.toArray) ?_ ?_ ?_ ?_ ?_ s.toks hQ
 ·intro A h2
  have:=Walks.list (prog:=C.prog) (w:=C.w) h2 s.heap.objs.size a ne vs.toArray
  have e2:vs.toArray.size=l.length:=(List.size_toArray ..).trans r.length
  rw [e2] at this
  exact this
 ·exact let ⟨o,ho,_⟩:=hh; fp2 g ho
 ·intro i v h1 x hx
  obtain ⟨v',e1,r1⟩:=r.get hx
  exact sj (e1.symm.trans (ga h1)) ▸ r1
 ·exact ⟨⟨_,Heap.get?_push_size _ rfl,rfl,rfl⟩,IsList_to hh λo e=>Heap.get?_push_of_some _ e⟩
 ·exact λi h ⟨⟨o,ho,hc,_⟩,_⟩=>quiet_of ho hc (by decide +kernel)
theorem iter_rng (I:Inv C pl γ sg σ s) {ad:Addr} {a b c t u v} (hr:IsRange s.heap ad a b c t u v) (hs:Builtin.Range.small a b c=true) (hz:0≤Builtin.Range.rangeSize a b c) {Q:Value→Shared→Prop}
  (hQ:KWk C pl γ sg σ s ((List.range (Builtin.Range.rangeSize a b c).toNat).map λ(k:Nat)=>Val.int (a + (k:Int) * c)) Q):wpAny (model C.prog C.w) A (pyIter (.ref ad)) Q E s:=by
 refine wpAny_pyIter_range hr hs ?_
 refine wk_new I _ rfl (fp:=[s.heap.objs.size]) (P:=λi v=>∃ t,v=.int (a + i * c) t) (St:=λi h=>IsRangeIter h s.heap.objs.size (a + (i:Nat) * c) (((Builtin.Range.rangeSize a b c).toNat:Int) - (i:Nat)) c) ?_ fp1 ?_ ?_ ?_ s.toks hQ
 ·intro A hh
  rw [List.length_map,List.length_range]
  exact Walks.range hh _ a c _
 ·rintro i v ⟨t,rfl⟩ x hx
  rw [List.getElem?_map] at hx
  obtain ⟨k,hk,rfl⟩:=Option.map_eq_some_iff.mp hx
  obtain ⟨h1,h2⟩:=List.getElem?_eq_some_iff.mp hk
  rw [List.getElem_range] at h2
  subst h2
  exact .int _ _
 ·show (s.heap.push _).get? s.heap.objs.size=_
  rw [Heap.get?_push_size _ rfl,Int.toNat_of_nonneg hz]
  simp
 ·exact λi h st=>quiet_of st rfl (by decide +kernel)
theorem iter_str (I:Inv C pl γ sg σ s) {l:List Nat} {t} {Q:Value→Shared→Prop} (hQ:KWk C pl γ sg σ s (l.map λc=>.str [c]) Q):wpAny (model C.prog C.w) A (pyIter (.str ⟨l.toArray⟩ t)) Q E s:=by
 refine wpAny_pyIter_strU ?_
 have hv:∀ i v,SignAt ⟨l.toArray⟩ i v→∀ x,(l.map λc=>Val.str [c])[i]?=some x→Rep γ sg s.heap x v:=by
  rintro i v ⟨c,u,h1,rfl⟩ x hx
  rw [gm (ga h1) hx]; exact .str [c] u
 cases ha:(⟨l.toArray⟩:Str).cps.all (· < 128)
 ·refine wk_new I _ rfl (fp:=[s.heap.objs.size]) (P:=SignAt ⟨l.toArray⟩) (St:=λi h=>h.IsStrIter s.heap.objs.size "str_iterator" ⟨l.toArray⟩ t i) ?_ fp1 hv ?_ ?_ s.toks hQ
  ·intro A hh
   rw [List.length_map]
   have:=Walks.strWide (prog:=C.prog) (w:=C.w) hh s.heap.objs.size ⟨l.toArray⟩ t
   simpa using this
  ·exact ⟨_,Heap.get?_push_size _ rfl,by simp only [strIterType]; rw [ha]; rfl,rfl⟩
  ·exact λi h ⟨o,ho,hc,_⟩=>quiet_of ho hc (by decide +kernel)
 ·refine wk_new I _ rfl (fp:=[s.heap.objs.size]) (P:=SignAt ⟨l.toArray⟩) (St:=λi h=>h.IsStrIter s.heap.objs.size "str_ascii_iterator" ⟨l.toArray⟩ t i) ?_ fp1 hv ?_ ?_ s.toks hQ
  ·intro A hh
   rw [List.length_map]
   have:=Walks.strAscii (prog:=C.prog) (w:=C.w) hh s.heap.objs.size ⟨l.toArray⟩ t
   simpa using this
  ·exact ⟨_,Heap.get?_push_size _ rfl,by simp only [strIterType]; rw [ha]; rfl,rfl⟩
  ·exact λi h ⟨o,ho,hc,_⟩=>quiet_of ho hc (by decide +kernel)
theorem iter_bytes (I:Inv C pl γ sg σ s) {l:List UInt8} {t} {Q:Value→Shared→Prop} (hQ:KWk C pl γ sg σ s (l.map λb=>.int (b.toNat:Int)) Q):wpAny (model C.prog C.w) A (pyIter (.bytes l.toArray t)) Q E s:=by
 refine KBw.pyIter_bytes ?_
 refine wk_new I _ rfl (fp:=[s.heap.objs.size]) (P:=λi v=>∃ c u,l.toArray[i]?=some c∧v=.int (c.toNat:Int) u) (St:=λi h=>KBw.IsBytesIter h s.heap.objs.size l.toArray t i) ?_ fp1 ?_ ?_ ?_ s.toks hQ
 ·intro A hh
  rw [List.length_map]
  have:=KBw.walks (prog:=C.prog) (w:=C.w) hh s.heap.objs.size l.toArray t
  simpa using this
 ·rintro i v ⟨c,u,h1,rfl⟩ x hx
  rw [gm (ga h1) hx]; exact .int _ u
 ·exact ⟨_,Heap.get?_push_size _ rfl,rfl,rfl⟩
 ·exact λi h ⟨o,ho,hc,_⟩=>quiet_of ho hc (by decide +kernel)
theorem iter_tuple (I:Inv C pl γ sg σ s) {a:Addr} {vs:List Value} {l:List Val} (g:γ a=none) (hh:s.heap.IsTuple a vs.toArray) (r:Reps γ sg s.heap l vs) {Q:Value→Shared→Prop} (hQ:KWk C pl γ sg σ s l Q):wpAny (model C.prog C.w) A (pyIter (.ref a)) Q E s:=by
 refine wpAny_pyIter_tuple hh ?_
 have ne:a≠s.heap.objs.size:=Nat.ne_of_lt (IsTuple_lt hh)
 refine wk_new I _ rfl (fp:=[s.heap.objs.size,a]) (P:=λi v=>vs.toArray[i]?=some v) (St:=λi h=>h.IsTupleIter s.heap.objs.size a i∧h.IsTuple a vs.toArray) ?_ ?_ ?_ ?_ ?_ s.toks hQ
 ·intro A h2
  have:=Walks.tuple (prog:=C.prog) (w:=C.w) h2 s.heap.objs.size a ne vs.toArray
  have e2:vs.toArray.size=l.length:=(List.size_toArray ..).trans r.length
  rw [e2] at this
  exact this
 ·exact let ⟨o,ho,_⟩:=hh; fp2 (.inl g) ho
 ·intro i v h1 x hx
  obtain ⟨v',e1,r1⟩:=r.get hx
  exact sj (e1.symm.trans (ga h1)) ▸ r1
 ·exact ⟨⟨_,Heap.get?_push_size _ rfl,rfl,rfl⟩,IsTuple_to hh λo e=>Heap.get?_push_of_some _ e⟩
 ·exact λi h ⟨⟨o,ho,hc,_⟩,_⟩=>quiet_of ho hc (by decide +kernel)
theorem iter_barr (I:Inv C pl γ sg σ s) {a:Addr} {l:List UInt8} (g:γ a=none) (hh:s.heap.get? a=some (barObj l)) {Q:Value→Shared→Prop} (hQ:KWk C pl γ sg σ s (l.map λb=>.int (b.toNat:Int)) Q):wpAny (model C.prog C.w) A (pyIter (.ref a)) Q E s:=by
 refine bi_iter hh ?_
 have ne:a≠s.heap.objs.size:=Nat.ne_of_lt (Heap.lt_size hh)
 refine wk_new I _ rfl (fp:=[s.heap.objs.size,a]) (P:=λi v=>∃ c u,l[i]?=some c∧v=.int (c.toNat:Int) u) (St:=λi h=>IsBaIter h s.heap.objs.size a i∧IsBarr h a l) ?_ ?_ ?_ ?_ ?_ s.toks hQ
 ·intro A h2
  rw [List.length_map]
  exact bi_walks h2 _ _ ne l
 ·exact fp2 (.inl g) hh
 ·rintro i v ⟨c,u,h1,rfl⟩ x hx
  rw [gm h1 hx]; exact .int _ u
 ·exact ⟨⟨_,Heap.get?_push_size _ rfl,rfl,rfl⟩,Heap.get?_push_of_some _ hh⟩
 ·exact λi h ⟨⟨o,ho,hc,_⟩,_⟩=>quiet_of ho hc (by decide +kernel)
theorem items_go {h:Heap} {G:Value→List Val→Prop} {x v items} (hx:Rep γ sg h x v) (e:items? x=some items) (c1:∀ l t,G (.str ⟨List.toArray l⟩ t) (l.map λc=>.str [c])) (c2:∀ l t,G (.bytes (List.toArray l) t) (l.map λb=>.int (b.toNat:Int)))
  (c3:∀ a vs l,γ a=none→h.IsTuple a (List.toArray vs)→Reps γ sg h l vs→G (.ref a) l) (c4:∀ a vs l,γ a=none→h.IsList a (List.toArray vs)→Reps γ sg h l vs→G (.ref a) l)
  (c5:∀ a l,γ a=none→h.get? a=some (barObj l)→G (.ref a) (l.map λb=>.int (b.toNat:Int))):G v items:=by
 induction hx using Rep.casesOn with
 | str l t=>exact sj e ▸ c1 l t
 | bytes l t=>exact sj e ▸ c2 l t
 | @tuple a vs l g hh r=>exact sj e ▸ c3 a vs l g hh r
 | @list a vs l g hh r=>exact sj e ▸ c4 a vs l g hh r
 | @barr a l g hh=>exact sj e ▸ c5 a l g hh
 | _=>exact nsm e
theorem iter_make (I:Inv C pl γ sg σ s) {v items} (hx:Iterable γ sg s.heap v items) {Q:Value→Shared→Prop} (hQ:KWk C pl γ sg σ s items Q):wpAny (model C.prog C.w) A (pyIter v) Q E s:=by
 refine Iterable.casesOn (motive:=λv items _=>KWk C pl γ sg σ s items Q→wpAny (model C.prog C.w) A (pyIter v) Q E s) hx (λhx e=>?_) (λg hr hs e hz=>?_) hQ
 ·exact items_go (G:=λv items=>KWk C pl γ sg σ s items Q→wpAny (model C.prog C.w) A (pyIter v) Q E s) hx e (λ_ _=>iter_str I) (λ_ _=>iter_bytes I) (λ_ _ _ g h r=>iter_tuple I g h r) (λ_ _ _ g h r=>iter_list I (.inl g) h r) (λ_ _ g h=>iter_barr I g h)
 ·exact e ▸ iter_rng I hr hs hz
end
section
variable {prog:Program} {w:World} {A:Around} {E:Value→Shared→Prop} {s:Shared} {Q:Value→Shared→Prop} {b:Array UInt8} {t:Tok}
theorem isi_bytes_false {T:String} (hne:(Value.type "bytes" == Value.type T)=false) (hty:typeOf (.type T)=pure (.type "type")) (hsub:isSubtype (.type "bytes") (.type T)=pure false)
  (h:Q (.bool false) { s with toks:=s.toks + 1 }):wpAny (model prog w) A (call (.builtin "isinstance") [.bytes b t,.type T]) Q E s:=by
 have g:Meets (Builtin.«isinstance» ⟨[.bytes b t,.type T],[]⟩) (λ_ R s=>R (.ok (.ret (.bool false))) { s with toks:=s.toks + 1 }):=λ_ _ _ _ s hs=>by
  obtain ⟨h,g,d,t,os⟩:=s
  exact isinstance_outer (isinstance_nested_false_bytes hne hty hsub hs)
 exact call_isinstance g h
theorem isi_bytes_int (h:Q (.bool false) { s with toks:=s.toks + 1 }):wpAny (model prog w) A (call (.builtin "isinstance") [.bytes b t,.type "int"]) Q E s :=
 isi_bytes_false (by decide +kernel) F.isi_meta_int (by rw [isSubtype_type]; kernel_rfl) h
theorem isi_bytes_str (h:Q (.bool false) { s with toks:=s.toks + 1 }):wpAny (model prog w) A (call (.builtin "isinstance") [.bytes b t,.type "str"]) Q E s :=
 isi_bytes_false (by decide +kernel) F.isi_meta_str (by rw [isSubtype_type]; kernel_rfl) h
theorem isi_bytes_bytes (h:Q (.bool true) s):wpAny (model prog w) A (call (.builtin "isinstance") [.bytes b t,.type "bytes"]) Q E s :=
 call_isinstance (isinstance_true (Tx:="bytes") F.isi_meta_bytes F.sub_bytes_bytes) ⟨typeIs_bytes s b t,h⟩
end
theorem ints_are {γ sg h}:∀ {l:List Val} {vs:List Value} {x:List UInt8},Reps γ sg h l vs→ints? l=some x→∃ ns,IntsAre vs ns∧(∀ n∈ns,0≤n∧n < 256)∧byteArr ns=x.toArray
 | [],us,_,R,e=>by
  obtain rfl:us=[]:=R.inv
  obtain rfl:=sj e
  exact ⟨[],.nil,(λ_ h=>nomatch h),rfl⟩
 | v :: l,us,x,R,e=>by
  obtain ⟨u,ws,rfl,hv,r⟩:=R.inv
  cases v with
  | int i =>
   obtain ⟨t,rfl⟩:=hv.inv
   obtain ⟨hi,e⟩:=ite_some' (c:=0≤i∧i < 256) (o:=(ints? l).map (UInt8.ofNat i.toNat :: ·)) e
   obtain ⟨y,e1,rfl⟩:=Option.map_eq_some_iff.mp e
   obtain ⟨ns,h1,h2,h3⟩:=ints_are r e1
   refine ⟨i :: ns,.cons i t h1,λn hn=>?_,?_⟩
   ·rcases List.mem_cons.mp hn with rfl | hn
    ·exact hi
    ·exact h2 n hn
   ·have h3:(ns.map λn=>n.toNat.toUInt8)=y:=by
     have:=congrArg Array.toList h3
     simpa [byteArr] using this
    show ((i :: ns).map λn=>n.toNat.toUInt8).toArray=_
    rw [List.map_cons,h3]
  | _=>exact nsm e
section
variable {γ:Gam} {sg:List Addr} {h:Heap} {r:LV}
theorem okl {n:Nat} {z:LV} (e:(if okLen n=true then some z else none)=some r):n≤1000000∧r=z:=let ⟨h,g⟩:=ite_some e; ⟨okLen_le h,g⟩
theorem isi_go {G:Value→Prop} {v u} {x y z:Bool} (a:Rep γ sg h v u) (e:isiV v x y z=some r) (c0:r=.val (.bool false)→G .none) (c1:∀ i t,r=.val (.bool x)→G (.int i t))
  (c2:∀ l t,r=.val (.bool y)→G (.str ⟨List.toArray l⟩ t)) (c3:∀ l t,r=.val (.bool z)→G (.bytes (List.toArray l) t)):G u:=by
 induction a using Rep.casesOn with
 | none=>exact c0 (sj e).symm
 | int i t=>exact c1 i t (sj e).symm
 | str l t=>exact c2 l t (sj e).symm
 | bytes l t=>exact c3 l t (sj e).symm
 | _=>exact nsm e
theorem len_go {G:Value→Prop} {v u} (a:Rep γ sg h v u) (e:bi1 .len v=some r) (c1:∀ l t,List.length l≤1000000→r=.val (.int (l.length:Nat))→G (.str ⟨List.toArray l⟩ t))
  (c2:∀ l t,List.length l≤1000000→r=.val (.int (l.length:Nat))→G (.bytes (List.toArray l) t)) (c3:∀ l b,h.get? b=some (barObj l)→l.length≤1000000→r=.val (.int (l.length:Nat))→G (.ref b))
  (c4:∀ b vs,h.IsList b (List.toArray vs)→vs.length≤1000000→r=.val (.int (vs.length:Nat))→G (.ref b))
  (c5:∀ b vs,h.IsTuple b (List.toArray vs)→vs.length≤1000000→r=.val (.int (vs.length:Nat))→G (.ref b)):G u:=by
 induction a using Rep.casesOn with
 | str l t=>exact let q:=okl (n:=l.length) e; c1 l t q.1 q.2
 | bytes l t=>exact let q:=okl (n:=l.length) e; c2 l t q.1 q.2
 | @barr b l _ k=>exact let q:=okl (n:=l.length) e; c3 l b k q.1 q.2
 | @list b vs l _ k r=>exact let q:=okl (n:=l.length) e; c4 b vs k (r.length ▸ q.1) (r.length ▸ q.2)
 | @tuple b vs l _ k r=>exact let q:=okl (n:=l.length) e; c5 b vs k (r.length ▸ q.1) (r.length ▸ q.2)
 | _=>exact nsm e
theorem ord_go {G:Value→Prop} {v u} (a:Rep γ sg h v u) (e:bi1 .ord v=some r) (c1:∀ c t,r=.val (.int (c:Nat))→G (.str ⟨[c].toArray⟩ t)):G u:=by
 induction a using Rep.casesOn with
 | str l t=>match l,e with
  | [],e=>exact nsm e
  | [c],e=>exact c1 c t (sj e).symm
  | _ :: _ :: _,e=>exact nsm e
 | _=>exact nsm e
theorem chr_go {G:Value→Prop} {v u} (a:Rep γ sg h v u) (e:bi1 .chr v=some r) (c1:∀ i t,0≤i∧i < 55296→r=.val (.str [Int.toNat i])→G (.int i t)):G u:=by
 induction a using Rep.casesOn with
 | int i t=>exact let q:=ite_some (c:=0≤i∧i < 55296) e; c1 i t q.1 q.2
 | _=>exact nsm e
theorem byt_go {G:Value→Prop} {v u} (a:Rep γ sg h v u) (e:bi1 .bytes v=some r) (c1:∀ l t,r=.val (.bytes l)→G (.bytes (List.toArray l) t))
  (c2:∀ l b,h.get? b=some (barObj l)→l.length≤1000000→r=.val (.bytes l)→G (.ref b))
  (c3:∀ b vs ns x,h.IsList b (List.toArray vs)→IntsAre vs ns→(∀ n∈ns,0≤n∧n < 256)→byteArr ns=List.toArray x→vs.length≤1000000→r=.val (.bytes x)→G (.ref b)):G u:=by
 induction a using Rep.casesOn with
 | bytes l t=>exact c1 l t (sj e).symm
 | @barr b l _ k=>exact let q:=okl (n:=l.length) e; c2 l b k q.1 q.2
 | @list b vs l _ k R =>
  obtain ⟨hl,e⟩:=ite_some' (c:=okLen l.length=true) (o:=(ints? l).map λx=>LV.val (.bytes x)) e
  obtain ⟨x,e1,e⟩:=Option.map_eq_some_iff.mp e
  obtain ⟨ns,h1,h2,h3⟩:=ints_are R e1
  exact c3 b vs ns x k h1 h2 h3 (R.length ▸ okLen_le hl) e.symm
 | _=>exact nsm e
theorem tup_go {G:Value→Prop} {v u} (a:Rep γ sg h v u) (e:bi1 .tuple v=some r) (c1:∀ l b vs,h.IsList b (List.toArray vs)→Reps γ sg h l vs→vs.length≤1000000→r=.val (.tuple l)→G (.ref b)):G u:=by
 induction a using Rep.casesOn with
 | @list b vs l _ k R=>exact let q:=okl (n:=l.length) e; c1 l b vs k R (R.length ▸ q.1) q.2
 | _=>exact nsm e
theorem boo_go {G:Value→Prop} {v u} (a:Rep γ sg h v u) (e:bi1 .bool v=some r) (c1:∀ b,r=.val (.bool b)→G (.bool b)):G u:=by
 induction a using Rep.casesOn with
 | bool b=>exact c1 b (sj e).symm
 | _=>exact nsm e
theorem int_go {G:Value→Prop} {v u} (a:Rep γ sg h v u) (e:bi1 .int v=some r) (c1:∀ i t,r=.val (.int i)→G (.int i t)) (c2:∀ b:Bool,r=.val (.int (if b then 1 else 0))→G (.bool b)):G u:=by
 induction a using Rep.casesOn with
 | int i t=>exact c1 i t (sj e).symm
 | bool b=>exact c2 b (sj e).symm
 | _=>exact nsm e
theorem ir_go {G:Value→Option Int→Prop} {v u} (a:Rep γ sg h v u) (hn:G u none) (hi:∀ i t,G (.int i t) (some i)):G u (intO v):=by
 induction a using Rep.casesOn with
 | int i t=>exact hi i t
 | _=>exact hn
theorem mx_go {G:Value→Value→Prop} {v w u1 u2} (a1:Rep γ sg h v u1) (a2:Rep γ sg h w u2) (c1:∀ i s j t,r=.val (.int (if i < j then j else i))→G (.int i s) (.int j t)):bi2 .max2 (intO v) (intO w)=some r→G u1 u2 :=
 ir_go (G:=λu o=>bi2 .max2 o (intO w)=some r→G u u2) a1 (λe=>nsm e) λi s=>ir_go (G:=λu o=>bi2 .max2 (some i) o=some r→G (.int i s) u) a2 (λe=>nsm e) λj t e=>c1 i s j t (sj e).symm
theorem mn_go {G:Value→Value→Value→Prop} {v w x u1 u2 u3} (a1:Rep γ sg h v u1) (a2:Rep γ sg h w u2) (a3:Rep γ sg h x u3)
  (c1:∀ i s j t k q,r=.val (.int (let m:=if j < i then j else i; if k < m then k else m))→G (.int i s) (.int j t) (.int k q)):bi3 .min3 (intO v) (intO w) (intO x)=some r→G u1 u2 u3 :=
 ir_go (G:=λu o=>bi3 .min3 o (intO w) (intO x)=some r→G u u2 u3) a1 (λe=>nsm e) λi s=>ir_go (G:=λu o=>bi3 .min3 (some i) o (intO x)=some r→G (.int i s) u u3) a2 (λe=>nsm e) λj t =>
  ir_go (G:=λu o=>bi3 .min3 (some i) (some j) o=some r→G (.int i s) (.int j t) u) a3 (λe=>nsm e) λk q e=>c1 i s j t k q (sj e).symm
theorem bi_go {G:List Value→Prop} {b:BI} {vs us} (R:Reps γ sg h vs us) (e:biop b vs=some r) (c0:bi0 b=some r→G [])
  (c1:∀ v u,Rep γ sg h v u→bi1 b v=some r→G [u]) (c2:∀ v w u1 u2,Rep γ sg h v u1→Rep γ sg h w u2→bi2 b (intO v) (intO w)=some r→G [u1,u2])
  (c3:∀ v w x u1 u2 u3,Rep γ sg h v u1→Rep γ sg h w u2→Rep γ sg h x u3→bi3 b (intO v) (intO w) (intO x)=some r→G [u1,u2,u3]):G us:=by
 cases R with
 | nil=>exact c0 e
 | cons a R=>cases R with
  | nil=>exact c1 _ _ a e
  | cons a2 R=>cases R with
   | nil=>exact c2 _ _ _ _ a a2 e
   | cons a3 R=>cases R with
    | nil=>exact c3 _ _ _ _ _ _ a a2 a3 e
    | cons _ _=>exact nsm e
theorem b0_go {G:BI→Prop} {b:BI} (e:bi0 b=some r) (c:r=.obarr []→G .barr0):G b:=by
 cases b with
 | barr0=>exact c (sj e).symm
 | _=>exact nsm e
theorem b1_go {G:BI→Prop} {b:BI} {v} (e:bi1 b v=some r) (c1:bi1 .len v=some r→G .len) (c2:bi1 .ord v=some r→G .ord) (c3:bi1 .chr v=some r→G .chr) (c4:bi1 .bytes v=some r→G .bytes)
  (c5:isiV v true false false=some r→G .isInt) (c6:isiV v false true false=some r→G .isStr) (c7:isiV v false false true=some r→G .isBytes) (c8:bi1 .tuple v=some r→G .tuple) (c9:bi1 .bool v=some r→G .bool) (c10:bi1 .int v=some r→G .int):G b:=by
 cases b with
 | len=>exact c1 e
 | ord=>exact c2 e
 | chr=>exact c3 e
 | bytes=>exact c4 e
 | isInt=>exact c5 e
 | isStr=>exact c6 e
 | isBytes=>exact c7 e
 | tuple=>exact c8 e
 | bool=>exact c9 e
 | int=>exact c10 e
 | _=>exact nsm e
theorem b2_go {G:BI→Prop} {b:BI} {x y} (e:bi2 b x y=some r) (c:bi2 .max2 x y=some r→G .max2):G b:=by
 cases b with
 | max2=>exact c e
 | _=>exact nsm e
theorem b3_go {G:BI→Prop} {b:BI} {x y z} (e:bi3 b x y z=some r) (c:bi3 .min3 x y z=some r→G .min3):G b:=by
 cases b with
 | min3=>exact c e
 | _=>exact nsm e
theorem big2 {n:Nat} (h:n≤1000000):n≤16777216:=Nat.le_trans h (by decide)
theorem big3 {n:Nat} (h:n≤1000000):n≤1099511627776:=Nat.le_trans h (by decide)
theorem Rep.if {c:Prop} [Decidable c] {x y:Val} {v w:Value} (a:Rep γ sg h x v) (b:Rep γ sg h y w):Rep γ sg h (if c then x else y) (if c then v else w):=by
 split
 ·exact a
 ·exact b
end
section
variable {C:Cfg} {pl:Nat→Option Place} {n:Nat} {A:Around} {E:Value→Shared→Prop} {γ:Gam} {sg:List Addr} {σ:St} {s:Shared}
theorem wp_bi (hR:Room n A) (I:Inv C pl γ sg σ s) {b:BI} {vs us r} (R:Reps γ sg s.heap vs us) (e:biop b vs=some r) {Q:Value→Shared→Prop}
  (hQ:KW C pl γ sg s σ r Q):wpN (model C.prog C.w) A (call (biVal b) (us ++ biMoreV b)) Q E s:=by
 have hh:A.handled=none:=hR.1
 have keep:∀ {h':Heap} {tk:Nat} {x:Val} {v:Value},(∀ c o,s.heap.get? c=some o→h'.get? c=some o)→(∀ γ sg h,Rep γ sg h x v)→r=.val x→Q v { s with heap:=h',toks:=tk }:=by
  intro h' tk x v hk hr e
  subst e
  refine hQ γ v _ (I.grow rfl rfl hk (λ_ _ _=>rfl) λa t g q=>?_) (adv_grow hk (λ_ _ _=>rfl) λa t g=>(I.dom a t g).1) (hr _ _ _) trivial
  obtain ⟨⟨o,ho⟩,_⟩:=I.dom a t g
  rw [q] at ho; cases ho
 have tok:∀ {tk:Nat} {x:Val} {v:Value},(∀ γ sg h,Rep γ sg h x v)→r=.val x→Q v { s with toks:=tk }:=λhr e=>keep (h':=s.heap) (λ_ _ e=>e) hr e
 have here:∀ {x:Val} {v:Value},(∀ γ sg h,Rep γ sg h x v)→r=.val x→Q v s:=λhr e=>tok (tk:=s.toks) hr e
 have nG:∀ a t,γ a=some t→s.heap.get? a=none→False:=λa t g q=>by
  obtain ⟨⟨o,ho⟩,_⟩:=I.dom a t g
  rw [q] at ho; cases ho
 refine bi_go (G:=λus=>wpN (model C.prog C.w) A (call (biVal b) (us ++ biMoreV b)) Q E s) R e (λe=>b0_go (G:=λb=>wpN (model C.prog C.w) A (call (biVal b) ([] ++ biMoreV b)) Q E s) e λe=>?_) (λv u a e=>b1_go (G:=λb=>wpN (model C.prog C.w) A (call (biVal b) ([u] ++ biMoreV b)) Q E s) e (λe=>?_) (λe=>?_) (λe=>?_) (λe=>?_) (λe=>?_) (λe=>?_) (λe=>?_) (λe=>?_) (λe=>?_) λe=>?_)
  (λv w u1 u2 a1 a2 e=>b2_go (G:=λb=>wpN (model C.prog C.w) A (call (biVal b) ([u1,u2] ++ biMoreV b)) Q E s) e λe=>?_) λv w x u1 u2 u3 a1 a2 a3 e=>b3_go (G:=λb=>wpN (model C.prog C.w) A (call (biVal b) ([u1,u2,u3] ++ biMoreV b)) Q E s) e λe=>?_
 ·subst e
  refine ba_make λh' hk hb=>?_
  have I':=I.grow (γ':=γ.upd s.heap.objs.size (some .prot)) (s':={ s with heap:=h' }) rfl rfl hk (λa o l=>Gam.upd_ne _ _ (Nat.ne_of_lt (Heap.lt_size l))) λa u e q=>by
   unfold Gam.upd at e
   split at e
   ·rename_i h; subst h; exact ⟨⟨_,hb⟩,I.new q⟩
   ·exact (nG a u e q).elim
  have A':=adv_grow (sg:=sg) (γ':=γ.upd s.heap.objs.size (some .prot)) (s':={ s with heap:=h' }) hk (λa o l=>Gam.upd_ne _ _ (Nat.ne_of_lt (Heap.lt_size l))) λa t e=>(I.dom a t e).1
  exact hQ _ _ _ I' A' ⟨_,rfl,Gam.upd_self ..,hb⟩ λa e=>by cases e; exact get?_size _
 ·exact len_go (G:=λu=>wpN (model C.prog C.w) A (call (biVal .len) ([u] ++ biMoreV .len)) Q E s) a e
   (λl t hl e=>.of (PyProof.Rows.len_str (by show ¬ ((List.toArray _).size:Int) ≥ 2 ^ 63; rw [List.size_toArray]; omega) (tok (λ_ _ _=>by show Rep _ _ _ _ (.int ((List.toArray _).size:Nat) _); rw [List.size_toArray]; exact .int _ _) e)))
   (λl t hl e=>.of (len_bytes (by rw [List.size_toArray]; omega) (tok (λ_ _ _=>.int _ _) e)))
   (λl b g hl e=>.of (ba_len g (big3 hl) (tok (λ_ _ _=>.int _ _) e)))
   (λb vs g hl e=>.of (call_len_list g (by rw [List.size_toArray]; omega) (tok (λ_ _ _=>.int _ _) e)))
   (λb vs g hl e=>.of (PyProof.Rows.len_tuple (show IsTup s.heap _ _ from g) (by rw [List.size_toArray]; omega) (tok (λ_ _ _=>.int _ _) e)))
 ·exact ord_go (G:=λu=>wpN (model C.prog C.w) A (call (biVal .ord) ([u] ++ biMoreV .ord)) Q E s) a e (λc t e=>.of (P.ord_of_char (tok (λ_ _ _=>.int _ _) e)))
 ·exact chr_go (G:=λu=>wpN (model C.prog C.w) A (call (biVal .chr) ([u] ++ biMoreV .chr)) Q E s) a e (λi t hi e=>.of (chr_of_range hi.1 (Int.le_trans (Int.le_of_lt hi.2) (show (55296:Int)≤1114111 from by decide)) (tok (λ_ _ _=>.str [_] _) e)))
 ·exact byt_go (G:=λu=>wpN (model C.prog C.w) A (call (biVal .bytes) ([u] ++ biMoreV .bytes)) Q E s) a e (λl t e=>.of (by_call (.bytes _ _) (λa e=>nomatch e) λt k=>tok (λ_ _ _=>.bytes _ _) e))
   (λl b g hl e=>.of (by_call (.barr g) (λ_ _=>sizeLine_eq ▸ big2 hl) λt k=>tok (λ_ _ _=>.bytes _ _) e))
   (λb vs ns x g h1 h2 h3 hl e=>.of (call_bytes_ints g h1 h2 (sizeLine_eq ▸ big2 hl) hh λh' t k hk=>by
    rw [h3]
    exact keep hk (λ_ _ _=>.bytes _ _) e))
 ·exact isi_go (G:=λu=>wpN (model C.prog C.w) A (call (biVal .isInt) ([u] ++ biMoreV .isInt)) Q E s) a e (λe=>.of (IsiPair.NoneType_int (tok (λ_ _ _=>.bool _) e))) (λi t e=>.of (IsiPair.int_int (here (λ_ _ _=>.bool _) e)))
   (λl t e=>.of (IsiPair.str_int (tok (λ_ _ _=>.bool _) e))) (λl t e=>.of (isi_bytes_int (tok (λ_ _ _=>.bool _) e)))
 ·exact isi_go (G:=λu=>wpN (model C.prog C.w) A (call (biVal .isStr) ([u] ++ biMoreV .isStr)) Q E s) a e (λe=>.of (IsiPair.NoneType_str (tok (λ_ _ _=>.bool _) e))) (λi t e=>.of (IsiPair.int_str (tok (λ_ _ _=>.bool _) e)))
   (λl t e=>.of (IsiPair.str_str (here (λ_ _ _=>.bool _) e))) (λl t e=>.of (isi_bytes_str (tok (λ_ _ _=>.bool _) e)))
 ·exact isi_go (G:=λu=>wpN (model C.prog C.w) A (call (biVal .isBytes) ([u] ++ biMoreV .isBytes)) Q E s) a e (λe=>.of (IsiPair.NoneType_bytes (tok (λ_ _ _=>.bool _) e))) (λi t e=>.of (IsiPair.int_bytes (tok (λ_ _ _=>.bool _) e)))
   (λl t e=>.of (IsiPair.str_bytes (tok (λ_ _ _=>.bool _) e))) (λl t e=>.of (isi_bytes_bytes (here (λ_ _ _=>.bool _) e)))
 ·refine tup_go (G:=λu=>wpN (model C.prog C.w) A (call (biVal .tuple) ([u] ++ biMoreV .tuple)) Q E s) a e λl b vs g r hl e=>?_
  subst e
  refine .of (call_tuple_list g (λh' hk=>?_) (sizeLine_eq ▸ big2 hl))
  have I1:=I.grow (γ':=γ) (s':={ s with heap:=h' }) rfl rfl hk (λ_ _ _=>rfl) λa t g q=>(nG a t g q).elim
  have A1:=adv_grow (sg:=sg) (γ':=γ) (s':={ s with heap:=h' }) hk (λ_ _ _=>rfl) λa t g=>(I.dom a t g).1
  exact new_tuple I1 (r.mono A1.kept) 0 s.toks λγ2 v2 s2 I2 A2 R2 N2=>hQ _ _ _ I2 (A1.trans A2) R2 trivial
 ·exact boo_go (G:=λu=>wpN (model C.prog C.w) A (call (biVal .bool) ([u] ++ biMoreV .bool)) Q E s) a e λb e=>.of (call_bool_bool (here (λ_ _ _=>.bool _) e))
 ·exact int_go (G:=λu=>wpN (model C.prog C.w) A (call (biVal .int) ([u] ++ biMoreV .int)) Q E s) a e (λi t e=>.of (call_int_int (here (λ_ _ _=>.int _ _) e))) λb e=>.of (call_int_bool (tok (λ_ _ _=>.int _ _) e))
 ·exact mx_go (G:=λu1 u2=>wpN (model C.prog C.w) A (call (biVal .max2) ([u1,u2] ++ biMoreV .max2)) Q E s) a1 a2 (λi t1 j t2 e=>.of (max_two_ints hh λh' tk hk=>keep hk (λ_ _ _=>by split <;> exact .int _ _) e)) e
 ·exact mn_go (G:=λu1 u2 u3=>wpN (model C.prog C.w) A (call (biVal .min3) ([u1,u2,u3] ++ biMoreV .min3)) Q E s) a1 a2 a3 (λi t1 j t2 k t3 e=>.of (min_three_ints hh λh' tk hk=>keep hk (λ_ _ _=>by
   dsimp only
   split <;> split <;> exact .int _ _) e)) e
end
noncomputable def plainE:Expr→Bool
 | .Starred _ _=>false
 | _=>true
theorem starEach_one {env:Env} {x:Expr} {r:List Expr} (hp:plainE x=true):starEach (x :: r) env=(false,eval x env) :: starEach r env:=by
 cases x with
 | Starred=>exact Bool.noConfusion hp
 | _=>rfl
theorem starEach_plain {env:Env}:∀ {es:List Expr},es.all plainE=true→starEach es env=es.map λe=>(false,eval e env)
 | [],_=>rfl
 | e :: r,h=>by
  simp only [List.all_cons,Bool.and_eq_true] at h
  rw [starEach_one h.1,starEach_plain h.2]; rfl
theorem plain_all {env:Env} {es:List Expr} (h:es.all plainE=true):∀ x∈starEach es env,x.1=false:=by
 rw [starEach_plain h]
 intro x hx
 obtain ⟨e,_,rfl⟩:=List.mem_map.mp hx
 rfl
theorem backTo_plain {env:Env} {pos:Pos} {es:List Expr} (h:es.all plainE=true):backTo pos (starEach es env)=starEach es env:=backTo_false (plain_all h)
section
variable {C:Cfg} {pl:Nat→Option Place} {n:Nat} {T:Tabs} {cf:CF} {env:Env} {cx:Cx}
theorem T_bi (G:CfgOk C) (H:EnvOk pl cx env) {b:BI} {np pos:Pos} {args:List Expr} {ms:MEs} (hm:biMoreV b=[]) (hp:args.all plainE=true) (hg:isGlobal cx.scope (biName b)=true) (hn:nsIn C.K mainGlobals (biName b)=some none)
  (h:TEs C pl n (starEach args env) (evEs T cf ms)):TE C pl n (eval (.Call (.Name (biName b) np) args [] pos) env) (evE T cf (.bi b ms)):=by
 intro A E Q γ sg σ s z σ' hR I e hQ
 refine kes_inv (rs:=evEs T cf ms σ) e λvs e1 e2=>?_
 refine N_Call_Name (.of (wp_bname G I H hg hn (biBoot b).2 (biBoot b).1 ?_))
 rw [backTo_plain hp]
 refine N_callWith (plain_all hp) (wp_args h (plain_all hp) hR I e1 λγ1 sg1 us s1 I1 A1 R1=>⟨keeper_builtin (by cases b <;> first | exact .inl ⟨_,rfl⟩ | exact .inr ⟨_,rfl⟩),?_⟩)
 have:=wp_bi hR I1 R1 e2 (E:=E) λγ2 v2 s2 I2 A2 R2 N2=>hQ γ2 sg1 v2 s2 I2 (A1.trans A2) R2 (NewR.up A1.there N2)
 rw [hm,List.append_nil] at this
 exact this
theorem T_isi (G:CfgOk C) (H:EnvOk pl cx env) {b:BI} {np pos tp:Pos} {x:Expr} {ms:ME} {t:Str} {tv:Value} (hm:biMoreV b=[tv]) (hb:bootBuiltins t=some tv) (ht:(t == ("__name__":Str))=false) (hp:plainE x=true)
  (hg:isGlobal cx.scope (biName b)=true) (hn:nsIn C.K mainGlobals (biName b)=some none) (hg2:isGlobal cx.scope t=true) (hn2:nsIn C.K mainGlobals t=some none)
  (h:TE C pl n (eval x env) (evE T cf ms)):TE C pl n (eval (.Call (.Name (biName b) np) [x,.Name t tp] [] pos) env) (evE T cf (.bi b (.cons ms .nil))):=by
 intro A E Q γ sg σ s z σ' hR I e hQ
 refine kes_inv (rs:=evEs T cf (.cons ms .nil) σ) e λvs e0 e2=>?_
 refine kcons_inv (r:=evE T cf ms σ) e0 λy σ1 xs e1 e3 zz1=>?_; obtain rfl:=zz1
 obtain ⟨rfl,rfl⟩:=si2 (e3:some ([],σ1)=some (xs,σ'))
 have hpl:[x,Expr.Name t tp].all plainE=true:=by rw [List.all_cons,hp]; rfl
 refine N_Call_Name (.of (wp_bname G I H hg hn (biBoot b).2 (biBoot b).1 ?_))
 rw [backTo_plain hpl]
 refine N_callWith (plain_all hpl) ?_
 rw [starEach_plain hpl]
 have key:wpN (model C.prog C.w) A (spliced [(false,eval x env),(false,eval (.Name t tp) env)]) (λvs s'=>∃ γ' sg' v,vs=[v,tv]∧Inv C pl γ' sg' σ' s'∧Adv γ sg s γ' sg' s'∧Rep γ' sg' s'.heap y.frz v) E s:=by
  refine N_cons (h.val hR I e1 λγ1 sg1 v1 s1 I1 A1 R1=>N_cons (.of (wp_bname G I1 H hg2 hn2 ht hb (N_nil ?_))))
  exact ⟨γ1,sg1,v1,rfl,I1,A1,R1⟩
 unfold evalArgs
 refine wpN_bind (wpN_mono key (λvs s' q=>?_) λ_ _ z=>z)
 obtain ⟨γ1,sg1,v1,rfl,I1,A1,R1⟩:=q
 refine wpN_holding ?_
 refine wpN_bind (wpN_pure (wpN_bind (wpN_pure (wpN_pure ?_))))
 refine ⟨keeper_builtin (by cases b <;> first | exact .inl ⟨_,rfl⟩ | exact .inr ⟨_,rfl⟩),?_⟩
 have:=wp_bi hR I1 (Reps.one R1) e2 (E:=E) λγ2 v2 s2 I2 A2 R2 N2=>hQ γ2 sg1 v2 s2 I2 (A1.trans A2) R2 (NewR.up A1.there N2)
 rw [hm] at this
 exact this
noncomputable def KI (C:Cfg) (pl:Nat→Option Place) (γ:Gam) (sg:List Addr) (s:Shared) (σ':St) (r:List Val) (Q:Value→Shared→Prop):Prop:=∀ γ' sg' v s',Inv C pl γ' sg' σ' s'→Adv γ sg s γ' sg' s'→Iterable γ' sg' s'.heap v r→Q v s'
noncomputable def TI (C:Cfg) (pl:Nat→Option Place) (n:Nat) (t:Sem Value) (f:St→Option (List Val×St)):Prop :=
 ∀ {A:Around} {E:Value→Shared→Prop} {Q:Value→Shared→Prop} {γ sg σ s r σ'},Room n A→Inv C pl γ sg σ s→f σ=some (r,σ') →
  KI C pl γ sg s σ' r Q→wpN (model C.prog C.w) A t Q E s
theorem TI_ex {x:Expr} {a:ME} (h:TE C pl n (eval x env) (evE T cf a)):TI C pl n (eval x env) (evI T cf (.ex a)):=by
 intro A E Q γ sg σ s r σ' hR I e hQ
 refine kit_inv (r:=evE T cf a σ) e λx e1 e2=>?_
 exact h.val hR I e1 λγ1 sg1 v1 s1 I1 A1 R1=>hQ _ _ _ _ I1 A1 (.rep R1 e2)
theorem mid_of {i:Int} (h:mid i=true):-1152921504606846976 < i∧i < 1152921504606846976:=by
 rw [mid_eq] at h
 simpa using h
theorem rngFrom_eq (a:Int) (n:Nat):rngFrom a n=(List.range n).map λ(k:Nat)=>Val.int (a + (k:Int) * 1):=by
 induction n generalizing a with
 | zero=>rfl
 | succ n ih =>
  rw [rngFrom,ih,List.range_succ_eq_map,List.map_cons,List.map_map]
  refine congr (congrArg _ (by simp)) ?_
  refine List.map_congr_left λk _=>?_
  show Val.int _=Val.int _
  congr 1
  push_cast
  omega
theorem fits {i:Int} (h:-4611686018427387904 < i) (h2:i < 4611686018427387904):Builtin.Range.rangeFitsLong i=true :=
 Bool.and_eq_true_iff.2 ⟨decide_eq_true (Int.le_of_lt (Int.lt_trans (by decide) h)),decide_eq_true (Int.lt_trans h2 (by decide))⟩
theorem half0:∀ m:Nat,m / 2 + m % 2=(m + 1) / 2
 | 0=>rfl
 | 1=>rfl
 | m + 2=>by rw [Nat.add_div_right m (by decide),Nat.add_mod_right,show m + 2 + 1=(m + 1) + 2 from rfl,Nat.add_div_right (m + 1) (by decide),Nat.succ_add,half0 m]
theorem rs_n {d:Int} (h0:0 < d):(d - 1) / 2 + 1=((d.toNat / 2 + d.toNat % 2:Nat):Int):=by
 obtain ⟨m,rfl⟩:=Int.eq_succ_of_zero_lt h0
 show (((m:Int) + 1 - 1) / 2 + 1=(((m + 1) / 2 + (m + 1) % 2:Nat):Int))
 rw [Int.add_sub_cancel,half0,show m + 1 + 1=m + 2 from rfl,Nat.add_div_right m (show 0 < 2 by decide)]
 rfl
theorem rs_z {a b:Int} (h:¬ a < b):(b - a).toNat=0:=Int.toNat_eq_zero.2 (Int.sub_nonpos_of_le (Int.not_lt.1 h))
noncomputable def rsN (a b c:Int):Nat:=if c=1 then (b - a).toNat else (b - a).toNat / 2 + (b - a).toNat % 2
theorem rsN_le {a b c:Int}:rsN a b c≤(b - a).toNat:=by
 unfold rsN
 generalize (b - a).toNat=n
 split
 ·exact Nat.le_refl _
 ·omega
theorem rs_lt {a b:Int} {n:Nat} (hn:n≤(b - a).toNat) (h1:-1152921504606846976 < a) (h2:b < 1152921504606846976):(n:Int) < 4611686018427387904:=by omega
theorem rs_eq {a b c:Int} (hc:c=1∨c=2):Builtin.Range.rangeSize a b c=rsN a b c:=by
 have c0:0 < c:=by rcases hc with rfl | rfl <;> decide
 refine (if_pos c0).trans ?_
 unfold rsN
 by_cases h:a < b
 ·rw [if_pos h]
  rcases hc with rfl | rfl
  ·rw [if_pos rfl,Int.ediv_one,Int.sub_add_cancel]
   exact (Int.toNat_of_nonneg (Int.le_of_lt (Int.sub_pos_of_lt h))).symm
  ·exact rs_n (Int.sub_pos_of_lt h)
 ·rw [if_neg h,rs_z h,ite_self]; rfl
theorem small_of {a b c:Int} (ha:mid a=true) (hb:mid b=true) (hc:c=1∨c=2):Builtin.Range.small a b c=true∧0≤Builtin.Range.rangeSize a b c∧(Builtin.Range.rangeSize a b c).toNat=rsN a b c:=by
 have h1:=mid_of ha
 have h2:=mid_of hb
 rw [rs_eq hc]
 refine ⟨?_,Int.natCast_nonneg _,rfl⟩
 have f1:=fits (Int.lt_trans (by decide) h1.1) (Int.lt_trans h1.2 (by decide))
 have f2:=fits (Int.lt_trans (by decide) h2.1) (Int.lt_trans h2.2 (by decide))
 have f3:Builtin.Range.rangeFitsLong (rsN a b c)=true:=fits (Int.lt_of_lt_of_le (by decide) (Int.natCast_nonneg _)) (rs_lt rsN_le h1.1 h2.2)
 clear ha hb
 unfold Builtin.Range.small
 rw [rs_eq hc,f1,f2,f3]
 rcases hc with rfl | rfl
 ·rw [if_pos (by decide),Int.sub_self,Int.add_zero,f2,Bool.or_true]; rfl
 ·rw [if_pos (by decide),show b + ((2:Int) - 1)=b + 1 from rfl,fits (Int.lt_trans (by decide) (Int.lt_trans h2.1 (Int.lt_succ b))) (Int.lt_of_le_of_lt (Int.add_one_le_of_lt h2.2) (by decide)),Bool.or_true]; rfl
theorem rngR_e {γ:Gam} {sg:List Addr} {h:Heap} {us vs r} (R:Reps γ sg h vs us) (e:range? vs=some r) {P:List Value→Prop} (k1:∀ i t,mid i=true→r=rngFrom 0 i.toNat→P [.int i t])
  (k2:∀ i j t u,mid i=true→mid j=true→r=rngFrom i (j - i).toNat→P [.int i t,.int j u]) (k3:∀ i j t u w,mid i=true→mid j=true→r=((List.range ((j - i).toNat / 2 + (j - i).toNat % 2)).map λ(k:Nat)=>Val.int (i + (k:Int) * 2))→P [.int i t,.int j u,.int 2 w]):P us:=by
 induction R using Reps.casesOn with
 | nil=>exact nsm e
 | @cons x u l us a R=>induction R using Reps.casesOn with
  | nil=>exact ir_go (G:=λu o=>o.bind rng1=some r→P [u]) a (λe=>nsm e) (λi t e=>let q:=ite_some (c:=mid i=true) e; k1 i t q.1 q.2) e
  | @cons y v l us b R=>induction R using Reps.casesOn with
   | nil=>exact ir_go (G:=λu o=>(o.bind λa=>(intO y).bind λb=>rng2 a b)=some r→P [u,v]) a (λe=>nsm e) (λi t=>ir_go (G:=λv o=>(o.bind λb=>rng2 i b)=some r→P [.int i t,v]) b (λe=>nsm e) λj u e=>let q:=ite_some (c:=(mid i && mid j)=true) e; let hm:=Bool.and_eq_true_iff.mp q.1; k2 i j t u hm.1 hm.2 q.2) e
   | @cons z w l us c R=>induction R using Reps.casesOn with
    | nil =>
     exact ir_go (G:=λu o=>(o.bind λa=>(intO y).bind λb=>(intO z).bind λc=>rng3 a b c)=some r→P [u,v,w]) a (λe=>nsm e)
      (λi t=>ir_go (G:=λv o=>(o.bind λb=>(intO z).bind λc=>rng3 i b c)=some r→P [.int i t,v,w]) b (λe=>nsm e)
       λj u=>ir_go (G:=λw o=>(o.bind λc=>rng3 i j c)=some r→P [.int i t,.int j u,w]) c (λe=>nsm e) λk s e=>by
        obtain ⟨rfl,e⟩:=ite_some' (c:=k=2) (o:=if mid i && mid j then some ((List.range ((j - i).toNat / 2 + (j - i).toNat % 2)).map λ(k:Nat)=>Val.int (i + (k:Int) * 2)) else none) e
        obtain ⟨h1,h2⟩:=ite_some (c:=(mid i && mid j)=true) e
        have hm:=Bool.and_eq_true_iff.mp h1
        exact k3 i j t u s hm.1 hm.2 h2) e
    | cons _ _=>exact nsm e
theorem TI_rng (G:CfgOk C) (H:EnvOk pl cx env) {np pos:Pos} {args:List Expr} {ms:MEs} (hp:args.all plainE=true) (hg:isGlobal cx.scope "range"=true) (hn:nsIn C.K mainGlobals "range"=some none)
  (h:TEs C pl n (starEach args env) (evEs T cf ms)):TI C pl n (eval (.Call (.Name "range" np) args [] pos) env) (evI T cf (.rng ms)):=by
 intro A E Q γ sg σ s r σ' hR I e hQ
 refine krng_inv (rs:=evEs T cf ms σ) e λvs e1 e2=>?_
 refine N_Call_Name (.of (wp_bname G I H hg hn (by decide +kernel) biBootMore.2.2.2 ?_))
 rw [backTo_plain hp]
 refine N_callWith (plain_all hp) (wp_args h (plain_all hp) hR I e1 λγ1 sg1 us s1 I1 A1 R1=>⟨keeper_builtin (.inr ⟨_,rfl⟩),?_⟩)
 have fin:∀ {a b c:Int} {t u v:Tok} (k:Nat),mid a=true→mid b=true→(c=1∨c=2)→r=((List.range (rsN a b c)).map λ(k:Nat)=>Val.int (a + (k:Int) * c)) →
   Q (.ref s1.heap.objs.size) { s1 with heap:=s1.heap.push { cls:=.type "range",data:=.fields #[.int a t,.int b u,.int c v] },toks:=k }:=by
  intro a b c t u v k ha hb hc hr
  obtain ⟨q1,q2,q3⟩:=small_of ha hb hc
  have I2:=I1.push { cls:=.type "range",data:=.fields #[.int a t,.int b u,.int c v] } none k rfl
  have A2:=I1.pushA { cls:=.type "range",data:=.fields #[.int a t,.int b u,.int c v] } none k
  exact hQ _ _ _ _ I2 (A1.trans A2) (.rng (Gam.upd_self ..) (Heap.get?_push_size _ rfl) q1 (by rw [q3]; exact hr) q2)
 refine rngR_e (P:=λus=>wpN (model C.prog C.w) A (call (.type "range") ([] ++ us)) Q E s1) R1 e2 (λi t hm hr=>?_) (λi j t u h1 h2 hr=>?_) λi j t u w h1 h2 hr=>?_
 ·exact .of (call_range_1 (fin _ (by decide) hm (.inl rfl) (by rw [hr,rngFrom_eq,rsN,if_pos rfl,Int.sub_zero])))
 ·exact .of (call_range_2 (fin _ h1 h2 (.inl rfl) (by rw [hr,rngFrom_eq,rsN,if_pos rfl])))
 ·exact .of (call_range_3 (by decide) (fin _ h1 h2 (.inr rfl) (by rw [hr,rsN,if_neg (by decide)])) (.inl (PyProof.noPylong_small (by decide))))
end
section
variable {C:Cfg} {pl:Nat→Option Place} {n:Nat} {T:Tabs} {cf:CF} {env:Env} {cx:Cx}
variable {A:Around} {E:Value→Shared→Prop} {γ:Gam} {sg:List Addr} {σ:St} {s:Shared}
noncomputable def intEq (x:Val) (v:Value):Bool:=match x with
 | .int i=>(match v with
  | .int j _=>decide (i=j)
  | _=>false)
 | _=>false
noncomputable def intsK:List Val→List Value→Bool
 | [],vs=>vs.isEmpty
 | x :: r,vs=>(match vs with
  | []=>false
  | v :: t=>intEq x v && intsK r t)
noncomputable def seqAtK (K:Frag) (a:Addr):Option (List Value):=match K.lookup a with
 | some ⟨.type "tuple",_,.seq items _,_⟩=>some items.toList
 | _=>none
noncomputable def constK (K:Frag) (x:Val) (v:Value):Bool:=match x with
 | .int i=>intEq (.int i) v
 | .str l=>(match v with
  | .str y _=>decide (l=y.cps.toList)
  | _=>false)
 | .tuple l=>(match v with
  | .ref a=>(match seqAtK K a with
   | some vs=>intsK l vs
   | none=>false)
  | _=>false)
 | _=>false
theorem intEq_rep {γ sg h} {x:Val} {v:Value} (e:intEq x v=true):Rep γ sg h x v:=by
 cases x with
 | int i=>cases v with
  | int j t=>obtain rfl:=of_decide_eq_true (e:decide (i=j)=true); exact .int _ _
  | _=>cases e
 | _=>cases e
theorem intsK_rep {γ sg h}:∀ {l:List Val} {vs:List Value},intsK l vs=true→Reps γ sg h l vs
 | [],[],_=>.nil
 | x :: r,v :: q,e=>by
  obtain ⟨h1,h2⟩:=(Bool.and_eq_true _ _ ▸ e:intEq x v=true∧intsK r q=true)
  exact .cons (intEq_rep h1) (intsK_rep h2)
theorem Inv.base (I:Inv C pl γ sg σ s) {a:Addr} {o:Obj} (h:C.base.get? a=some o):γ a=none:=by
 cases q:γ a with
 | none=>rfl
 | some t=>have:=(I.dom a t q).2; rw [h] at this; cases this
theorem constK_rep (G:CfgOk C) (I:Inv C pl γ sg σ s) {x:Val} {v:Value} (e:constK C.K x v=true):Rep γ sg s.heap x v:=by
 cases x with
 | int i=>exact intEq_rep e
 | str l=>cases v with
  | str y t =>
   obtain rfl:=of_decide_eq_true (e:decide (l=y.cps.toList)=true)
   have:y=⟨y.cps.toList.toArray⟩:=by cases y; simp
   rw [this]; exact .str _ _
  | _=>cases e
 | tuple l=>cases v with
  | ref a =>
   have e:(match seqAtK C.K a with
    | some vs=>intsK l vs
    | none=>false)=true:=e
   cases hs:seqAtK C.K a with
   | none=>rw [hs] at e; cases e
   | some vs =>
    rw [hs] at e
    unfold seqAtK at hs
    split at hs
    ·rename_i d items n sl ho
     obtain rfl:=sj hs
     have hb:=G.X _ _ ho
     refine .tuple (I.base hb) ⟨_,I.keep _ _ hb,rfl,n,?_⟩ (intsK_rep e)
     simp
    ·exact nsm hs
  | _=>cases e
 | _=>cases e
theorem T_gconst (G:CfgOk C) (H:EnvOk pl cx env) {x:Str} {pos:Pos} {v:Value} {c:Val} (hg:isGlobal cx.scope x=true) (hn:nsIn C.K mainGlobals x=some (some v)) (hc:constK C.K c v=true) :
  TE C pl n (eval (.Name x pos) env) (evE T cf (.const c)):=by
 intro A E Q γ sg σ s z σ' hR I e hQ
 obtain ⟨rfl,rfl⟩:=si2 (e:some (LV.val c,σ)=some (z,σ'))
 exact .of (wp_glob G I H hg hn (hQ _ _ _ _ I .refl (constK_rep G I hc) trivial))
theorem N_Call_method {M:Model} {o:Expr} {name:Str} {apos pos:Pos} {args:List Expr} {Q:Value→Shared→Prop}
  (hbase:attributeBase o name env (eval o env)=eval o env) (hp:args.all plainE=true) (hfew:args.length < 30) (hline:(apos.endLine == pos.line)=true)
  (h:wpN M A (eval o env) (λov s₁=>∃ f first,(∀ pl' (Q':Value×List Value→Shared→Prop),Q' (f,first) s₁→wpAny M A (getMethod ov name pl') Q' E s₁)∧wpN M A (callWith pos f first (starEach args env) []) Q E s₁) E s) :
  wpN M A (eval (.Call (.Attribute o name apos) args [] pos) env) Q E s:=by
 rw [arm_eval_Call,hbase,backTo_plain hp]
 refine wpN_bind (wpN_mono h (λov s₁ h₁=>wpN_standAt ?_) λ_ _ e=>e)
 obtain ⟨f,first,hm,hc⟩:=h₁
 have hform:methodCallForm (args.length + ([]:List Keyword).length) (starEach args env) (backToKw pos (keywordEach [] env))=true:=by
  unfold methodCallForm
  have h1:(starEach args env).all (λx=>!x.1)=true:=by
   rw [List.all_eq_true]
   intro x hx
   rw [plain_all hp x hx]; rfl
  rw [h1]
  show (true && true && decide (args.length + 0 + 0 < 30))=true
  simpa using hfew
 have hpos:methodCallPos true o env apos pos=pure pos:=by unfold methodCallPos; simp [hline]
 unfold methodCall
 rw [hform]
 refine wpN_step (wpAny_holding (hm _ _ ?_))
 exact wpN_step (wpAny_of_eq hpos hc)
theorem N_meth_builtin {M:Model} {o:Expr} {name:Str} {apos pos:Pos} {args:List Expr} {Q:Value→Shared→Prop}
  (hbase:attributeBase o name env (eval o env)=eval o env) (hp:args.all plainE=true) (hfew:args.length < 30) (hline:(apos.endLine == pos.line)=true) {Ty id:String} (pa:PlainAttrs Ty) (slot:Slot Ty name id) (hty:typeOf (.builtin id)=pure (.type "method_descriptor"))
  (h:wpN M A (eval o env) (λov s₁=>s₁.TypeIs ov Ty∧(∀ a,ov=.ref a→∃ ob,s₁.heap.get? a=some ob∧ob.dict=none) ∧
   wpN M A (evalArgs (.builtin id) true (starEach args env) []) (λa s₂=>wpN M A (call (.builtin id) (ov :: a.pos) a.kw) Q E s₂) E s₁) E s) :
  wpN M A (eval (.Call (.Attribute o name apos) args [] pos) env) Q E s:=by
 refine N_Call_method hbase hp hfew hline (wpN_mono h (λov s₁ h₁=>⟨.builtin id,[ov],λpl' Q' q=>getMethod_builtin h₁.1 pa slot hty h₁.2.1 q,?_⟩) λ_ _ z=>z)
 exact N_callWith (plain_all hp) (wpN_mono h₁.2.2 (λa s₂ h₂=>⟨keeper_builtin (.inl ⟨_,rfl⟩),h₂⟩) λ_ _ z=>z)
theorem strs_of {γ sg h}:∀ {l:List Val} {vs:List Value} {r:List Nat},Reps γ sg h l vs→strs? l=some r→∃ ps:List (Str×Tok),vs=strValues ps∧(ps.map (·.1.cps.toList)).flatten=r∧ps.length=l.length
 | [],us,_,R,e=>by
  obtain rfl:us=[]:=R.inv
  obtain rfl:=sj e
  exact ⟨[],rfl,rfl,rfl⟩
 | v :: l,us,r,R,e=>by
  obtain ⟨u,ws,rfl,hv,q⟩:=R.inv
  cases v with
  | str x =>
   obtain ⟨t,rfl⟩:=hv.inv
   have e:(strs? l).map (x ++ ·)=some r:=e
   obtain ⟨y,e1,rfl⟩:=Option.map_eq_some_iff.mp e
   obtain ⟨ps,rfl,h2,h3⟩:=strs_of q e1
   exact ⟨(⟨x.toArray⟩,t) :: ps,rfl,by rw [List.map_cons,List.flatten_cons,h2],by simp [h3]⟩
  | _=>exact nsm e
theorem glued_nil:∀ (ps:List Str),(Builtin.Str.glued ⟨#[]⟩ ps).cps.toList=(ps.map (·.cps.toList)).flatten:=by
 intro ps
 have key:∀ (r:List Str) (acc:Array Nat),(r.foldl (λacc p=>acc ++ (#[]:Array Nat) ++ p.cps) acc).toList=acc.toList ++ (r.map (·.cps.toList)).flatten:=by
  intro r
  induction r with
  | nil=>intro acc; simp
  | cons p r ih=>intro acc; rw [List.foldl_cons,ih]; simp
 unfold Builtin.Str.glued
 cases ps with
 | nil=>rfl
 | cons p r =>
  show (List.foldl _ p.cps r).toList=_
  rw [key]
  simp
theorem fold_len:∀ (l:List (Str×Tok)) (k:Nat),(l.map (·.1)).foldl (λa (p:Str)=>a + p.length + (⟨#[]⟩:Str).length) k=k + ((l.map (·.1.cps.toList)).flatten).length:=by
 intro l
 induction l with
 | nil=>intro k; simp
 | cons p r ih =>
  intro k
  rw [List.map_cons,List.foldl_cons,ih]
  simp only [List.map_cons,List.flatten_cons,List.length_append]
  show k + p.1.cps.size + 0 + _=_
  have e1:p.1.cps.toList.length=p.1.cps.size:=by simp
  omega
theorem wp_join (I:Inv C pl γ sg σ s) {l:List Val} {r:List Nat} {t:Tok} {v:Value} (R:Rep γ sg s.heap (.list l) v) (e:strs? l=some r) (hl:l.length≤1000000) (hr:r.length≤1000000) {Q:Value→Shared→Prop}
  (hQ:∀ v k,(∀ γ sg h,Rep γ sg h (.str r) v)→Q v { s with toks:=k }):wpAny (model C.prog C.w) A (call (.builtin "str.join") [.str ⟨#[]⟩ t,v]) Q E s:=by
 obtain ⟨a,vs,rfl,g,h,q⟩:=R.inv
 obtain ⟨ps,rfl,h2,h3⟩:=strs_of q e
 have hfold:(ps.map (·.1)).toArray.foldl (λa (p:Str)=>a + p.length + (⟨#[]⟩:Str).length) 0=r.length:=by
  rw [List.foldl_toArray,fold_len ps 0,h2,Nat.zero_add]
 refine call_meets F.slot_str_join (typeIs_str _ _ _) F.entry_str_join (F.args_str_join_2 _ _) (meets_str_join_list ⟨#[]⟩ t a ps ?_) ⟨h,?_⟩
 ·rw [hfold]
  unfold Builtin.Str.tooLong
  rw [decide_eq_false_iff_not,sizeLine_eq]; omega
 ·unfold joinMade
  split
  ·rename_i p
   have:r=p.1.cps.toList:=by rw [←h2]; simp
   subst this
   exact hQ _ s.toks λ_ _ _=>by
    obtain ⟨⟨c⟩,u⟩:=p
    have:c=c.toList.toArray:=by simp
    show Rep _ _ _ (.str c.toList) (.str ⟨c⟩ u)
    rw [show (⟨c⟩:Str)=⟨c.toList.toArray⟩ from by rw [←this]]
    exact .str _ _
  ·have hg:Builtin.Str.glued ⟨#[]⟩ (ps.map (·.1))=⟨r.toArray⟩:=by
    have:=glued_nil (ps.map (·.1))
    rw [List.map_map] at this
    have h2':(ps.map ((λx=>x.cps.toList) ∘ λx=>x.1)).flatten=r:=h2
    rw [h2'] at this
    cases hq:Builtin.Str.glued ⟨#[]⟩ (ps.map (·.1)) with
    | mk c=>rw [hq] at this; simp at this; subst this; simp
   rw [hg]
   show _∧_
   refine ⟨?_,hQ _ _ λ_ _ _=>.str _ _⟩
   show r.toArray.size≤sizeLine
   rw [List.size_toArray,sizeLine_eq]; omega
theorem TEs.one {x:Expr} {a:ME} (hp:[x].all plainE=true) (ha:TE C pl n (eval x env) (evE T cf a)):TEs C pl n (starEach [x] env) (evEs T cf (.cons a .nil)):=by
 rw [starEach_plain hp]
 exact TEs.cons ha TEs.nil
theorem T_join {pos apos p0:Pos} {k:Nat} {x:Expr} {a:ME} (hp:plainE x=true) (hline:(apos.endLine == pos.line)=true) (ha:TE C pl n (eval x env) (evE T cf a)) :
  TE C pl n (eval (.Call (.Attribute (.Constant (.str ⟨#[]⟩) k p0) "join" apos) [x] [] pos) env) (evE T cf (.join a)):=by
 intro A E Q γ sg σ s z σ' hR I e hQ
 refine k1_inv (r:=evE T cf a σ) e λy e1 e=>?_
 have hpl:[x].all plainE=true:=by rw [List.all_cons,hp]; rfl
 refine N_meth_builtin rfl hpl (by simp) hline F.plainAttrs_str F.slot_str_join F.type_str_join (.of (Calls.Constant_str ⟨typeIs_str _ _ _,(λ_ e=>nomatch e),?_⟩))
 have e0:evEs T cf (.cons a .nil) σ=some ([y.frz],σ'):=by
  show kcons (evE T cf a σ) (evEs T cf .nil)=_
  rw [e1]; rfl
 refine wp_args (TEs.one hpl ha) (plain_all hpl) hR (I.tok (s.toks + 1)) e0 λγ1 sg1 us s1 I1 A1 R1=>?_
 obtain ⟨u,rfl,q⟩:=R1.inv1
 have e:jnV y.frz=some z:=e
 cases hy:y.frz with
 | list l =>
  rw [hy] at e q
  have e:((strs? l).bind λr=>if okLen l.length && okLen r.length then some (LV.val (.str r)) else none)=some z:=e
  obtain ⟨r,e2,e3⟩:=Option.bind_eq_some_iff.mp e
  obtain ⟨hlen,rfl⟩:=ite_some e3
  simp only [Bool.and_eq_true] at hlen
  exact .of (wp_join I1 q e2 (okLen_le hlen.1) (okLen_le hlen.2) λv k h=>hQ _ _ _ _ (I1.tok k) (((adv_tok _).trans A1).trans (adv_tok k)) (h _ _ _) trivial)
 | _=>rw [hy] at e; exact nsm e
theorem rstripB_len:∀ l:List Nat,(rstripB l).length≤l.length
 | []=>Nat.le_refl _
 | c :: r=>by
  have ih:=rstripB_len r
  unfold rstripB
  split
  ·split <;> simp
  ·rename_i q
   simp only [List.length_cons]; omega
theorem rstripB_drop (l:List Nat):rstripB l=(l.reverse.dropWhile (· == 32)).reverse:=by
 induction l with
 | nil=>rfl
 | cons c r ih =>
  have e:rstripB (c :: r)=(match rstripB r with
   | []=>if c=32 then [] else [c]
   | l=>c :: l):=rfl
  rw [e,ih,List.reverse_cons,List.dropWhile_append]
  cases r.reverse.dropWhile (· == 32) with
  | nil =>
   show (if c=32 then [] else [c])=([c].dropWhile (· == 32)).reverse
   by_cases h:c=32
   ·rw [if_pos h,h]; rfl
   ·rw [if_neg h,List.dropWhile_cons_of_neg (by simpa using h)]; rfl
  | cons a t =>
   show _=((a :: t) ++ [c]).reverse
   rw [List.reverse_append]
   generalize hb:(a :: t).reverse=m
   cases m with
   | nil=>exact absurd (List.reverse_eq_nil_iff.1 hb) (List.cons_ne_nil _ _)
   | cons b m=>rfl
theorem rstripB_take (l:List Nat):rstripB l=l.take (l.length - (l.reverse.takeWhile (· == 32)).length):=by
 rw [rstripB_drop]
 have h:=List.takeWhile_append_dropWhile (p:=(· == 32)) (l:=l.reverse)
 generalize l.reverse.takeWhile (· == 32)=a at h ⊢
 generalize l.reverse.dropWhile (· == 32)=b at h ⊢
 have h2:l=b.reverse ++ a.reverse:=by rw [←List.reverse_append,h,List.reverse_reverse]
 rw [h2,List.length_append,List.length_reverse (as:=a),Nat.add_sub_cancel,List.take_left]
theorem T_rstrip {pos apos p0:Pos} {k:Nat} {x:Expr} {a:ME} (hb:attributeBase x "rstrip" env (eval x env)=eval x env) (hline:(apos.endLine == pos.line)=true) (ha:TE C pl n (eval x env) (evE T cf a)) :
  TE C pl n (eval (.Call (.Attribute x "rstrip" apos) [.Constant (.str ⟨#[32]⟩) k p0] [] pos) env) (evE T cf (.rstrip a)):=by
 intro A E Q γ sg σ s z σ' hR I e hQ
 refine k1_inv (r:=evE T cf a σ) e λy e1 e=>?_
 obtain ⟨l,rfl,hl,rfl⟩:∃ l,y=.val (.str l)∧okLen l.length=true∧z=.val (.str (rstripB l)):=by
  cases y with
  | val v=>cases v with
   | str l=>obtain ⟨h1,h2⟩:=ite_some (c:=okLen l.length=true) e; exact ⟨l,rfl,h1,h2⟩
   | _=>exact nsm e
  | _=>exact nsm e
 have hl:=okLen_le hl
 have hpl:[Expr.Constant (.str ⟨#[32]⟩) k p0].all plainE=true:=rfl
 refine N_meth_builtin hb hpl (by simp) hline F.plainAttrs_str F.slot_str_rstrip F.type_str_rstrip (ha.val hR I e1 λγ1 sg1 v1 s1 I1 A1 R1=>?_)
 obtain ⟨t1,rfl⟩:=R1.inv
 refine ⟨typeIs_str _ _ _,(λ_ e=>nomatch e),?_⟩
 rw [starEach_plain hpl]
 refine .of (evalArgs_plain (Calls.spliced_cons (Calls.Constant_str (Calls.spliced_nil ?_))))
 refine .of ?_
 refine call_meets F.slot_str_rstrip (typeIs_str _ _ _) F.entry_str_rstrip (F.args_str_rstrip_2 _ _) (gives_str_rstrip_chars _ _ _ _).meets ?_
 have hcont:(λc=>(#[32]:Array Nat).contains c)=λc=>c == 32:=by funext c; by_cases h:c=32 <;> simp [h]
 have hhi:stripHi (λc=>(#[32]:Array Nat).contains c) true ⟨l.toArray⟩ 0=l.length - (l.reverse.takeWhile (· == 32)).length:=by
  unfold stripHi
  rw [hcont,if_pos rfl]
  show l.toArray.size - _=_
  simp
 have fin:∀ (v:Value) (k:Nat),(∀ γ sg h,Rep γ sg h (.str (rstripB l)) v)→Q v { s1 with toks:=k }:=λv k h=>hQ _ _ _ _ (I1.tok k) (A1.trans (adv_tok k)) (h _ _ _) trivial
 show Made.post (if stripSame (λc=>(#[32]:Array Nat).contains c) false true ⟨l.toArray⟩ then .val (.str ⟨l.toArray⟩ t1) else .str (PySem.stripped (λc=>(#[32]:Array Nat).contains c) false true ⟨l.toArray⟩)) _ _
 split
 ·rename_i hs
  unfold stripSame stripLo at hs
  rw [if_neg (by decide)] at hs
  simp only [Bool.and_eq_true,beq_iff_eq] at hs
  rw [hhi] at hs
  have hs2:l.length - (l.reverse.takeWhile (· == 32)).length=l.toArray.size:=hs.2
  have:rstripB l=l:=by rw [rstripB_take,hs2]; simp
  exact fin _ _ λ_ _ _=>by rw [this]; exact .str _ _
 ·unfold PySem.stripped stripLo
  rw [if_neg (by decide),hhi]
  have hx:Builtin.Str.strSub ⟨l.toArray⟩ 0 (l.length - (l.reverse.takeWhile (· == 32)).length)=⟨(rstripB l).toArray⟩:=by
   unfold Builtin.Str.strSub
   rw [rstripB_take]
   simp
  rw [hx]
  refine ⟨?_,fin _ _ λ_ _ _=>.str _ _⟩
  show (rstripB l).toArray.size≤sizeLine
  have:=rstripB_len l
  rw [List.size_toArray,sizeLine_eq]; omega
end
theorem nodup_len:∀ (n:Nat) (l:List Nat),l.Nodup→(∀ x∈l,x < n)→l.length≤n
 | 0,[],_,_=>Nat.le_refl _
 | 0,x :: _,_,h=>absurd (h x (.head _)) (Nat.not_lt_zero _)
 | n + 1,l,hd,h=>by
  have h1:=nodup_len n (l.erase n) (hd.erase n) λx hx=>by
   have:=(hd.mem_erase_iff.mp hx)
   have h2:=h x this.2
   omega
  by_cases hm:n∈l
  ·have:=List.length_erase_of_mem hm
   omega
  ·rw [List.erase_of_not_mem hm] at h1
   omega
section
variable {C:Cfg} {pl:Nat→Option Place} {n:Nat} {T:Tabs} {cf:CF} {env:Env} {cx:Cx}
variable {A:Around} {E:Value→Shared→Prop} {γ γ':Gam} {sg sg':List Addr} {h h':Heap} {σ σ':St} {s:Shared} {k:Nat}
theorem isStr_lit (x y:Str) (t:Tok):(Value.str x t).isStr y=(x == y):=rfl
theorem FieldsOk.len:∀ {fs:List (Nat×LV)} {es:List DictEntry},FieldsOk C γ sg h k fs es→es.length=fs.length
 | [],[],_=>rfl
 | (_,_) :: _,_ :: _,⟨_,_,r⟩=>by simp [FieldsOk.len r]
 | [],_ :: _,r=>r.elim
 | _ :: _,[],r=>r.elim
theorem FieldsOk.refs:∀ {fs:List (Nat×LV)} {es:List DictEntry},FieldsOk C γ sg h k fs es→es.any (·.refKey)=false
 | [],[],_=>rfl
 | (_,_) :: _,e :: _,⟨⟨t,ht⟩,_,r⟩=>by
  have:e.refKey=false:=by unfold DictEntry.refKey; rw [ht]
  rw [List.any_cons,this,FieldsOk.refs r]; rfl
 | [],_ :: _,r=>r.elim
 | _ :: _,[],r=>r.elim
theorem FieldsOk.get (G:CfgOk C) {f:Nat} {x:LV} (hf:f < C.nf):∀ {fs:List (Nat×LV)} {es:List DictEntry},FieldsOk C γ sg h k fs es→(∀ p∈fs,p.1 < C.nf)→fget fs f=some x→∃ v,getL (C.fname f) es=some (some v)∧LVOk γ sg h (.sf k f) x v
 | [],_,_,_,e=>by cases e
 | (g,y) :: r,[],q,_,_=>q.elim
 | (g,y) :: r,en :: es,⟨⟨t,ht⟩,hv,q⟩,hn,e=>by
  unfold fget at e
  unfold getL
  rw [List.find?_cons,ht,isStr_lit]
  split at e
  ·rename_i hg; subst hg; cases e
   rw [beq_self_eq_true]
   exact ⟨_,rfl,hv⟩
  ·rename_i hg
   have:(C.fname g == C.fname f)=false:=by
    rw [beq_eq_false_iff_ne]
    exact λe=>hg (G.inj _ _ (hn _ (.head _)) hf e)
   rw [this]
   obtain ⟨v,h1,h2⟩:=FieldsOk.get G hf q (λp hp=>hn p (.tail _ hp)) e
   refine ⟨v,?_,h2⟩
   unfold getL at h1
   rw [List.any_cons,show en.refKey=false from by unfold DictEntry.refKey; rw [ht],Bool.false_or]
   exact h1
theorem FieldsOk.none {name:Str} (hf:∀ f,f < C.nf→C.fname f≠name) {fs:List (Nat×LV)} {es:List DictEntry} (q:FieldsOk C γ sg h k fs es) (hn:∀ p∈fs,p.1 < C.nf):getL name es=some none:=by
 have key:∀ {fs:List (Nat×LV)} {es:List DictEntry},FieldsOk C γ sg h k fs es→(∀ p∈fs,p.1 < C.nf)→es.find? (·.key.isStr name)=Option.none:=by
  intro fs
  induction fs with
  | nil=>intro es q hn; cases es with | nil=>rfl | cons=>exact q.elim
  | cons p r ih =>
   intro es q hn
   cases es with
   | nil=>exact q.elim
   | cons en es =>
    obtain ⟨g,y⟩:=p
    obtain ⟨⟨t,ht⟩,hv,q⟩:=q
    rw [List.find?_cons,ht,isStr_lit]
    have:(C.fname g == name)=false:=by
     rw [beq_eq_false_iff_ne]
     exact hf g (hn (g,y) (.head _))
    rw [this]
    exact ih q λp hp=>hn p (.tail _ hp)
 unfold getL
 rw [key q hn,q.refs]
 rfl
theorem FieldsOk.put (G:CfgOk C) {f:Nat} {x:LV} {v:Value} {hsh:Int} {t:Tok} (hf:f < C.nf) (oth:∀ g y v,g≠f→LVOk γ sg h (.sf k g) y v→LVOk γ' sg' h' (.sf k g) y v) (new:LVOk γ' sg' h' (.sf k f) x v) :
  ∀ {fs:List (Nat×LV)} {es:List DictEntry},FieldsOk C γ sg h k fs es→(fs.map (·.1)).Nodup→(∀ p∈fs,p.1 < C.nf)→FieldsOk C γ' sg' h' k (fset fs f x) (putL (C.fname f) hsh (.str (C.fname f) t) v es)
 | [],[],_,_,_=>⟨⟨t,rfl⟩,new,trivial⟩
 | [],_ :: _,q,_,_=>q.elim
 | (g,y) :: r,[],q,_,_=>q.elim
 | (g,y) :: r,en :: es,⟨⟨u,hu⟩,hv,q⟩,hd,hn=>by
  rw [List.map_cons,List.nodup_cons] at hd
  unfold fset putL
  rw [hu,isStr_lit]
  split
  ·rename_i hg; subst hg
   rw [beq_self_eq_true,if_pos rfl]
   refine ⟨⟨u,rfl⟩,new,?_⟩
   have rest:∀ {fs:List (Nat×LV)} {es:List DictEntry},FieldsOk C γ sg h k fs es→g ∉ fs.map (·.1)→FieldsOk C γ' sg' h' k fs es:=by
    intro fs
    induction fs with
    | nil=>intro es q _; cases es with | nil=>trivial | cons=>exact q.elim
    | cons p r ih =>
     intro es q hm
     cases es with
     | nil=>exact q.elim
     | cons en es =>
      obtain ⟨g',y'⟩:=p
      rw [List.map_cons,List.mem_cons,not_or] at hm
      exact ⟨q.1,oth _ _ _ (λe=>hm.1 e.symm) q.2.1,ih q.2.2 hm.2⟩
   exact rest q hd.1
  ·rename_i hg
   have:(C.fname g == C.fname f)=false:=by
    rw [beq_eq_false_iff_ne]
    exact λe=>hg (G.inj _ _ (hn _ (.head _)) hf e)
   rw [this,if_neg (by decide)]
   exact ⟨⟨u,hu⟩,oth _ _ _ hg hv,FieldsOk.put G hf oth new q hd.2 λp hp=>hn p (.tail _ hp)⟩
theorem fset_keys {f:Nat} {x:LV}:∀ {fs:List (Nat×LV)},∀ g,g∈(fset fs f x).map (·.1)↔g∈fs.map (·.1)∨g=f
 | [],g=>by simp [fset]
 | (g',y) :: r,g=>by
  unfold fset
  split
  ·rename_i e; subst e
   simp only [List.map_cons,List.mem_cons]
   constructor
   ·exact .inl
   ·rintro (e | rfl)
    ·exact e
    ·exact .inl rfl
  ·simp only [List.map_cons,List.mem_cons,fset_keys (fs:=r) g]
   rw [or_assoc]
theorem fset_nodup {f:Nat} {x:LV}:∀ {fs:List (Nat×LV)},(fs.map (·.1)).Nodup→((fset fs f x).map (·.1)).Nodup
 | [],_=>by simp [fset]
 | (g,y) :: r,hd=>by
  rw [List.map_cons,List.nodup_cons] at hd
  unfold fset
  split
  ·rw [List.map_cons,List.nodup_cons]; exact hd
  ·rename_i hg
   rw [List.map_cons,List.nodup_cons]
   refine ⟨?_,fset_nodup hd.2⟩
   rw [fset_keys]
   rintro (e | e)
   ·exact hd.1 e
   ·exact hg e
theorem fset_lt {f m:Nat} {x:LV} (hf:f < m) {fs:List (Nat×LV)} (hn:∀ p∈fs,p.1 < m):∀ p∈fset fs f x,p.1 < m:=by
 intro p hp
 have:p.1∈(fset fs f x).map (·.1):=List.mem_map_of_mem hp
 rw [fset_keys] at this
 rcases this with q | q
 ·obtain ⟨p',h1,h2⟩:=List.mem_map.mp q
  rw [←h2]; exact hn p' h1
 ·rw [q]; exact hf
theorem putL_same {name:Str} {hsh:Int} {key v:Value}:∀ {es:List DictEntry},getL name es=some (some v)→putL name hsh key v es=es
 | [],e=>by cases e
 | en :: es,e=>by
  unfold getL at e
  unfold putL
  rw [List.find?_cons] at e
  split at e
  ·rename_i en' he
   cases hq:en.key.isStr name with
   | true =>
    rw [hq] at he
    dsimp only at he
    cases he; cases e
    rw [if_pos rfl]
   | false =>
    rw [hq] at he
    dsimp only at he
    rw [if_neg (by decide)]
    refine congrArg _ (putL_same ?_)
    unfold getL
    rw [he]; exact e
  ·split at e <;> cases e
theorem putL_len {name:Str} {hsh:Int} {key v:Value}:∀ es:List DictEntry,(putL name hsh key v es).length≤es.length + 1
 | []=>by simp [putL]
 | en :: es=>by
  unfold putL
  split
  ·simp
  ·simp only [List.length_cons]
   have:=putL_len (name:=name) (hsh:=hsh) (key:=key) (v:=v) es
   omega
end
end Mine
end
section
open PySem PySem.W PyProof.Rows PySem.Calls Builtin Builtin.ObjectAttr
open Sem (wp)
namespace Mine
section
variable {C:Cfg} {pl:Nat→Option Place} {n:Nat} {T:Tabs} {cf:CF} {env:Env} {cx:Cx}
variable {A:Around} {E:Value→Shared→Prop} {γ γ':Gam} {sg sg':List Addr} {σ σ':St} {s:Shared} {k:Nat}
structure InstIs (C:Cfg) (γ:Gam) (sg:List Addr) (h:Heap) (k c:Nat) (fs:List (Nat×LV)) (a da:Addr) (es:List DictEntry) (n:Nat):Prop where
 at_:sg[k]?=some a
 froz:γ a=none
 obj:h.get? a=some (instObj (C.clsA c) da)
 tag:γ da=some (.sd k)
 dict:h.get? da=some (dictOf es n)
 flds:FieldsOk C γ sg h k fs es
 nod:(fs.map (·.1)).Nodup
 lt:∀ p∈fs,p.1 < C.nf
theorem Inv.inst (I:Inv C pl γ sg σ s) {c fs a} (hk:σ.sto k=some (.inst c fs)) (ha:sg[k]?=some a):∃ da es n,InstIs C γ sg s.heap k c fs a da es n:=by
 obtain ⟨da,es,n,h1,h2,h3,h4,h5,h6,h7⟩:=I.store k _ a hk ha
 exact ⟨da,es,n,ha,h1,h2,h3,h4,h5,h6,h7⟩
theorem InstIs.inst {h:Heap} {c fs a da es m} (x:InstIs C γ sg h k c fs a da es m):InstAt h a (instObj (C.clsA c) da) (C.clsA c) (some (dictOf es m)):=⟨x.obj,rfl,rfl,x.dict⟩
theorem field_some {f:Nat} {x:LV} (e:σ.field k f=some x):∃ c fs,σ.sto k=some (.inst c fs)∧fget fs f=some x:=by
 unfold St.field at e
 split at e
 ·rename_i c fs h; exact ⟨c,fs,h,e⟩
 ·cases e
theorem fget_mem {f:Nat} {x:LV}:∀ {fs:List (Nat×LV)},fget fs f=some x→(f,x)∈fs
 | [],e=>by cases e
 | (g,y) :: r,e=>by
  unfold fget at e
  split at e
  ·rename_i h; subst h; cases e; exact .head _
  ·exact .tail _ (fget_mem e)
theorem clsK_of (G:CfgOk C) (c:Nat):findIn C.K (.ref (C.clsA c)) "__getattribute__"=some (some (.builtin "object.__getattribute__"))∧findIn C.K (.ref (C.clsA c)) "__getattr__"=some none∧hasDictIn C.K (C.clsA c)=true ∧
  findIn C.K (.ref (C.clsA c)) "__setattr__"=some (some (.builtin "object.__setattr__"))∧plainOver C.K (C.clsA c)=true∧makesIn C.K (C.clsA c)=true:=by
 have:=G.cls c
 unfold clsK at this
 simp only [Bool.and_eq_true,beq_iff_eq] at this
 obtain ⟨⟨⟨⟨h1,h2⟩,h3⟩,h4⟩,h5⟩:=this
 unfold plainGet at h1
 simp only [Bool.and_eq_true,beq_iff_eq] at h1
 exact ⟨h1.1,h1.2,h2,h3,h4,h5⟩
theorem Rep.handed {h:Heap} {x:Val} {v:Value} (r:Rep γ sg h x v):handedIn v=true:=by cases r <;> rfl
theorem LVOk.handed {h:Heap} {t:Tag} {x:LV} {v:Value} (r:LVOk γ sg h t x v):handedIn v=true:=by
 cases x with
 | val y=>exact Rep.handed r
 | olist l=>obtain ⟨a,vs,n,rfl,_⟩:=r; rfl
 | obarr l=>obtain ⟨a,rfl,_⟩:=r; rfl
theorem wp_getAttr (G:CfgOk C) (I:Inv C pl γ sg σ s) {c fs a da es m f x} (D:InstIs C γ sg s.heap k c fs a da es m) (hx:fget fs f=some x) {expr:Bool} {Q:Value→Shared→Prop}
  (hQ:∀ v,getL (C.fname f) es=some (some v)→LVOk γ sg s.heap (.sf k f) x v→Q v { s with toks:=s.toks + 1 }):wpAny (model C.prog C.w) A (getAttr (.ref a) (C.fname f) expr) Q E s:=by
 have hf:=D.lt _ (fget_mem hx)
 obtain ⟨v,h1,h2⟩:=D.flds.get G hf D.lt hx
 obtain ⟨q1,q2,q3,q4,q5,q6⟩:=clsK_of G c
 exact get_value (I.X G) D.inst q1 (findObj_own q3 (G.fld c f hf) rfl h1) h2.handed (hQ v h1 h2)
theorem Inv.readF (G:CfgOk C) (I:Inv C pl γ sg σ s) {f:Nat} {x:Val} (e:readField k f σ=some (x,σ')) {a} (ha:sg[k]?=some a) :
  ∃ c fs da es m y,InstIs C γ sg s.heap k c fs a da es m∧fget fs f=some y∧∀ v,getL (C.fname f) es=some (some v)→LVOk γ sg s.heap (.sf k f) y v→∃ γ',Inv C pl γ' sg σ' s∧Adv γ sg s γ' sg s∧Rep γ' sg s.heap x v:=by
 unfold readField at e
 split at e
 ·rename_i y hy
  cases e
  obtain ⟨c,fs,h1,h2⟩:=field_some hy
  obtain ⟨da,es,m,D⟩:=I.inst h1 ha
  exact ⟨c,fs,da,es,m,_,D,h2,λv h3 h4=>⟨γ,I,.refl,h4⟩⟩
 ·rename_i y hn hy
  obtain ⟨σ'',e1,e2⟩:=Option.map_eq_some_iff.mp e
  cases e2
  obtain ⟨c,fs,h1,h2⟩:=field_some hy
  obtain ⟨da,es,m,D⟩:=I.inst h1 ha
  refine ⟨c,fs,da,es,m,_,D,h2,λv h3 h4=>?_⟩
  have hf:=D.lt _ (fget_mem h2)
  unfold St.putField at e1
  rw [h1] at e1
  cases e1
  have own:∀ {b:Addr},γ b=some (.sf k f)→Rep (γ.upd b none) sg s.heap y.frz v →
    ∃ γ',Inv C pl γ' sg { σ with store:=σ.store.set k (.inst c (fset fs f (.val y.frz))) } s∧Adv γ sg s γ' sg s∧Rep γ' sg s.heap y.frz v:=by
   intro b hg hr
   have hk:Kept γ sg s.heap (γ.upd b none) sg s.heap:=⟨λb' _ e _=>by unfold Gam.upd; split <;> first | rfl | exact e,λ_ _ _ e=>e,List.prefix_refl _⟩
   have ht:∀ b' t,γ b'=some t→t≠.sf k f→γ.upd b none b'=γ b':=λb' t e n=>by
    unfold Gam.upd; split
    ·rename_i q; subst q; rw [hg] at e; cases e; exact absurd rfl n
    ·rfl
   refine ⟨_,⟨I.gens,I.os,I.keep,λb' t e=>?_,λj q e=>?_,I.inj,λj z e=>?_,?_,λk' o b' e1 e2=>?_⟩,⟨⟨λ_ o e=>⟨o,e⟩,hk,λb' e=>(ht _ _ e (by intro e; cases e)).trans e,λ_ _ _ e=>e⟩,λb o t e q g=>⟨(ht _ _ e (by rintro rfl; rcases q with q | q <;> cases q)).trans e,g⟩⟩,hr⟩
   ·unfold Gam.upd at e; split at e
    ·cases e
    ·exact I.dom b' t e
   ·have:=I.ok j q e
    refine Place.ok_to this ?_ λo e=>e
    rcases Place.ok_tag this with q | q <;> exact ht _ _ q (by intro e; cases e)
   ·obtain ⟨p',v',h1,h2,h3⟩:=I.vars j z e
    exact ⟨p',v',h1,h2,h3.mono hk λb o e1 e2=>⟨(ht _ _ e1 (by intro e; cases e)).trans e1,e2⟩⟩
   ·show sg.length=(σ.store.set k _).length
    rw [List.length_set]; exact I.len
   ·have e3:(if σ.ro then none else (σ.store.set k (.inst c (fset fs f (.val y.frz))))[k']?)=some o:=e1
    have hro:σ.ro=false:=by
     cases q:σ.ro with
     | false=>rfl
     | true=>rw [q,if_pos rfl] at e3; cases e3
    rw [hro,if_neg (by decide),List.getElem?_set] at e3
    split at e3
    ·rename_i q; subst q
     split at e3
     ·cases e3
      rw [ha] at e2; cases e2
      refine ⟨da,es,m,(by unfold Gam.upd; split <;> first | rfl | exact D.froz),D.obj,(ht _ _ D.tag (by intro e; cases e)).trans D.tag,D.dict,?_,fset_nodup D.nod,fset_lt hf D.lt⟩
      have:=D.flds.put (γ':=γ.upd b none) (sg':=sg) (h':=s.heap) (x:=.val y.frz) (v:=v) (hsh:=0) (t:=0) G hf (λg y' v' hne hl=>?_) hr D.nod D.lt
      ·rwa [putL_same h3] at this
      ·exact hl.mono hk λb' o e1 e2=>⟨(ht _ _ e1 (by intro e; cases e; exact hne rfl)).trans e1,e2⟩
     ·cases e3
    ·rename_i q
     refine (I.store k' o b' (by unfold St.sto; rw [hro,if_neg (by decide)]; exact e3) e2).mono hk λb'' o' q' e2=>⟨?_,e2⟩
     rcases q' with q' | ⟨f',q'⟩ | q' <;> exact ht _ _ q' (by intro e; cases e <;> exact q rfl)
  cases y with
  | val z=>exact absurd rfl (hn z)
  | olist l =>
   obtain ⟨b,vs,m',rfl,g,o,r⟩:=h4
   have hk:Kept γ sg s.heap (γ.upd b none) sg s.heap:=⟨λb _ e _=>by unfold Gam.upd; split <;> first | rfl | exact e,λ_ _ _ e=>e,List.prefix_refl _⟩
   exact own g (.list (Gam.upd_self ..) ⟨_,o,rfl,_,rfl⟩ (r.mono hk))
  | obarr l =>
   obtain ⟨b,rfl,g,o⟩:=h4
   exact own g (.barr (Gam.upd_self ..) o)
 ·cases e
theorem N_Attribute {prog:Program} {w:World} {value:Expr} {attr:Str} {pos:Pos} {Q:Value→Shared→Prop} (hb:attributeBase value attr env (eval value env)=eval value env)
  (h:wpN (model prog w) A (eval value env) (λo s₁=>wpN (model prog w) A (getAttr o attr true) Q E s₁) E s):wpN (model prog w) A (eval (.Attribute value attr pos) env) Q E s:=by
 rw [arm_eval_Attribute,hb]
 exact wpN_bind (wpN_mono h (λo s₁ h₁=>wpN_standAt (wpN_bind (wpN_holding (wpN_mono h₁ (λr s₂ h₂=>wpN_step (wpAny_letTemporaryGo (wpN_pure h₂))) λ_ _ z=>z)))) λ_ _ z=>z)
theorem T_attr (G:CfgOk C) {value:Expr} {f:Nat} {pos:Pos} {a:ME} (hb:attributeBase value (C.fname f) env (eval value env)=eval value env) (ha:TE C pl n (eval value env) (evE T cf a)) :
  TE C pl n (eval (.Attribute value (C.fname f) pos) env) (evE T cf (.attr a f)):=by
 intro A E Q γ sg σ s z σ' hR I e hQ
 refine kattr_inv (r:=evE T cf a σ) e λk σ1 e1 e=>?_
 refine rf_inv e λx zz1 e2=>?_; obtain rfl:=zz1
 refine N_Attribute hb (ha.val hR I e1 λγ1 sg1 v1 s1 I1 A1 R1=>.of ?_)
 obtain ⟨ad,rfl,hsg⟩:=R1.inv
 obtain ⟨c,fs,da,es,m,y,D,hy,fin⟩:=I1.readF G e2 hsg
 refine wp_getAttr G I1 D hy λv h1 h2=>?_
 obtain ⟨γ',I2,A2,R2⟩:=fin v h1 h2
 exact hQ _ _ _ _ (I2.tok _) ((A1.trans A2).trans (adv_tok _)) R2 trivial
end
end Mine
end
section
open PySem PySem.W PyProof.Rows PySem.Calls
open Sem (wp)
namespace Mine
noncomputable def KU (C:Cfg) (pl:Nat→Option Place) (γ:Gam) (sg:List Addr) (s:Shared) (σ':St) (Q:Unit→Shared→Prop):Prop:=∀ s',Inv C pl γ sg σ' s'→AdvS γ sg s γ sg s'→Q () s'
section
variable {C:Cfg} {pl:Nat→Option Place} {n:Nat} {T:Tabs} {cf:CF} {env:Env} {cx:Cx}
variable {A:Around} {E:Value→Shared→Prop} {γ γ':Gam} {sg sg':List Addr} {σ σ':St} {s:Shared} {k:Nat}
theorem Inv.re {a:Addr} (I:Inv C pl γ sg σ s) (h:γ a=some .prot) (t:Option Tag):Inv C pl (γ.upd a t) sg σ s:=by
 have hk:Kept γ sg s.heap (γ.upd a t) sg s.heap:=⟨λb _ e _=>by
  unfold Gam.upd; split
  ·rename_i q; subst q; rw [h] at e; cases e
  ·exact e,λ_ _ _ e=>e,List.prefix_refl _⟩
 have ht:∀ b u,γ b=some u→u≠.prot→γ.upd a t b=γ b:=λb u e n=>by
  unfold Gam.upd; split
  ·rename_i q; subst q; rw [h] at e; cases e; exact absurd rfl n
  ·rfl
 refine ⟨I.gens,I.os,I.keep,λb u e=>?_,λi p e=>?_,I.inj,λi x e=>?_,I.len,λk o b e1 e2=>?_⟩
 ·unfold Gam.upd at e; split at e
  ·rename_i q; subst q; exact I.dom _ _ h
  ·exact I.dom b u e
 ·have:=I.ok i p e
  refine Place.ok_to this ?_ λo e=>e
  rcases Place.ok_tag this with q | q <;> exact ht _ _ q (by intro e; cases e)
 ·obtain ⟨p,v,h1,h2,h3⟩:=I.vars i x e
  exact ⟨p,v,h1,h2,h3.mono hk λb o e1 e2=>⟨(ht _ _ e1 (by intro e; cases e)).trans e1,e2⟩⟩
 ·refine (I.store k o b e1 e2).mono hk λb o q e2=>⟨?_,e2⟩
  rcases q with q | ⟨f,q⟩ | q <;> exact ht _ _ q (by intro e; cases e)
theorem own_as {γ0:Gam} {sg0:List Addr} {s0:Shared} {x:LV} {v:Value} (I:Inv C pl γ sg σ s) (dom0:∀ a t,γ0 a=some t→∃ o,s0.heap.get? a=some o) (A0:Adv γ0 sg0 s0 γ sg s) (R:LVOk γ sg s.heap .prot x v) (N:NewR s0 x v) (t:Tag) :
  ∃ γ',Inv C pl γ' sg σ s∧Adv γ0 sg0 s0 γ' sg s∧LVOk γ' sg s.heap t x v:=by
 have key:∀ a,v=.ref a→γ a=some .prot→s0.heap.get? a=none→∃ γ',Inv C pl γ' sg σ s∧Adv γ0 sg0 s0 γ' sg s∧γ'=γ.upd a (some t):=by
  intro a _ g hn
  refine ⟨_,I.re g (some t),⟨⟨A0.there,⟨λb o e l=>?_,A0.kept.keep,A0.kept.sg⟩,λb e=>?_,A0.keepP⟩,λb o u e q l=>?_⟩,rfl⟩
  ·have:b≠a:=λq=>by subst q; rw [hn] at l; cases l
   rw [Gam.upd_ne _ _ this]; exact A0.kept.froz b o e l
  ·have:b≠a:=λq=>by subst q; obtain ⟨o,ho⟩:=dom0 _ _ e; rw [hn] at ho; cases ho
   rw [Gam.upd_ne _ _ this]; exact A0.prot b e
  ·have:b≠a:=λq=>by subst q; rw [hn] at l; cases l
   rw [Gam.upd_ne _ _ this]; exact A0.names b o u e q l
 cases x with
 | val y=>exact ⟨γ,I,A0,R⟩
 | olist l =>
  obtain ⟨a,vs,m,rfl,g,o,r⟩:=R
  obtain ⟨γ',I',A',rfl⟩:=key a rfl g (N a rfl)
  refine ⟨_,I',A',a,vs,m,rfl,Gam.upd_self ..,o,r.mono ⟨λb _ e _=>?_,λ_ _ _ e=>e,List.prefix_refl _⟩⟩
  unfold Gam.upd; split
  ·rename_i q; subst q; rw [g] at e; cases e
  ·exact e
 | obarr l =>
  obtain ⟨a,rfl,g,o⟩:=R
  obtain ⟨γ',I',A',rfl⟩:=key a rfl g (N a rfl)
  exact ⟨_,I',A',a,rfl,Gam.upd_self ..,o⟩
noncomputable def isStoreKind (sc:Scope) (x:Str):Bool:=match sc.names.lookup x with
 | some .local=>true
 | some .cell=>true
 | _=>false
theorem Inv.stored {i:Nat} {p:Place} {lv:LV} {v:Value} (I:Inv C pl γ sg σ s) (hp:pl i=some p) {s':Shared} (hg:s'.gens=s.gens) (ho:s'.os=s.os) (hs:Heap.SameBut p.addr s.heap s'.heap)
  (hhas:p.has s'.heap v) (hoth:∀ j q u,q≠p→pl j=some q→q.has s.heap u→q.has s'.heap u) (hok:∀ j q,pl j=some q→q.addr=p.addr→q.ok γ s'.heap) (R:LVOk γ sg s.heap (.var i) lv v) :
  Inv C pl γ sg (σ.set i lv) s'∧AdvS γ sg s γ sg s':=by
 have hpo:=I.ok i p hp
 have htag:=Place.ok_tag hpo
 have keep:∀ a o t,γ a=t→t≠some .ns→t≠some .cell→s.heap.get? a=some o→s'.heap.get? a=some o:=λa o t e n1 n2 g=>by
  have:a≠p.addr:=λq=>by
   subst q
   rcases htag with q | q
   ·exact n1 (e.symm.trans q)
   ·exact n2 (e.symm.trans q)
  exact (hs.2 a this).trans g
 have kp:Kept γ sg s.heap γ sg s'.heap:=⟨λ_ _ e _=>e,λa o e g=>keep a o _ e (by nofun) (by nofun) g,List.prefix_refl _⟩
 have there:∀ a o,s.heap.get? a=some o→∃ o',s'.heap.get? a=some o':=λa o g=>by
  by_cases q:a=p.addr
  ·subst q
   obtain ⟨o',ho'⟩:=Place.ok_at (hok i p hp rfl)
   exact ⟨o',ho'⟩
  ·exact ⟨o,(hs.2 a q).trans g⟩
 refine ⟨⟨hg.trans I.gens,ho.trans I.os,λb o e=>?_,λa t e=>?_,λj q e=>?_,I.inj,λj z e=>?_,I.len,λk o b e1 e2=>?_⟩,⟨there,kp,λ_ e=>e,λa o e g=>keep a o _ e (by nofun) (by nofun) g⟩⟩
 ·have hb:=I.keep b o e
  have hn:γ b=none:=by
   cases q:γ b with
   | none=>rfl
   | some t=>have:=(I.dom b t q).2; rw [e] at this; cases this
  exact keep b o _ hn (by nofun) (by nofun) hb
 ·obtain ⟨⟨o,h1⟩,h2⟩:=I.dom a t e
  exact ⟨there a o h1,h2⟩
 ·by_cases q':q.addr=p.addr
  ·exact hok j q e q'
  ·exact Place.ok_to (I.ok j q e) rfl λo h=>(hs.2 _ q').trans h
 ·rcases St.get_set _ _ _ _ _ e with ⟨rfl,rfl⟩ | ⟨hne,e⟩
  ·exact ⟨p,v,hp,hhas,R.mono kp λa o e1 e2=>⟨e1,keep a o _ e1 (by nofun) (by nofun) e2⟩⟩
  ·obtain ⟨q,u,h1,h2,h3⟩:=I.vars j z e
   refine ⟨q,u,h1,hoth j q u (λe=>hne ?_) h1 h2,h3.mono kp λa o e1 e2=>⟨e1,keep a o _ e1 (by nofun) (by nofun) e2⟩⟩
   subst e
   exact I.inj _ _ _ hp h1
 ·refine (I.store k o b e1 e2).mono kp λb o q e2=>⟨rfl,?_⟩
  rcases q with q | ⟨f,q⟩ | q <;> exact keep b o _ q (by nofun) (by nofun) e2
theorem wp_store {i:Nat} {x:Str} {lv:LV} {v:Value} (I:Inv C pl γ sg σ s) (H:EnvOk pl cx env) (hi:cx.ix.lookup x=some i) (hk:isStoreKind cx.scope x=true) (R:LVOk γ sg s.heap (.var i) lv v) {Q:Unit→Shared→Prop}
  (hQ:KU C pl γ sg s (σ.set i lv) Q):wpAny (model C.prog C.w) A (storeName env x v) Q E s:=by
 have hkk:env.scope.kind=.function:=H.scope ▸ H.kind
 have hko:env.kindOf x=cx.scope.names.lookup x:=by unfold Env.kindOf; rw [H.scope]
 unfold isStoreKind at hk
 split at hk
 ·rename_i q
  have hp:=H.loc x i hi q
  obtain ⟨htag,m,hn⟩:=I.ok i _ hp
  refine wpAny_storeName_local (hko.trans q) hn (λh' hn' hs=>?_) (by rw [hkk]; rfl)
  refine (λ(q:_∧_)=>hQ _ q.1 q.2) (I.stored (s':={ s with heap:=h',toks:=s.toks + 1 }) hp rfl rfl hs ⟨_,hn',by simp⟩ (λj q u hq hj hh=>?_) (λj q hj ha=>?_) R)
  ·cases q with
   | loc L y =>
    obtain ⟨m',h1,h2⟩:=hh
    by_cases e:L=env.locals
    ·subst e
     have hy:y≠x:=λe=>by subst e; exact hq rfl
     refine ⟨_,hn',?_⟩
     rw [if_neg hy,←h1.agree hn y]; exact h2
    ·exact ⟨m',h1.sameBut hs e,h2⟩
   | cell c =>
    have:c≠env.locals:=λe=>by
     subst e
     have:=(I.ok j _ hj).1
     rw [htag] at this; cases this
    exact IsCell_to hh λo h=>(hs.2 c this).trans h
  ·cases q with
   | loc L y =>
    have:L=env.locals:=ha
    subst this
    exact ⟨htag,_,hn'⟩
   | cell c =>
    have:c=env.locals:=ha
    subst this
    have:=(I.ok j _ hj).1
    rw [htag] at this; cases this
 ·rename_i q
  obtain ⟨c,h1,hp⟩:=H.cel x i hi (.inl q)
  obtain ⟨htag,v0,hv0⟩:=I.ok i _ hp
  refine wpAny_storeName_cell hkk (hko.trans q) h1 hv0 λh' hc hs=>?_
  refine (λ(q:_∧_)=>hQ _ q.1 q.2) (I.stored (s':={ s with heap:=h' }) hp rfl rfl hs hc (λj q u hq hj hh=>?_) (λj q hj ha=>?_) R)
  ·cases q with
   | loc L y =>
    obtain ⟨m',h1,h2⟩:=hh
    have:L≠c:=λe=>by
     subst e
     have:=(I.ok j _ hj).1
     rw [htag] at this; cases this
    exact ⟨m',h1.sameBut hs this,h2⟩
   | cell c' =>
    have:c'≠c:=λe=>by subst e; exact hq rfl
    exact IsCell_to hh λo h=>(hs.2 c' this).trans h
  ·cases q with
   | loc L y =>
    have:L=c:=ha
    subst this
    have:=(I.ok j _ hj).1
    rw [htag] at this; cases this
   | cell c' =>
    have:c'=c:=ha
    subst this
    exact ⟨htag,_,hc⟩
 ·cases hk
end
section
variable {C:Cfg} {pl:Nat→Option Place} {n:Nat} {T:Tabs} {cf:CF} {env:Env} {cx:Cx}
variable {A:Around} {E:Value→Shared→Prop} {γ γ':Gam} {sg sg':List Addr} {σ σ':St} {s:Shared} {k:Nat}
noncomputable def FlowOk (γ:Gam) (sg:List Addr) (s0 s:Shared):Fl→Flow→Prop
 | .next,.next=>True
 | .ret x,.ret v=>LVOk γ sg s.heap .prot x v∧NewR s0 x v
 | _,_=>False
theorem FlowOk.up {γ sg} {s0 s1 s:Shared} (h:∀ a o,s0.heap.get? a=some o→∃ o',s1.heap.get? a=some o'):∀ {r fl},FlowOk γ sg s1 s r fl→FlowOk γ sg s0 s r fl
 | .next,.next,_=>trivial
 | .ret _,.ret _,⟨a,b⟩=>⟨a,NewR.up h b⟩
 | .next,.ret _,x=>x.elim
 | .next,.brk,x=>x.elim
 | .next,.cont,x=>x.elim
 | .ret _,.next,x=>x.elim
 | .ret _,.brk,x=>x.elim
 | .ret _,.cont,x=>x.elim
noncomputable def KS (C:Cfg) (pl:Nat→Option Place) (γ:Gam) (sg:List Addr) (s:Shared) (σ':St) (r:Fl) (Q:Flow→Shared→Prop):Prop:=∀ γ' sg' fl s',Inv C pl γ' sg' σ' s'→AdvS γ sg s γ' sg' s'→FlowOk γ' sg' s s' r fl→Q fl s'
noncomputable def TS (C:Cfg) (pl:Nat→Option Place) (n:Nat) (t:Sem Flow) (f:St→Option (Fl×St)):Prop :=
 ∀ {A:Around} {E:Value→Shared→Prop} {Q:Flow→Shared→Prop} {γ sg σ s r σ'},Room n A→Inv C pl γ sg σ s→f σ=some (r,σ') →
  KS C pl γ sg s σ' r Q→wpN (model C.prog C.w) A t Q E s
theorem TSs_nil:TS C pl n (execs [] env) (exSs T cf .nil):=by
 intro A E Q γ sg σ s r σ' hR I e hQ
 obtain ⟨rfl,rfl⟩:=si2 (e:some (Fl.next,σ)=some (r,σ'))
 exact wpN_pure (hQ _ _ _ _ I .refl trivial)
theorem TSs_cons {st:Stmt} {rest:List Stmt} {m:MS} {r:MSs} (h:TS C pl n (exec st env) (exS T cf m)) (hs:TS C pl n (execs rest env) (exSs T cf r)):TS C pl n (execs (st :: rest) env) (exSs T cf (.cons m r)):=by
 intro A E Q γ sg σ s z σ' hR I e hQ
 rw [execs_cons]
 obtain ⟨σ1,e1,e⟩ | ⟨x,σ1,e1,e⟩:=sq_inv (o:=exS T cf m σ) e
 ·refine wpN_bind (h hR I e1 λγ1 sg1 f1 s1 I1 A1 F1=>?_)
  cases f1 <;> first | exact F1.elim | skip
  exact hs hR I1 e λγ2 sg2 f2 s2 I2 A2 F2=>hQ _ _ _ _ I2 (A1.trans A2) (F2.up A1.there)
 ·refine wpN_bind (h hR I e1 λγ1 sg1 f1 s1 I1 A1 F1=>?_)
  obtain ⟨rfl,rfl⟩:=pair_inj e
  cases f1 <;> first | exact F1.elim | skip
  exact wpN_pure (hQ _ _ _ _ I1 A1 F1)
noncomputable def isComp:Expr→Bool
 | .ListComp ..=>true
 | .SetComp ..=>true
 | .DictComp ..=>true
 | _=>false
theorem swapsWith_no {value:Expr} (h:isComp value=false) (t:Option Expr) (l:Nat):swapsWith value t l env=pure false:=by
 cases value <;> first | rfl | cases h
theorem TS_assign {x:Str} {i:Nat} {p pos:Pos} {value:Expr} {a:ME} (H:EnvOk pl cx env) (hi:cx.ix.lookup x=some i) (hk:isStoreKind cx.scope x=true) (hc:isComp value=false) (ha:TE C pl n (eval value env) (evE T cf a)) :
  TS C pl n (exec (.Assign [.Name x p] value pos) env) (exS T cf (.assign i a)):=by
 intro A E Q γ sg σ s z σ' hR I e hQ
 refine ka_inv (r:=evE T cf a σ) e λy σ1 e1 e2=>?_
 obtain ⟨rfl,rfl⟩:=si2 (e2:some (Fl.next,σ1.set i y)=some (z,σ'))
 rw [exec_Assign_Name _ _ _ _ _ (swapsWith_no hc _ _)]
 refine wpN_standAt (wpN_bind (ha hR I e1 λγ1 sg1 v1 s1 I1 A1 R1 N1=>wpN_standAt ?_))
 obtain ⟨γ2,I2,A2,R2⟩:=own_as I1 (λa t e=>(I.dom a t e).1) A1 R1 N1 (.var i)
 exact wpN_step (wpAny_bindName (wp_store I2 H hi hk R2 λs2 I3 A3=>wpN_pure (hQ _ _ _ _ I3 (A2.toAdvS.trans A3) trivial)))
theorem wp_bindT {ts:List (Str×(Value→Sem Unit))} (H:EnvOk pl cx env) (ht:∀ p∈ts,∀ {A:Around} {E:Value→Shared→Prop} {s:Shared} {Q:Unit→Shared→Prop} v,wpAny (model C.prog C.w) A (storeName env p.1 v) Q E s→wpAny (model C.prog C.w) A (p.2 v) Q E s) :
  ∀ {is:List Nat} {l:List Val} {items:List Value} {γ sg σ σ' s} {Q:Unit→Shared→Prop},(ts.length=is.length∧∀ q∈ts.zip is,cx.ix.lookup q.1.1=some q.2∧isStoreKind cx.scope q.1.1=true)→Inv C pl γ sg σ s→bindT is l σ=some σ'→Reps γ sg s.heap l items →
   KU C pl γ sg s σ' Q→wpAny (model C.prog C.w) A (assignInOrder (ts.map (·.2)) items) Q E s:=by
 induction ts with
 | nil =>
  intro is l items γ sg σ σ' s Q hz I e R hQ
  cases is with
  | nil=>cases l with
   | nil =>
    obtain rfl:=sj (e:some σ=some σ')
    obtain rfl:items=[]:=R.inv
    exact wpAny_pure (hQ _ I .refl)
   | cons=>exact nsm e
  | cons=>exact absurd hz.1 (by simp)
 | cons t ts ih =>
  intro is l items γ sg σ σ' s Q hz I e R hQ
  cases is with
  | nil=>exact absurd hz.1 (by simp)
  | cons i is=>cases l with
   | nil=>exact nsm e
   | cons x l =>
    obtain ⟨v,vs,rfl,r,R⟩:=R.inv
    show wpAny _ _ (do holding vs (t.2 v); assignInOrder (ts.map (·.2)) vs) _ _ _
    obtain ⟨h1,h2⟩:=hz.2 (t,i) (.head _)
    refine wpAny_bind (wpAny_holding (ht t (.head _) v (wp_store (lv:=.val x) I H h1 h2 r λs1 I1 A1=>?_)))
    exact ih (λp hp=>ht p (.tail _ hp)) ⟨by simpa using hz.1,λq hq=>hz.2 q (.tail _ hq)⟩ I1 e (R.mono A1.kept) λs2 I2 A2=>hQ _ I2 (A1.trans A2)
noncomputable def nameOf:Expr→Option Str
 | .Name x _=>some x
 | _=>none
theorem nameOf_inv {x:Str} {e:Expr} (h:nameOf e=some x):∃ p,e=.Name x p:=by
 cases e with
 | Name y p=>exact ⟨p,congrArg (λx=>Expr.Name x p) (sj h)⟩
 | _=>exact nsm h
theorem assignEach_names {xs:List Str}:∀ {elts:List Expr},elts.map nameOf=xs.map some→∃ ts:List (Str×(Value→Sem Unit)),(assignEach elts env).map (·.2)=ts.map (·.2)∧ts.map (·.1)=xs∧(assignEach elts env).findIdx? (·.1)=none∧(assignEach elts env).length=xs.length ∧
  ∀ p∈ts,∀ {M:Model} {A:Around} {E:Value→Shared→Prop} {s:Shared} {Q:Unit→Shared→Prop} v,wpAny M A (storeName env p.1 v) Q E s→wpAny M A (p.2 v) Q E s:=by
 induction xs with
 | nil =>
  intro elts h
  cases elts with
  | nil=>exact ⟨[],rfl,rfl,rfl,rfl,λp hp=>nomatch hp⟩
  | cons=>cases h
 | cons x xs ih =>
  intro elts h
  cases elts with
  | nil=>cases h
  | cons e elts =>
   rw [List.map_cons,List.map_cons] at h
   injection h with h1 h2
   obtain ⟨ts,t1,t2,t3,t4,t5⟩:=ih h2
   obtain ⟨p,rfl⟩:=nameOf_inv h1
   refine ⟨(x,assign (.Name x p) env) :: ts,?_,?_,?_,?_,?_⟩
   ·show assign (.Name x p) env :: _=_; rw [t1]; rfl
   ·rw [List.map_cons,t2]
   ·show List.findIdx? _ ((false,assign (.Name x p) env) :: assignEach elts env)=none
    rw [List.findIdx?_cons,t3]; rfl
   ·show ((false,assign (.Name x p) env) :: assignEach elts env).length=_
    simp [t4]
   ·intro q hq M A E s Q v h
    rcases List.mem_cons.mp hq with rfl | hq
    ·exact PyProof.Rows.assign_Name h
    ·exact t5 q hq v h
theorem bindT_rev2 {i j:Nat} {u v:Val} (h:i≠j) (σ:St):bindT [i,j] [u,v] σ=bindT [j,i] [v,u] σ:=by
 simp only [bindT,St.set]
 rw [List.set_comm _ _ h]
theorem bindT_rev3 {i j k:Nat} {u v w:Val} (h1:i≠j) (h2:i≠k) (h3:j≠k) (σ:St):bindT [i,j,k] [u,v,w] σ=bindT [k,j,i] [w,v,u] σ:=by
 simp only [bindT,St.set]
 have e1:((σ.vars.set i (some (.val u))).set j (some (.val v))).set k (some (.val w))=((σ.vars.set k (some (.val w))).set j (some (.val v))).set i (some (.val u)):=by
  rw [List.set_comm _ _ h3,List.set_comm (some (LV.val u)) (some (LV.val w)) h2,List.set_comm (some (LV.val u)) (some (LV.val v)) h1]
 rw [e1]
noncomputable def swapOf (sc:Scope) (targets:List Expr) (value:Expr):Option (Option (List Str)) :=
 pureOf (swappedStores targets value { scope:=sc,locals:=0,globals:=0,cells:=[] })
theorem swapOf_eq {targets:List Expr} {value:Expr} {r} (H:EnvOk pl cx env) (h:swapOf cx.scope targets value=some r):swappedStores targets value env=pure r:=by
 have:=of_pureOf h
 rw [←H.scope] at this
 exact this
theorem N_Assign {M:Model} {t value:Expr} {pos:Pos} {Q:Flow→Shared→Prop} (hc:isComp value=false) {r:Option (List Str)} (hw:swappedStores [t] value env=pure r)
  (h:wpN M A (eval value env) (λv s₁=>wpN M A (assignStores env v r ((assignEach [t] env).map (·.2))) Q E s₁) E s):wpN M A (exec (.Assign [t] value pos) env) Q E s:=by
 rw [exec_Assign]
 refine wpN_standAt ?_
 rw [show swapsWithSole [t] value pos.line env=pure false from swapsWith_no hc _ _]
 refine wpN_step (wpAny_pure ?_)
 rw [if_neg (by decide)]
 refine wpN_bind (wpN_mono h (λv s₁ h₁=>?_) λ_ _ x=>x)
 rw [hw]
 exact wpN_step (wpAny_pure h₁)
theorem lenS {α:Type} {l:List α} {n:Nat} (h:l.length=n + 1):∃ a r,l=a :: r∧r.length=n:=by
 cases l with
 | nil=>cases h
 | cons a r=>exact ⟨a,r,rfl,Nat.succ.inj h⟩
theorem len2 {α:Type} {l:List α} (h:l.length=2):∃ a b,l=[a,b]:=by
 obtain ⟨a,r,rfl,h1⟩:=lenS h
 obtain ⟨b,u,rfl,h2⟩:=lenS h1
 obtain rfl:=List.length_eq_zero_iff.mp h2
 exact ⟨a,b,rfl⟩
theorem len3 {α:Type} {l:List α} (h:l.length=3):∃ a b c,l=[a,b,c]:=by
 obtain ⟨a,r,rfl,h1⟩:=lenS h
 obtain ⟨b,c,rfl⟩:=len2 h1
 exact ⟨a,b,c,rfl⟩
theorem TS_assignT {elts:List Expr} {kk:Nat} {tp pos:Pos} {value:Expr} {a:ME} {xs:List Str} {is:List Nat} {r:Option (List Str)} (H:EnvOk pl cx env) (hn:elts.map nameOf=xs.map some) (hl:xs.length=is.length)
  (hx:∀ q∈xs.zip is,cx.ix.lookup q.1=some q.2∧isStoreKind cx.scope q.1=true) (hc:isComp value=false) (hw:swapOf cx.scope [.Tuple elts kk tp] value=some r)
  (hr:r=none∨(r=some xs∧is.Nodup∧(is.length=2∨is.length=3))) (ha:TE C pl n (eval value env) (evE T cf a)) :
  TS C pl n (exec (.Assign [.Tuple elts kk tp] value pos) env) (exS T cf (.assignT is a)):=by
 intro A E Q γ sg σ s z σ' hR I e hQ
 refine ka_inv (r:=evE T cf a σ) e λy σ1 e1 e=>?_
 refine sT_inv e λl σ2 zz1 hlen e2 e3=>?_; obtain rfl:=zz1
 obtain ⟨rfl,rfl⟩:=pair_inj e3
 refine N_Assign hc (swapOf_eq H hw) (ha.val hR I e1 λγ1 sg1 v1 s1 I1 A1 R1=>.of ?_)
 obtain ⟨t,vs,rfl,g,hh,q⟩:=R1.inv
 have hsz:vs.toArray.size=is.length:=by rw [List.size_toArray,q.length,hlen]
 have items:∀ (m:Nat) {Q':List Value→Shared→Prop},m=is.length→(∀ h',(∀ b o,s1.heap.get? b=some o→h'.get? b=some o)→Q' vs { s1 with heap:=h' })→wpAny (model C.prog C.w) A (unpackItems (.ref t) m none) Q' E s1:=by
  intro m Q' hm hq
  have:=wpAny_unpackItems_tuple (prog:=C.prog) (w:=C.w) (A:=A) (E:=E) (Q:=Q') hR.1 hh λh' hx=>by
   have:=hq h' λb o e=>hx b o (Nat.ne_of_lt (Heap.lt_size e)) e
   simpa using this
  rwa [hsz,←hm] at this
 have grown:∀ h':Heap,(∀ b o,s1.heap.get? b=some o→h'.get? b=some o)→Inv C pl γ1 sg1 σ1 { s1 with heap:=h' }∧Adv γ1 sg1 s1 γ1 sg1 { s1 with heap:=h' }:=by
  intro h' hk
  have i1:=I1.grow (γ':=γ1) (s':={ s1 with heap:=h' }) rfl rfl hk (λ_ _ _=>rfl) λa t g q=>by
   obtain ⟨⟨o,ho⟩,_⟩:=I1.dom a t g
   rw [q] at ho; cases ho
  exact ⟨i1,adv_grow (s':={ s1 with heap:=h' }) hk (λ_ _ _=>rfl) λa t g=>(I1.dom a t g).1⟩
 rcases hr with rfl | ⟨rfl,hnd,h23⟩
 ·show wpAny _ _ (do assignAll (.ref t) [assign (.Tuple elts kk tp) env]; (pure Flow.next:Sem Flow)) _ _ _
  refine wpAny_bind ?_
  show wpAny _ _ (do standAt tp; unpack (.ref t) (assignEach elts env)) _ _ _
  refine wpAny_bind (wpAny_standAt ?_)
  obtain ⟨ts,t1,t2,t3,t4,t5⟩:=assignEach_names (env:=env) hn
  unfold unpack
  rw [t1,t3,t4]
  refine wpAny_bind (wpAny_holding (items _ hl λh' hk=>?_))
  obtain ⟨I2,A2⟩:=grown h' hk
  refine wp_bindT H (λp hp=>t5 p hp) ⟨?_,?_⟩ I2 e2 (q.mono A2.kept) λs3 I3 A3=>wpAny_pure (hQ _ _ _ _ I3 ((A1.trans A2).toAdvS.trans A3) trivial)
  ·rw [←hl,←t2,List.length_map]
  ·intro p hp
   refine hx (p.1.1,p.2) ?_
   rw [←t2]
   rw [List.zip_map_left]
   exact List.mem_map.mpr ⟨p,hp,rfl⟩
 ·show wpAny _ _ (do rule "assign.swapped-stores"; let items ←unpackItems (.ref t) xs.length none; assignInOrder (xs.reverse.map λn=>bindName env n) items.reverse; (pure Flow.next:Sem Flow)) _ _ _
  refine wpAny_bind (wpAny_rule (wpAny_bind (items _ hl λh' hk=>wpAny_bind ?_)))
  obtain ⟨I2,A2⟩:=grown h' hk
  have e3:bindT is.reverse l.reverse σ1=some σ':=by
   rw [←e2]
   rcases h23 with h2 | h2
   ·obtain ⟨i,j,rfl⟩:=len2 h2
    obtain ⟨u,v,rfl⟩:=len2 hlen
    simp only [List.nodup_cons,List.mem_cons,List.not_mem_nil,or_false] at hnd
    exact (bindT_rev2 hnd.1 σ1).symm
   ·obtain ⟨i,j,k,rfl⟩:=len3 h2
    obtain ⟨u,v,w,rfl⟩:=len3 hlen
    simp only [List.nodup_cons,List.mem_cons,List.not_mem_nil,or_false,not_or] at hnd
    exact (bindT_rev3 hnd.1.1 hnd.1.2 hnd.2.1 σ1).symm
  have:=wp_bindT (C:=C) (A:=A) (E:=E) (Q:=λ_ s'=>wpAny (model C.prog C.w) A (pure Flow.next) Q E s') (ts:=xs.reverse.map λn=>(n,λv=>bindName env n v)) (is:=is.reverse) H (λp hp=>by
    obtain ⟨x,_,rfl⟩:=List.mem_map.mp hp
    intro A E s Q v h
    exact wpAny_bindName h) ⟨by simp [hl],λq hq=>by
    rw [List.zip_map_left] at hq
    obtain ⟨p,hp,rfl⟩:=List.mem_map.mp hq
    refine hx p ?_
    have:(xs.zip is).reverse=xs.reverse.zip is.reverse:=List.reverse_zipWith hl
    rw [←this] at hp
    exact List.mem_reverse.mp hp⟩ I2 e3 (q.mono A2.kept).reverse λs3 I3 A3=>wpAny_pure (a:=Flow.next) (hQ _ _ .next _ I3 ((A1.trans A2).toAdvS.trans A3) trivial)
  rw [List.map_map] at this
  exact this
theorem TS_ret {x:Expr} {pos:Pos} {a:ME} (ha:TE C pl n (eval x env) (evE T cf a)):TS C pl n (exec (.Return (some x) pos) env) (exS T cf (.ret a)):=by
 intro A E Q γ sg σ s z σ' hR I e hQ
 refine ka_inv (r:=evE T cf a σ) e λy σ1 e1 e=>?_
 obtain ⟨rfl,rfl⟩:=si2 (e:some (Fl.ret y,σ1)=some (z,σ'))
 rw [exec_Return_some]
 exact wpN_standAt (wpN_bind (ha hR I e1 λγ1 sg1 v1 s1 I1 A1 R1 N1=>wpN_pure (hQ _ _ _ _ I1 A1.toAdvS ⟨R1,N1⟩)))
theorem TS_expr {x:Expr} {pos:Pos} {a:ME} (H:EnvOk pl cx env) (hc:isComp x=false) (ha:TE C pl n (eval x env) (evE T cf a)):TS C pl n (exec (.Expr x pos) env) (exS T cf (.expr a)):=by
 intro A E Q γ sg σ s z σ' hR I e hQ
 have hi:interactive env=false:=by
  unfold interactive
  rw [H.scope,H.kind]; rfl
 rw [exec_Expr _ _ _ hi (swapsWith_no hc _ _)]
 refine ka_inv (r:=evE T cf a σ) e λy σ1 e1 e=>?_
 refine sE_inv e λhy e=>?_
 obtain ⟨rfl,rfl⟩:=pair_inj e
 refine wpN_standAt (wpN_bind (ha hR I e1 λγ1 sg1 v1 s1 I1 A1 R1 N1=>?_))
 have hv:∀ a,v1≠.ref a:=by
  obtain rfl | ⟨b,rfl⟩:=hy
  ·obtain rfl:v1=.none:=R1.inv
   nofun
  ·obtain rfl:v1=.bool b:=R1.inv
   nofun
 rw [dropValue_plain hv]
 exact wpN_pure (hQ _ _ .next _ I1 A1.toAdvS trivial)
theorem TS_ite {x:Expr} {b o:List Stmt} {pos:Pos} {c:ME} {mb mo:MSs} (hc:TT C pl n (isTrue x env (eval x env)) (evE T cf c)) (hb:TS C pl n (execs b env) (exSs T cf mb)) (ho:TS C pl n (execs o env) (exSs T cf mo)) :
  TS C pl n (exec (.If x b o pos) env) (exS T cf (.ite c mb mo)):=by
 intro A E Q γ sg σ s z σ' hR I e hQ
 rw [exec_If]
 refine kite_inv (r:=evE T cf c σ) (a:=exSs T cf mb) (b:=exSs T cf mo) e λy σ1 e1 e=>?_
 rcases e with ⟨ht,e⟩ | ⟨ht,e⟩
 ·refine wpN_standAt (wpN_bind (hc hR I e1 ht λγ1 sg1 s1 I1 A1=>?_))
  exact hb hR I1 e λγ2 sg2 f2 s2 I2 A2 F2=>hQ _ _ _ _ I2 (A1.toAdvS.trans A2) (F2.up A1.there)
 ·refine wpN_standAt (wpN_bind (hc hR I e1 ht λγ1 sg1 s1 I1 A1=>?_))
  exact ho hR I1 e λγ2 sg2 f2 s2 I2 A2 F2=>hQ _ _ _ _ I2 (A1.toAdvS.trans A2) (F2.up A1.there)
end
section
variable {C:Cfg} {pl:Nat→Option Place} {n:Nat} {T:Tabs} {cf:CF} {env:Env} {cx:Cx}
variable {A:Around} {E:Value→Shared→Prop} {γ γ':Gam} {sg sg':List Addr} {σ σ':St} {s:Shared} {k:Nat}
theorem IsCell_fun {h:Heap} {c:Addr} {v w:Option Value} (x:h.IsCell c v) (y:h.IsCell c w):v=w:=by
 obtain ⟨o,ho,hd⟩:=x
 obtain ⟨o',ho',hd'⟩:=y
 rw [ho] at ho'; cases ho'
 have:=hd.symm.trans hd'
 injection this
theorem Place.has_fun {h:Heap}:∀ {p:Place} {v w},p.has h v→p.has h w→v=w
 | .loc _ x,_,_,⟨m,a,e⟩,⟨m',a',e'⟩=>by
  rw [a.agree a' x,e'] at e; cases e; rfl
 | .cell _,_,_,a,b=>by have:=IsCell_fun a b; cases this; rfl
theorem Inv.has_adv {i:Nat} {p:Place} {v:Value} {s':Shared} (I:Inv C pl γ sg σ s) (hp:pl i=some p) (A:Adv γ sg s γ' sg' s') (h:p.has s.heap v):p.has s'.heap v:=by
 have ok:=I.ok i p hp
 obtain ⟨o,ho⟩:=Place.ok_at ok
 refine Place.has_to h λo' ho'=>?_
 rcases Place.ok_tag ok with q | q
 ·exact (A.names _ _ _ q (.inl rfl) ho').2
 ·exact (A.names _ _ _ q (.inr rfl) ho').2
theorem Inv.wroteVar {i:Nat} {p:Place} {a:Addr} {lv:LV} {s':Shared} (I:Inv C pl γ sg σ s) (hp:pl i=some p) (hv:p.has s.heap (.ref a)) (hg:γ a=some (.var i)) (h1:s'.gens=s.gens) (h2:s'.os=s.os) (hs:Heap.SameBut a s.heap s'.heap) (ht:∃ o,s'.heap.get? a=some o)
  (new:LVOk γ sg s'.heap (.var i) lv (.ref a)):Inv C pl γ sg (σ.set i lv) s'∧AdvS γ sg s γ sg s':=by
 have keep:∀ b o t,γ b=t→t≠some (.var i)→s.heap.get? b=some o→s'.heap.get? b=some o:=λb o t e n g=>by
  have:b≠a:=λq=>by subst q; exact n (e.symm.trans hg)
  exact (hs.2 b this).trans g
 have kp:Kept γ sg s.heap γ sg s'.heap:=⟨λ_ _ e _=>e,λb o e g=>keep b o _ e (by nofun) g,List.prefix_refl _⟩
 have there:∀ b o,s.heap.get? b=some o→∃ o',s'.heap.get? b=some o':=λb o g=>by
  by_cases q:b=a
  ·subst q; exact ht
  ·exact ⟨o,(hs.2 b q).trans g⟩
 refine ⟨⟨h1.trans I.gens,h2.trans I.os,λb o e=>?_,λb t e=>?_,λj q e=>?_,I.inj,λj z e=>?_,I.len,λk o b e1 e2=>?_⟩,⟨there,kp,λ_ e=>e,λb o e g=>keep b o _ e (by nofun) g⟩⟩
 ·have hb:=I.keep b o e
  have hn:γ b=none:=by
   cases q:γ b with
   | none=>rfl
   | some t=>have:=(I.dom b t q).2; rw [e] at this; cases this
  exact keep b o _ hn (by nofun) hb
 ·obtain ⟨⟨o,h1⟩,h2⟩:=I.dom b t e
  exact ⟨there b o h1,h2⟩
 ·refine Place.ok_to (I.ok j q e) rfl λo h=>?_
  rcases Place.ok_tag (I.ok j q e) with t | t <;> exact keep _ o _ t (by nofun) h
 ·rcases St.get_set _ _ _ _ _ e with ⟨rfl,rfl⟩ | ⟨hne,e⟩
  ·refine ⟨p,.ref a,hp,Place.has_to hv λo h=>?_,new⟩
   rcases Place.ok_tag (I.ok i p hp) with t | t <;> exact keep _ o _ t (by nofun) h
  ·obtain ⟨q,u,h1,h2,h3⟩:=I.vars j z e
   refine ⟨q,u,h1,Place.has_to h2 λo h=>?_,h3.mono kp λb o e1 e2=>⟨e1,keep b o _ e1 (by intro e; cases e; exact hne rfl) e2⟩⟩
   rcases Place.ok_tag (I.ok j q h1) with t | t <;> exact keep _ o _ t (by nofun) h
 ·refine (I.store k o b e1 e2).mono kp λb o q e2=>⟨rfl,?_⟩
  rcases q with q | ⟨f,q⟩ | q <;> exact keep b o _ q (by nofun) e2
theorem N_drop {x:Expr} {pos:Pos} {Q:Flow→Shared→Prop} {M:Model} (H:EnvOk pl cx env) (hc:isComp x=false) (h:wpN M A (eval x env) (λv s'=>v=.none∧Q .next s') E s):wpN M A (exec (.Expr x pos) env) Q E s:=by
 have hi:interactive env=false:=by
  unfold interactive
  rw [H.scope,H.kind]; rfl
 rw [exec_Expr _ _ _ hi (swapsWith_no hc _ _)]
 refine wpN_standAt (wpN_bind (wpN_mono h (λv s' q=>?_) λ_ _ z=>z))
 obtain ⟨rfl,q⟩:=q
 rw [dropValue_plain (by nofun)]
 exact wpN_pure q
theorem TS_append {x:Str} {i:Nat} {p ap cp pos:Pos} {arg:Expr} {a:ME} (H:EnvOk pl cx env) (hi:cx.ix.lookup x=some i) (hk:isVarKind cx.scope x=true) (hc:(x == ("__classdict__":Str))=false) (hd:(x == ("__debug__":Str))=false)
  (hp:plainE arg=true) (hline:(ap.endLine == cp.line)=true) (ha:TE C pl n (eval arg env) (evE T cf a)) :
  TS C pl n (exec (.Expr (.Call (.Attribute (.Name x p) "append" ap) [arg] [] cp) pos) env) (exS T cf (.append i a)):=by
 intro A E Q γ sg σ s z σ' hR I e hQ
 have hpl:[arg].all plainE=true:=by rw [List.all_cons,hp]; rfl
 refine N_drop H rfl ?_
 obtain ⟨l0,y,σ1,l,hv0,e1,hl,hok,e⟩ | ⟨l0,nn,σ1,l,hv0,e1,hl,hok,e⟩:=kap_inv (e:=evE T cf a) e
 ·obtain ⟨rfl,rfl⟩:=pair_inj e
  have e0:evEs T cf (.cons a .nil) σ=some ([y.frz],σ1):=by
   show kcons (evE T cf a σ) (evEs T cf .nil)=_
   rw [e1]; rfl
  obtain ⟨pp,v,hpp,hhas,hlv⟩:=I.vars i _ hv0
  obtain ⟨a0,vs0,m0,rfl,g0,o0,_⟩:=hlv
  refine N_meth_builtin rfl hpl (by simp) hline F.plainAttrs_list slot_list_append F.type_list_append (.of (wpAny_Name (wp_load H hi hk hc hpp hhas ?_) hd))
  refine ⟨⟨_,o0,rfl⟩,(λb e=>by obtain rfl:=ref_inj e; exact ⟨_,o0,rfl⟩),?_⟩
  refine wp_args (TEs.one hpl ha) (plain_all hpl) hR I e0 λγ1 sg1 us s1 I1 A1 R1=>?_
  obtain ⟨v1,rfl,q⟩:=R1.inv1
  obtain ⟨pq,v1',hpq,hhas1,hlv1⟩:=I1.vars i _ hl
  obtain rfl:=sj (hpp.symm.trans hpq)
  obtain rfl:=Place.has_fun (I.has_adv hpp A1 hhas) hhas1
  obtain ⟨a1,vs,m,ev,g1,o1,r1⟩:=hlv1
  obtain rfl:=ref_inj ev
  refine .of (wpAny_list_append_plain ⟨m,o1⟩ (λh' hl' hs=>?_) (by rw [List.size_toArray,r1.length]; exact sizeLine_ok hok))
  obtain ⟨m',o'⟩:=hl'
  rw [show vs.toArray.push v1=(vs ++ [v1]).toArray by simp] at o'
  have kp:Kept γ1 sg1 s1.heap γ1 sg1 h':=⟨λ_ _ e _=>e,λb o e g=>(hs.2 b (λq=>by subst q; exact nsm (e.symm.trans g1))).trans g,List.prefix_refl _⟩
  obtain ⟨I2,A2⟩:=I1.wroteVar (s':={ s1 with heap:=h' }) hpp hhas1 g1 rfl rfl hs ⟨_,o'⟩ (lv:=.olist (l ++ [y.frz])) ⟨a0,vs ++ [v1],m',rfl,g1,o',(r1.mono kp).append (Reps.one (q.mono kp))⟩
  exact ⟨rfl,hQ _ _ .next _ I2 (A1.toAdvS.trans A2) trivial⟩
 ·obtain ⟨rfl,rfl⟩:=pair_inj e
  have e0:evEs T cf (.cons a .nil) σ=some ([.int nn],σ1):=by
   show kcons (evE T cf a σ) (evEs T cf .nil)=_
   rw [e1]; rfl
  obtain ⟨pp,v,hpp,hhas,hlv⟩:=I.vars i _ hv0
  obtain ⟨a0,rfl,g0,o0⟩:=hlv
  refine N_meth_builtin rfl hpl (by simp) hline ba_plainAttrs ba_slot_append ba_type_append (.of (wpAny_Name (wp_load H hi hk hc hpp hhas ?_) hd))
  refine ⟨⟨_,o0,rfl⟩,(λb e=>by obtain rfl:=ref_inj e; exact ⟨_,o0,rfl⟩),?_⟩
  refine wp_args (TEs.one hpl ha) (plain_all hpl) hR I e0 λγ1 sg1 us s1 I1 A1 R1=>?_
  obtain ⟨v1,rfl,q⟩:=R1.inv1
  obtain ⟨t1,rfl⟩:=q.inv
  obtain ⟨pq,v1',hpq,hhas1,hlv1⟩:=I1.vars i _ hl
  obtain rfl:=sj (hpp.symm.trans hpq)
  obtain rfl:=Place.has_fun (I.has_adv hpp A1 hhas) hhas1
  obtain ⟨a1,ev,g1,o1⟩:=hlv1
  obtain rfl:=ref_inj ev
  refine ba_append o1 hok.1 hok.2.1 (by have:=okLen_le hok.2.2; rw [sizeLine_eq]; omega) λh' o' hs=>?_
  obtain ⟨I2,A2⟩:=I1.wroteVar (s':={ s1 with heap:=h' }) hpp hhas1 g1 rfl rfl hs ⟨_,o'⟩ (lv:=.obarr (l ++ [UInt8.ofNat nn.toNat])) ⟨a0,rfl,g1,o'⟩
  exact ⟨rfl,hQ _ _ .next _ I2 (A1.toAdvS.trans A2) trivial⟩
theorem TS_extend {x:Str} {i:Nat} {p ap cp pos:Pos} {arg:Expr} {a:ME} (H:EnvOk pl cx env) (hi:cx.ix.lookup x=some i) (hk:isVarKind cx.scope x=true) (hc:(x == ("__classdict__":Str))=false) (hd:(x == ("__debug__":Str))=false)
  (hp:plainE arg=true) (hline:(ap.endLine == cp.line)=true) (ha:TE C pl n (eval arg env) (evE T cf a)) :
  TS C pl n (exec (.Expr (.Call (.Attribute (.Name x p) "extend" ap) [arg] [] cp) pos) env) (exS T cf (.extend i a)):=by
 intro A E Q γ sg σ s z σ' hR I e hQ
 have hpl:[arg].all plainE=true:=by rw [List.all_cons,hp]; rfl
 refine N_drop H rfl ?_
 obtain ⟨l0,y,σ1,l,hv0,e1,hl,b,hb,hok,e⟩:=kex_inv (e:=evE T cf a) e
 obtain ⟨rfl,rfl⟩:=pair_inj e
 have e0:evEs T cf (.cons a .nil) σ=some ([y.frz],σ1):=by
  show kcons (evE T cf a σ) (evEs T cf .nil)=_
  rw [e1]; rfl
 obtain ⟨pp,v,hpp,hhas,hlv⟩:=I.vars i _ hv0
 obtain ⟨a0,rfl,g0,o0⟩:=hlv
 refine N_meth_builtin rfl hpl (by simp) hline ba_plainAttrs ba_slot_extend ba_type_extend (.of (wpAny_Name (wp_load H hi hk hc hpp hhas ?_) hd))
 refine ⟨⟨_,o0,rfl⟩,(λb e=>by obtain rfl:=ref_inj e; exact ⟨_,o0,rfl⟩),?_⟩
 refine wp_args (TEs.one hpl ha) (plain_all hpl) hR I e0 λγ1 sg1 us s1 I1 A1 R1=>?_
 obtain ⟨v1,rfl,q⟩:=R1.inv1
 have hL:Lends s1 v1 b:=by
  obtain hb | hb:=hb <;> rw [hb] at q
  ·obtain ⟨t,rfl⟩:=q.inv; exact .bytes _ _
  ·obtain ⟨a,rfl,_,o⟩:=q.inv; exact .barr o
 obtain ⟨pq,v1',hpq,hhas1,hlv1⟩:=I1.vars i _ hl
 obtain rfl:=sj (hpp.symm.trans hpq)
 obtain rfl:=Place.has_fun (I.has_adv hpp A1 hhas) hhas1
 obtain ⟨a1,ev,g1,o1⟩:=hlv1
 obtain rfl:=ref_inj ev
 refine ba_extend o1 hL (by have:=okLen_le hok; rw [sizeLine_eq]; omega) λh' o' hs=>?_
 obtain ⟨I2,A2⟩:=I1.wroteVar (s':={ s1 with heap:=h' }) hpp hhas1 g1 rfl rfl hs ⟨_,o'⟩ (lv:=.obarr (l ++ b)) ⟨a0,rfl,g1,o'⟩
 exact ⟨rfl,hQ _ _ .next _ I2 (A1.toAdvS.trans A2) trivial⟩
theorem TS_reverse {x:Str} {i:Nat} {p ap cp pos:Pos} (H:EnvOk pl cx env) (hi:cx.ix.lookup x=some i) (hk:isVarKind cx.scope x=true) (hc:(x == ("__classdict__":Str))=false) (hd:(x == ("__debug__":Str))=false) (hline:(ap.endLine == cp.line)=true) :
  TS C pl n (exec (.Expr (.Call (.Attribute (.Name x p) "reverse" ap) [] [] cp) pos) env) (exS T cf (.reverse i)):=by
 intro A E Q γ sg σ s z σ' hR I e hQ
 refine N_drop H rfl ?_
 refine rvs_inv e λl hv0 hok e=>?_
 obtain ⟨rfl,rfl⟩:=pair_inj e
 obtain ⟨pp,v,hpp,hhas,hlv⟩:=I.vars i _ hv0
 obtain ⟨a0,vs,m,rfl,g0,o0,r0⟩:=hlv
 refine N_Call_method (args:=[]) rfl rfl (by simp) hline (.of (wpAny_Name (wp_load H hi hk hc hpp hhas ?_) hd))
 refine ⟨.builtin "list.reverse",[.ref a0],λpl' Q' q=>getMethod_builtin ⟨_,o0,rfl⟩ F.plainAttrs_list F.slot_list_reverse F.type_list_reverse (λb e=>by obtain rfl:=ref_inj e; exact ⟨_,o0,rfl⟩) q,?_⟩
 refine .of (P.reverse_list (items:=vs.toArray) (n:=m) o0 ?_ (by rw [List.size_toArray,r0.length]; exact sizeLine_ok hok))
 have o':=PySem.IsL.update (h:=s.heap) (l:=a0) (items:=vs.toArray) (n:=m) o0 λx=>x.reverse
 have e2:vs.toArray.reverse=vs.reverse.toArray:=by simp
 rw [e2] at o'
 have hs:Heap.SameBut a0 s.heap (s.heap.update a0 (Obj.mapSeq λx=>x.reverse)):=Heap.SameBut.update ..
 have kp:Kept γ sg s.heap γ sg (s.heap.update a0 (Obj.mapSeq λx=>x.reverse)):=⟨λ_ _ e _=>e,λb o e g=>(hs.2 b (λq=>by subst q; exact nsm (e.symm.trans g0))).trans g,List.prefix_refl _⟩
 obtain ⟨I2,A2⟩:=I.wroteVar (s':={ s with heap:=s.heap.update a0 (Obj.mapSeq λx=>x.reverse) }) hpp hhas g0 rfl rfl hs ⟨_,o'⟩ (lv:=.olist l.reverse) ⟨a0,vs.reverse,_,rfl,g0,o',(r0.mono kp).reverse⟩
 exact ⟨rfl,hQ _ _ .next _ I2 A2 trivial⟩
end
end Mine
end
section
open PySem PySem.W PyProof.Rows PySem.Calls Builtin Builtin.ObjectAttr
open Sem (wp)
namespace Mine
section
variable {C:Cfg} {pl:Nat→Option Place} {n:Nat} {T:Tabs} {cf:CF} {env:Env} {cx:Cx}
variable {A:Around} {E:Value→Shared→Prop} {γ γ':Gam} {sg sg':List Addr} {σ σ':St} {s:Shared} {k:Nat}
theorem sto_ro {o:SObj} (h:σ.sto k=some o):σ.ro=false∧σ.store[k]?=some o:=by
 unfold St.sto at h
 cases q:σ.ro with
 | true=>rw [q,if_pos rfl] at h; cases h
 | false=>rw [q,if_neg (by decide)] at h; exact ⟨rfl,h⟩
noncomputable def stag (t:Tag):Option Nat:=Tag.casesOn (motive:=λ_=>Option Nat) t none none (λ_=>none) some (λk _=>some k) some none
theorem stag3 {γ:Gam} {b:Addr} {k:Nat} (h:γ b=some (.sd k)∨(∃ f,γ b=some (.sf k f))∨γ b=some (.sl k)):∃ u,γ b=some u∧stag u=some k:=by
 rcases h with h | ⟨f,h⟩ | h
 ·exact ⟨_,h,rfl⟩
 ·exact ⟨_,h,rfl⟩
 ·exact ⟨_,h,rfl⟩
theorem Inv.wroteStore {b:Addr} {t:Tag} {o':SObj} {a:Addr} {s':Shared} (I:Inv C pl γ sg σ s) (ha:sg[k]?=some a) (hro:σ.ro=false) (hg:γ b=some t) (ht:t=.sd k∨(∃ f,t=.sf k f)∨t=.sl k) (h1:s'.gens=s.gens) (h2:s'.os=s.os)
  (hs:Heap.SameBut b s.heap s'.heap) (hx:∃ o,s'.heap.get? b=some o) (new:SObjOk C γ sg s'.heap k o' a):Inv C pl γ sg { σ with store:=σ.store.set k o' } s'∧AdvS γ sg s γ sg s':=by
 have keep:∀ b' o u,γ b'=u→u≠some t→s.heap.get? b'=some o→s'.heap.get? b'=some o:=λb' o u e n g=>by
  have:b'≠b:=λq=>by subst q; exact n (e.symm.trans hg)
  exact (hs.2 b' this).trans g
 have st:stag t=some k:=by rcases ht with rfl | ⟨f,rfl⟩ | rfl <;> rfl
 have nt:∀ u:Tag,stag u=none→some u≠some t:=λu hu e=>nomatch (hu.symm.trans ((congrArg stag (sj e)).trans st))
 have kp:Kept γ sg s.heap γ sg s'.heap:=⟨λ_ _ e _=>e,λb o e g=>keep b o _ e (by nofun) g,List.prefix_refl _⟩
 have there:∀ b' o,s.heap.get? b'=some o→∃ o',s'.heap.get? b'=some o':=λb' o g=>by
  by_cases q:b'=b
  ·subst q; exact hx
  ·exact ⟨o,(hs.2 b' q).trans g⟩
 refine ⟨⟨h1.trans I.gens,h2.trans I.os,λb' o e=>?_,λb' t e=>?_,λj q e=>?_,I.inj,λj z e=>?_,?_,λk' o b' e1 e2=>?_⟩,⟨there,kp,λ_ e=>e,λb o e g=>keep b o _ e (nt _ rfl) g⟩⟩
 ·have hb:=I.keep b' o e
  have hn:γ b'=none:=by
   cases q:γ b' with
   | none=>rfl
   | some t=>have:=(I.dom b' t q).2; rw [e] at this; cases this
  exact keep b' o _ hn (by nofun) hb
 ·obtain ⟨⟨o,h1⟩,h2⟩:=I.dom b' t e
  exact ⟨there b' o h1,h2⟩
 ·refine Place.ok_to (I.ok j q e) rfl λo h=>?_
  rcases Place.ok_tag (I.ok j q e) with u | u
  ·exact keep _ o _ u (nt _ rfl) h
  ·exact keep _ o _ u (nt _ rfl) h
 ·obtain ⟨q,u,h1,h2,h3⟩:=I.vars j z e
  refine ⟨q,u,h1,Place.has_to h2 λo h=>?_,h3.mono kp λb o e1 e2=>⟨e1,keep b o _ e1 (nt _ rfl) e2⟩⟩
  rcases Place.ok_tag (I.ok j q h1) with u | u
  ·exact keep _ o _ u (nt _ rfl) h
  ·exact keep _ o _ u (nt _ rfl) h
 ·show sg.length=(σ.store.set k o').length
  rw [List.length_set]; exact I.len
 ·have e3:(if σ.ro then none else (σ.store.set k o')[k']?)=some o:=e1
  rw [hro,if_neg (by decide),List.getElem?_set] at e3
  split at e3
  ·rename_i q; subst q
   split at e3
   ·cases e3
    rw [ha] at e2; cases e2
    exact new
   ·cases e3
  ·rename_i q
   refine (I.store k' o b' (by unfold St.sto; rw [hro,if_neg (by decide)]; exact e3) e2).mono kp λb'' o' q' e2=>⟨rfl,?_⟩
   obtain ⟨u,q',hu⟩:=stag3 q'
   exact keep b'' o' _ q' (λe=>q (sj (st.symm.trans ((congrArg stag (sj e)).symm.trans hu)))) e2
theorem wp_setAttr (G:CfgOk C) (I:Inv C pl γ sg σ s) {c fs a da es m f x v} (hk:σ.sto k=some (.inst c fs)) (D:InstIs C γ sg s.heap k c fs a da es m) (hf:f < C.nf) (R:LVOk γ sg s.heap (.sf k f) x v) (hz:C.nf≤900) {Q:Unit→Shared→Prop}
  (hQ:KU C pl γ sg s { σ with store:=σ.store.set k (.inst c (fset fs f x)) } Q):wpAny (model C.prog C.w) A (setAttr (.ref a) (C.fname f) v) Q E s:=by
 obtain ⟨q1,q2,q3,q4,q5,q6⟩:=clsK_of G c
 have X:=I.X G
 have ht:takerIn C.K (C.clsA c) (C.fname f)=some none:=by unfold takerIn; rw [G.fld c f hf]; rfl
 have IA:InstAt s.heap a (instObj (C.clsA c) da) (C.clsA c) (some (dictOf es m)):=D.inst
 refine set_plain X IA q4 (osa_open (s:={ s with toks:=s.toks + 1 }) X IA q5 ht λbb=>?_)
 obtain ⟨cd,hcd,hdd⟩:=any_some q3
 have hlen:es.length≤C.nf:=by rw [D.flds.len,←List.length_map (f:=(·.1))]; exact nodup_len _ _ D.nod λx hx=>by obtain ⟨p,hp,rfl⟩:=List.mem_map.mp hx; exact D.lt p hp
 have new:dictOf es m={ cls:=.type "dict",data:=.dict es.toArray m }:=rfl
 refine wpAny_bind (wpAny_pure (wpAny_bind (wpAny_bind (wpAny_loadPart D.obj (wpAny_bind (Looks.here (s:={ s with toks:=s.toks + 1 }) (looks_clsIn X hcd) ?_))))))
 rw [hdd]
 refine wpAny_pure (a:=some da) (wpAny_bind (wpAny_pure (wpAny_bind ?_)))
 unfold nsSet
 refine wpAny_bind (wpAny_bind (wpAny_askSetting (wpAny_pure (wpAny_bind (wpAny_mkText (wpAny_bind (wpAny_loadPart D.dict ?_)))))))
 have cc:aRefKeyMayBeTheName (C.fname f) es.toArray=false:=by
  rw [aRefKeyMayBeTheName_at,←Array.any_toList,←Array.any_toList]
  show (!es.any _ && es.any (·.refKey))=false
  rw [D.flds.refs,Bool.and_false]
 show wpAny _ _ (if aRefKeyMayBeTheName (C.fname f) es.toArray=true then _ else _) _ _ _
 rw [cc,if_neg (by decide)]
 refine wpAny_updatePart D.dict ?_
 have hd':=Heap.get?_update_self (h:=s.heap) (Obj.putName (C.fname f) (PyData.keyHash C.w.params (C.fname f)) (.str (C.fname f) (s.toks + 1)) v) D.dict (by rw [putName_dict]; rfl)
 rw [putName_dict] at hd'
 have hs:Heap.SameBut da s.heap (s.heap.update da (Obj.putName (C.fname f) (PyData.keyHash C.w.params (C.fname f)) (.str (C.fname f) (s.toks + 1)) v)):=Heap.SameBut.update ..
 refine wpAny_bind (wpAny_lookBehind hd' (pastItsLine_dict (by have:=putL_len (name:=C.fname f) (hsh:=PyData.keyHash C.w.params (C.fname f)) (key:=.str (C.fname f) (s.toks + 1)) (v:=v) es; rw [List.size_toArray,sizeLine_eq]; omega)) ?_)
 have kp:Kept γ sg s.heap γ sg (s.heap.update da (Obj.putName (C.fname f) (PyData.keyHash C.w.params (C.fname f)) (.str (C.fname f) (s.toks + 1)) v)):=⟨λ_ _ e _=>e,λb o e g=>(hs.2 b (λq=>by subst q; rw [D.tag] at e; cases e)).trans g,List.prefix_refl _⟩
 have mono:∀ g y u,LVOk γ sg s.heap (.sf k g) y u→LVOk γ sg (s.heap.update da (Obj.putName (C.fname f) (PyData.keyHash C.w.params (C.fname f)) (.str (C.fname f) (s.toks + 1)) v)) (.sf k g) y u:=λg y u h=>h.mono kp λb o e1 e2=>⟨e1,(hs.2 b (λq=>by subst q; rw [D.tag] at e1; cases e1)).trans e2⟩
 have key:=I.wroteStore (s':={ s with heap:=s.heap.update da (Obj.putName (C.fname f) (PyData.keyHash C.w.params (C.fname f)) (.str (C.fname f) (s.toks + 1)) v),toks:=s.toks + 1 + 1 }) (b:=da) (o':=.inst c (fset fs f x)) D.at_ (sto_ro hk).1 D.tag (.inl rfl) rfl rfl hs ⟨_,hd'⟩
  ⟨da,_,_,D.froz,(hs.2 a (λq=>by have:=D.froz; rw [q,D.tag] at this; cases this)).trans D.obj,D.tag,hd',D.flds.put G hf (λg y u _ h=>mono g y u h) (mono f x v R) D.nod D.lt,fset_nodup D.nod,fset_lt hf D.lt⟩
 exact wpAny_pure (hQ _ key.1 key.2)
theorem putField_some {f:Nat} {x:LV} (e:σ.putField k f x=some σ'):∃ c fs,σ.sto k=some (.inst c fs)∧σ'={ σ with store:=σ.store.set k (.inst c (fset fs f x)) }:=by
 unfold St.putField at e
 cases hs:σ.sto k with
 | none=>rw [hs] at e; exact nsm e
 | some o=>rw [hs] at e; cases o with
  | inst c fs=>exact ⟨c,fs,rfl,(sj e).symm⟩
  | slist=>exact nsm e
theorem TS_setAttr (G:CfgOk C) (hz:C.nf≤900) {x:Str} {i f:Nat} {p ap pos:Pos} {value:Expr} {a:ME} (H:EnvOk pl cx env) (hi:cx.ix.lookup x=some i) (hk:isVarKind cx.scope x=true) (hcd:(x == ("__classdict__":Str))=false) (hd:(x == ("__debug__":Str))=false) (hf:f < C.nf)
  (hc:isComp value=false) (ha:TE C pl n (eval value env) (evE T cf a)):TS C pl n (exec (.Assign [.Attribute (.Name x p) (C.fname f) ap] value pos) env) (exS T cf (.setAttr i f a)):=by
 intro A E Q γ sg σ s z σ' hR I e hQ
 refine ka_inv (r:=evE T cf a σ) e λy σ1 e1 e=>?_
 refine sF_inv e λkk σ2 hv e2 e=>?_
 obtain ⟨rfl,rfl⟩:=pair_inj e
 obtain ⟨c,fs,hk1,rfl⟩:=putField_some e2
 refine N_Assign hc (r:=none) (by rfl) (ha hR I e1 λγ1 sg1 v1 s1 I1 A1 R1 N1=>.of ?_)
 obtain ⟨γ2,I2,A2,R2⟩:=own_as I1 (λa t e=>(I.dom a t e).1) A1 R1 N1 (.sf kk f)
 obtain ⟨pp,v,hpp,hhas,hlv⟩:=I2.vars i _ hv
 obtain ⟨ad,rfl,hsg⟩:=Rep.inv hlv
 obtain ⟨da,es,m,D⟩:=I2.inst hk1 hsg
 show wpAny _ _ (do assignAll v1 [assign (.Attribute (.Name x p) (C.fname f) ap) env]; (pure Flow.next:Sem Flow)) _ _ _
 refine wpAny_bind ?_
 show wpAny _ _ (assign (.Attribute (.Name x p) (C.fname f) ap) env v1) _ _ _
 rw [arm_assign_Attribute]
 refine wpAny_bind (wpAny_holding (wpAny_Name (wp_load H hi hk hcd hpp hhas (wpAny_bind (wpAny_standAt (wpAny_bind (wpAny_holding ?_))))) hd))
 exact wp_setAttr G I2 hk1 D hf R2 hz λs3 I3 A3=>wpAny_release (wpAny_pure (hQ _ _ .next _ I3 (A2.toAdvS.trans A3) trivial))
noncomputable def augOp:Operator→Bool
 | .Add=>true
 | .Sub=>true
 | .RShift=>true
 | _=>false
theorem wp_inplace {op:Operator} {a b:Int} {t u:Tok} {r:LV} (ho:augOp op=true) (e:binop op (.int a) (.int b)=some r) {Q:Value→Shared→Prop}
  (hQ:∀ c k,r=.val (.int c)→Q (.int c k) { s with toks:=s.toks + 1 }):wpAny (model C.prog C.w) A (inplaceOp op (.int a t) (.int b u)) Q E s:=by
 cases op with
 | Add=>obtain rfl:=sj e; exact PyProof.Rows.iadd_int (hQ _ _ rfl)
 | Sub=>obtain rfl:=sj e; exact PyProof.Rows.isub_int (hQ _ _ rfl)
 | RShift=>obtain ⟨hb,rfl⟩:=ite_some (c:=0≤b) e; exact PyProof.Rows.irshift_int hb (hQ _ _ rfl)
 | _=>cases ho
theorem TS_aug {x:Str} {i:Nat} {op:Operator} {p pos:Pos} {value:Expr} {a:ME} (H:EnvOk pl cx env) (hi:cx.ix.lookup x=some i) (hk:isVarKind cx.scope x=true) (hk2:isStoreKind cx.scope x=true) (hcd:(x == ("__classdict__":Str))=false) (ho:augOp op=true)
  (ha:TE C pl n (eval value env) (evE T cf a)):TS C pl n (exec (.AugAssign (.Name x p) op value pos) env) (exS T cf (.aug i op a)):=by
 intro A E Q γ sg σ s z σ' hR I e hQ
 refine kaug_inv (e:=evE T cf a) e λna nb σ1 σ2 r e0 e1 e2 e=>?_
 obtain ⟨rfl,rfl⟩:=pair_inj e
 refine rv_inv e0 λv0 hv0 e0=>?_
 injection hv0 with hv0
 subst hv0
 obtain ⟨γ1,pp,v,hpp,hhas,I1,A1,R1⟩:=I.read e0
 obtain ⟨t1,rfl⟩:=R1.inv
 rw [exec_AugAssign_Name]
 refine wpN_standAt (wpN_step (wp_load H hi hk hcd hpp hhas (wpN_bind (wpN_holding (ha.val hR I1 e1 λγ2 sg2 v2 s2 I2 A2 R2=>wpN_standAt ?_)))))
 obtain ⟨t2,rfl⟩:=R2.inv
 refine wpN_step ?_
 refine wpAny_operate' (wp_inplace ho e2 λc kk hr=>wpN_standAt ?_)
 subst hr
 refine wpN_step (wpAny_bindName (wp_store (lv:=.val (.int c)) (I2.tok _) H hi hk2 (.int _ _) λs3 I3 A3=>wpN_pure (hQ _ _ .next _ I3 (((A1.trans A2).trans (adv_tok _)).toAdvS.trans A3) trivial)))
end
section
variable {C:Cfg} {pl:Nat→Option Place} {n:Nat} {T:Tabs} {cf:CF} {env:Env} {cx:Cx}
variable {A:Around} {E:Value→Shared→Prop} {γ γ':Gam} {sg sg':List Addr} {σ σ':St} {s:Shared} {k:Nat}
theorem wp_lookF (G:CfgOk C) (I:Inv C pl γ sg σ s) (H:EnvOk pl cx env) {x:Str} {i f:Nat} {p ap:Pos} (hi:cx.ix.lookup x=some i) (hk:isVarKind cx.scope x=true) (hcd:(x == ("__classdict__":Str))=false) (hd:(x == ("__debug__":Str))=false)
  {l:List Val} (e:(lookField i f σ).bind listOf?=some l) {Q:Value→Shared→Prop} (hQ:∀ a vs,(γ a=none∨∃ k,γ a=some (.sf k f))→s.heap.IsList a vs.toArray→Reps γ sg s.heap l vs→Q (.ref a) { s with toks:=s.toks + 1 }) :
  wpAny (model C.prog C.w) A (eval (.Attribute (.Name x p) (C.fname f) ap) env) Q E s:=by
 obtain ⟨lv,e1,e2⟩:=Option.bind_eq_some_iff.mp e
 have e1:lookB (σ.get i) f σ=some lv:=e1
 cases hv:σ.get i with
 | none=>rw [hv] at e1; exact nsm e1
 | some y=>rw [hv] at e1; cases y with
  | val y=>cases y with
   | obj k =>
    obtain ⟨pp,v,hpp,hhas,hlv⟩:=I.vars i _ hv
    obtain ⟨ad,rfl,hsg⟩:=Rep.inv hlv
    obtain ⟨c,fs,hst,hf⟩:=field_some e1
    obtain ⟨da,es,m,D⟩:=I.inst hst hsg
    rw [arm_eval_Attribute]
    show wpAny _ _ (eval (.Name x p) env >>= _) _ _ _
    refine wpAny_bind (wpAny_Name (wp_load H hi hk hcd hpp hhas ?_) hd)
    refine wpAny_bind (wpAny_standAt (wpAny_bind (wpAny_holding (wp_getAttr G I D hf λv h1 h2=>wpAny_bind (wpAny_letTemporaryGo (wpAny_pure ?_))))))
    cases lv with
    | val u=>cases u with
     | list =>
      obtain rfl:=sj e2
      obtain ⟨_,_,rfl,g,hh,r⟩:=Rep.inv h2
      exact hQ _ _ (.inl g) hh r
     | _=>exact nsm e2
    | olist =>
     obtain rfl:=sj e2
     obtain ⟨a,vs,m,rfl,g,o,r⟩:=h2
     exact hQ a vs (.inr ⟨k,g⟩) ⟨_,o,rfl,_,rfl⟩ r
    | obarr=>exact nsm e2
   | _=>exact nsm e1
  | _=>exact nsm e1
theorem sub_list {value slice:Expr} (hs:∀ a b p,slice≠.Slice a b none p) {a:Addr} {vs:List Value} {l:List Val} {i:Int} {t:Tok} {z:Val} (hh:s.heap.IsList a vs.toArray) (r:Reps γ sg s.heap l vs) (e:subv (.list l) (.int i)=some z)
  {Q:Value→Shared→Prop} (hQ:∀ v',Rep γ sg s.heap z v'→Q v' s):wpAny (model C.prog C.w) A (subscriptTail value slice (.ref a) (.int i t)) Q E s:=by
 have e:(place i l.length).bind (l[·]?)=some z:=e
 obtain ⟨k,e1,e2⟩:=Option.bind_eq_some_iff.mp e
 obtain ⟨h1,h2,h3⟩:=place_some e1
 obtain ⟨v',e3,r'⟩:=r.get e2
 have hl:=r.length
 refine tail_any hh.typeIs slot_list_getitem.lookup ?_ (subscripted_plain hs _ _)
 rcases seqIndex_cases h3 with ⟨h0,hk,_⟩ | ⟨h0,hb,hk,_⟩
 ·exact wpAny_getItem_list hh h0 h2 (by rw [←hk]; simpa using e3) (hQ _ r')
 ·exact wpAny_getItem_list_neg hh h0 (by simpa [hl] using hb) (Int.le_of_lt h1) (by simp only [List.size_toArray,hl]; rw [←hk]; simpa using e3) (hQ _ r')
theorem T_subF (G:CfgOk C) (H:EnvOk pl cx env) {x:Str} {i f kk:Nat} {k:Int} {p ap kp pos:Pos} (hi:cx.ix.lookup x=some i) (hk:isVarKind cx.scope x=true) (hcd:(x == ("__classdict__":Str))=false) (hd:(x == ("__debug__":Str))=false) :
  TE C pl n (eval (.Subscript (.Attribute (.Name x p) (C.fname f) ap) (.Constant (.int k) kk kp) pos) env) (evE T cf (.subF i f k)):=by
 intro A E Q γ sg σ s z σ' hR I e hQ
 refine kl_inv (o:=(lookField i f σ).bind listOf?) e λl hl e9 zz1=>?_; obtain rfl:=zz1
 refine vV_inv (o:=subv (.list l) (.int k)) e9 λz' e3 zz1=>?_; obtain rfl:=zz1
 refine N_Subscript (.of (wp_lookF G I H hi hk hcd hd hl λa vs _ hh r=>.of (wpAny_Constant_int (.of ?_))))
 exact sub_list (by nofun) (s:={ s with toks:=s.toks + 1 + 1 }) hh r e3 λv' r'=>hQ _ _ _ _ (I.tok _) (adv_tok _) r' trivial
theorem T_subS (H:EnvOk pl cx env) {x:Str} {i kk:Nat} {k:Int} {p kp pos:Pos} (hi:cx.ix.lookup x=some i) (hk:isVarKind cx.scope x=true) (hcd:(x == ("__classdict__":Str))=false) (hd:(x == ("__debug__":Str))=false) :
  TE C pl n (eval (.Subscript (.Name x p) (.Constant (.int k) kk kp) pos) env) (evE T cf (.subS i k)):=by
 intro A E Q γ sg σ s z σ' hR I e hQ
 refine ksub_inv (o:=σ.get i) e λo l z' hv hl e3 zz1 zz2=>?_; obtain rfl:=zz1; obtain rfl:=zz2
 obtain ⟨pp,v,hpp,hhas,hlv⟩:=I.vars i _ hv
 obtain ⟨ad,rfl,hsg⟩:=Rep.inv hlv
 obtain ⟨vs,g,hh,r⟩:=I.store o _ _ hl hsg
 refine N_Subscript (.of (wpAny_Name (wp_load H hi hk hcd hpp hhas (.of (wpAny_Constant_int (.of ?_)))) hd))
 exact sub_list (by nofun) (s:={ s with toks:=s.toks + 1 }) hh r e3 λv' r'=>hQ _ _ _ _ (I.tok _) (adv_tok _) r' trivial
theorem slc_list (I:Inv C pl γ sg σ s) {value:Expr} {la lb:Option Expr} {p:Pos} {a:Addr} {vs:List Value} {l:List Val} {y z:Val} {w:LV} {u t:Value} {k:Addr} (hh:s.heap.IsList a vs.toArray) (r:Reps γ sg s.heap l vs) (hy:Rep γ sg s.heap y u) (hz:Rep γ sg s.heap z t) (hk:s.heap.IsSliceOf k u t .none)
  (e:slcv (.list l) y z=some w) {Q:Value→Shared→Prop}
  (hQ:KW C pl γ sg s σ w Q):wpAny (model C.prog C.w) A (subscriptTail value (.Slice la lb none p) (.ref a) (.ref k)) Q E s:=by
 obtain ⟨hl,e⟩:=ite_some' (c:=okLen l.length=true) (o:=(bnd y).bind λa=>(bnd z).map λb=>LV.olist (Mine.cutL l a b)) e
 obtain ⟨a',e1,e2⟩:=Option.bind_eq_some_iff.mp e
 obtain ⟨b,e3,rfl⟩:=Option.map_eq_some_iff.mp e2
 refine tail_any hh.typeIs slot_list_getitem.lookup (wpAny_getItem_list_slice hh hk (isPart_of hy e1) (isPart_of hz e3) .none (by simp) ?_ (by simp only [List.size_toArray,r.length]; exact sizeLine_ok hl)) (subscripted_slice _ _)
 have e5:slicePick vs.toArray a' b none=(Mine.cutL vs a' b).toArray:=by rw [slicePick_plain]; simp [Mine.cutL]
 rw [e5]
 exact own_list I (r.cutL a' b) 0 s.toks hQ
theorem T_slcF (G:CfgOk C) (H:EnvOk pl cx env) {x:Str} {i f kk:Nat} {k:Int} {p ap kp sp pos:Pos} (hi:cx.ix.lookup x=some i) (hk:isVarKind cx.scope x=true) (hcd:(x == ("__classdict__":Str))=false) (hd:(x == ("__debug__":Str))=false) :
  TE C pl n (eval (.Subscript (.Attribute (.Name x p) (C.fname f) ap) (.Slice (some (.Constant (.int k) kk kp)) none none sp) pos) env) (evE T cf (.slcF i f k)):=by
 intro A E Q γ sg σ s z σ' hR I e hQ
 refine kl_inv (o:=(lookField i f σ).bind listOf?) e λl hl e3 zz1=>?_; obtain rfl:=zz1
 refine N_Subscript (.of (wp_lookF G I H hi hk hcd hd hl λa vs _ hh r=>N_Slice ?_))
 show wpN _ _ (eval (.Constant (.int k) kk kp) env) _ _ _
 refine .of (wpAny_Constant_int ?_)
 rw [evalPart_none]
 refine wpN_pure ?_
 refine wpN_pure ?_
 have I3:=I.tok (s.toks + 1 + 1)
 have I4:=I3.push { cls:=.type "slice",data:=.fields #[.int k (s.toks + 1),.none,.none] } none (s.toks + 1 + 1) rfl
 have A4:=I3.pushA { cls:=.type "slice",data:=.fields #[.int k (s.toks + 1),.none,.none] } none (s.toks + 1 + 1)
 refine .of <| slc_list I4 (IsList_to hh λo e=>Heap.get?_push_of_some _ e) (r.mono A4.kept) (.int k _) .none (Heap.IsSliceOf.new _ _ _ _) e3 λγ5 v5 s5 I5 A5 R5 N5=>?_
 exact hQ _ _ _ _ I5 (((adv_tok _).trans A4).trans A5) R5 (NewR.up ((adv_tok (γ:=γ) (sg:=sg) (s:=s) _).trans A4).there N5)
theorem T_lenF (G:CfgOk C) (H:EnvOk pl cx env) {x:Str} {i f:Nat} {np p ap pos:Pos} (hi:cx.ix.lookup x=some i) (hk:isVarKind cx.scope x=true) (hcd:(x == ("__classdict__":Str))=false) (hd:(x == ("__debug__":Str))=false)
  (hg:isGlobal cx.scope "len"=true) (hn:nsIn C.K mainGlobals "len"=some none) :
  TE C pl n (eval (.Call (.Name "len" np) [.Attribute (.Name x p) (C.fname f) ap] [] pos) env) (evE T cf (.lenF i f)):=by
 intro A E Q γ sg σ s z σ' hR I e hQ
 refine kl_inv (o:=(lookField i f σ).bind listOf?) e λl hl e9 zz1=>?_; obtain rfl:=zz1
 obtain ⟨hok,rfl⟩:=ite_some (c:=okLen l.length=true) e9
 have hok:=okLen_le hok
 have hpl:[Expr.Attribute (.Name x p) (C.fname f) ap].all plainE=true:=rfl
 refine N_Call_Name (.of (wp_bname G I H hg hn (biBoot .len).2 (biBoot .len).1 ?_))
 rw [backTo_plain hpl]
 refine N_callWith (plain_all hpl) ?_
 rw [starEach_plain hpl]
 refine .of (evalArgs_plain (Calls.spliced_cons (wp_lookF G I H hi hk hcd hd hl λa vs _ hh r=>Calls.spliced_nil ?_)))
 refine ⟨keeper_builtin (.inl ⟨_,rfl⟩),?_⟩
 refine .of (call_len_list (s:={ s with toks:=s.toks + 1 }) hh (by rw [List.size_toArray,r.length]; omega) ?_)
 refine hQ _ _ _ _ (I.tok _) (adv_tok _) ?_ trivial
 rw [List.size_toArray,r.length]; exact .int _ _
theorem TT_truF (G:CfgOk C) (H:EnvOk pl cx env) {x:Str} {i f:Nat} {p ap:Pos} (hi:cx.ix.lookup x=some i) (hk:isVarKind cx.scope x=true) (hcd:(x == ("__classdict__":Str))=false) (hd:(x == ("__debug__":Str))=false) :
  TT C pl n (isTrue (.Attribute (.Name x p) (C.fname f) ap) env (eval (.Attribute (.Name x p) (C.fname f) ap) env)) (evE T cf (.truF i f)):=by
 intro A E Q γ sg σ s r σ' b hR I e ht hQ
 refine kl_inv (o:=(lookField i f σ).bind listOf?) e λl hl e9 zz1=>?_; obtain rfl:=zz1
 obtain ⟨hok,rfl⟩:=ite_some (c:=okLen l.length=true) e9
 have hok:=okLen_le hok
 have hb:(!l.isEmpty)=b:=by
  have ht:(some (!l.isEmpty):Option Bool)=some b:=ht
  injection ht
 refine N_isTrue_plain (.of (wp_lookF G I H hi hk hcd hd hl λa vs _ hh r=>.of ?_)) rfl
 have e2:(!l.isEmpty)=!vs.toArray.isEmpty:=by
  cases l with
  | nil=>obtain rfl:vs=[]:=r.inv; rfl
  | cons=>obtain ⟨_,_,rfl,_⟩:=r.inv; rfl
 refine wpAny_truthy_list (s:={ s with toks:=s.toks + 1 }) hh (by simp only [List.size_toArray,r.length]; omega) ?_
 rw [←e2,hb]
 exact hQ _ _ _ (I.tok _) (adv_tok _)
theorem TS_setItem (H:EnvOk pl cx env) {x:Str} {i kk:Nat} {k:Int} {p kp ap pos:Pos} {value:Expr} {a:ME} (hi:cx.ix.lookup x=some i) (hk:isVarKind cx.scope x=true) (hcd:(x == ("__classdict__":Str))=false) (hd:(x == ("__debug__":Str))=false) (hk0:0≤k)
  (hc:isComp value=false) (ha:TE C pl n (eval value env) (evE T cf a)):TS C pl n (exec (.Assign [.Subscript (.Name x p) (.Constant (.int k) kk kp) ap] value pos) env) (exS T cf (.setItem i k a)):=by
 intro A E Q γ sg σ s z σ' hR I e hQ
 refine ka_inv (r:=evE T cf a σ) e λy σ1 e1 e=>?_
 refine sI_inv e λo l pp hv hl hp e=>?_
 obtain ⟨rfl,rfl⟩:=pair_inj e
 obtain ⟨h1,h2,h3⟩:=place_some hp
 obtain ⟨hk1,hk2⟩:k.toNat=pp∧pp < l.length:=by
  rcases seqIndex_cases h3 with ⟨_,q1,q2⟩ | ⟨q,_⟩
  ·exact ⟨q1.symm,q2⟩
  ·omega
 refine N_Assign hc (r:=none) (by rfl) (ha.val hR I e1 λγ1 sg1 v1 s1 I1 A1 R1=>.of ?_)
 obtain ⟨qq,v,hpp,hhas,hlv⟩:=I1.vars i _ hv
 obtain ⟨ad,rfl,hsg⟩:=Rep.inv hlv
 obtain ⟨vs,g,hh,r⟩:=I1.store o _ _ hl hsg
 show wpAny _ _ (do assignAll v1 [assign (.Subscript (.Name x p) (.Constant (.int k) kk kp) ap) env]; (pure Flow.next:Sem Flow)) _ _ _
 refine wpAny_bind ?_
 show wpAny _ _ (assign (.Subscript (.Name x p) (.Constant (.int k) kk kp) ap) env v1) _ _ _
 rw [arm_assign_Subscript]
 refine wpAny_bind (wpAny_holding (wpAny_Name (wp_load H hi hk hcd hpp hhas (wpAny_bind (wpAny_holding (wpAny_Constant_int (wpAny_bind (wpAny_standAt (wpAny_bind (wpAny_holding ?_)))))))) hd))
 refine wpAny_setItem_list (s:={ s1 with toks:=s1.toks + 1 }) hh hk0 h2 (by rw [List.size_toArray,r.length]; omega) λh' hl' hs=>wpAny_release (wpAny_pure ?_)
 have e2:vs.toArray.setIfInBounds k.toNat v1=(vs.set k.toNat v1).toArray:=by simp
 rw [e2,hk1] at hl'
 have kp:Kept γ1 sg1 s1.heap γ1 sg1 h':=⟨λ_ _ e _=>e,λb o e g'=>(hs.2 b (λq=>by subst q; rw [g] at e; cases e)).trans g',List.prefix_refl _⟩
 have key:=I1.wroteStore (s':={ s1 with heap:=h',toks:=s1.toks + 1 }) (b:=ad) (o':=.slist (l.set pp y.frz)) hsg (sto_ro hl).1 g (.inr (.inr rfl)) rfl rfl hs (let ⟨ob,hob,_⟩:=hl'; ⟨ob,hob⟩)
  ⟨_,g,hl',(r.mono kp).set (R1.mono kp) pp⟩
 exact hQ _ _ .next _ key.1 (A1.toAdvS.trans key.2) trivial
theorem TS_augAttr (G:CfgOk C) (hz:C.nf≤900) {x:Str} {i f:Nat} {op:Operator} {p ap pos:Pos} {value:Expr} {a:ME} (H:EnvOk pl cx env) (hi:cx.ix.lookup x=some i) (hk:isVarKind cx.scope x=true) (hcd:(x == ("__classdict__":Str))=false) (hd:(x == ("__debug__":Str))=false)
  (ho:augOp op=true) (ha:TE C pl n (eval value env) (evE T cf a)):TS C pl n (exec (.AugAssign (.Attribute (.Name x p) (C.fname f) ap) op value pos) env) (exS T cf (.augAttr i f op a)):=by
 intro A E Q γ sg σ s z σ' hR I e hQ
 refine kaugA_inv (e:=evE T cf a) e λkk na nb σ1 r σ2 hv hf0 e1 hr e2 e=>?_
 obtain ⟨rfl,rfl⟩:=pair_inj e
 obtain ⟨pp,v,hpp,hhas,hlv⟩:=I.vars i _ hv
 obtain ⟨ad,rfl,hsg⟩:=Rep.inv hlv
 obtain ⟨c,fs,hst,hf⟩:=field_some hf0
 obtain ⟨da,es,m,D⟩:=I.inst hst hsg
 rw [arm_exec_AugAssign_2]
 refine wpN_standAt (wpN_step (wpAny_Name (wp_load H hi hk hcd hpp hhas (wpN_bind (wpN_holding (wpN_standAt (wpN_step (wp_getAttr G I D hf λv h1 h2=>?_)))))) hd))
 obtain ⟨t1,rfl⟩:=Rep.inv h2
 refine wpN_bind (wpN_holding (ha.val hR (I.tok (s.toks + 1)) e1 λγ2 sg2 v2 s2 I2 A2 R2=>wpN_standAt ?_))
 obtain ⟨t2,rfl⟩:=R2.inv
 refine .of (wpAny_operate' (wp_inplace ho hr λcc kx hrr=>wpN_standAt (wpN_step (wpAny_holding ?_))))
 subst hrr
 obtain ⟨c1,fs1,hk1,rfl⟩:=putField_some e2
 have hsg2:sg2[kk]?=some ad:=A2.kept.ge hsg
 obtain ⟨da2,es2,m2,D2⟩:=I2.inst hk1 hsg2
 have hff:f < C.nf:=D.lt _ (fget_mem hf)
 refine wp_setAttr G (I2.tok (s2.toks + 1)) hk1 ⟨D2.at_,D2.froz,D2.obj,D2.tag,D2.dict,D2.flds,D2.nod,D2.lt⟩ hff (x:=.val (.int cc)) (.int _ _) hz λs3 I3 A3=>?_
 exact wpN_step (wpAny_release (wpN_pure (hQ _ _ .next _ I3 ((((adv_tok _).trans A2).trans (adv_tok _)).toAdvS.trans A3) trivial)))
end
end Mine
end
section
open PySem PySem.W PyProof.Rows PySem.Calls
open Sem (wp)
namespace Mine
section
variable {C:Cfg} {pl:Nat→Option Place} {n:Nat} {T:Tabs} {cf:CF} {env:Env} {cx:Cx}
variable {A:Around} {E:Value→Shared→Prop} {γ γ':Gam} {sg sg':List Addr} {σ σ':St} {s:Shared} {k:Nat}
theorem wpN_noted {α:Type} {m:Sem α} {env:Env} {Q:α→Shared→Prop} {M:Model} (h:∀ E',wpN M A m Q E' s):wpN M A (m.onRaise λx=>do noteFrame x env; theTreesLotGoes x) Q E s:=wpN_onRaise (h _)
theorem code_while {test:Expr} {body:List Stmt} {c b} (hc:TT C pl n (isTrue test env (eval test env)) c) (hb:TS C pl n (execs body env) b) :
  ∀ (m:Nat) {γ sg σ s r σ'} {R:Result→Shared→Prop},Room n A→Inv C pl γ sg σ s→whlGo c b m σ=some (r,σ') →
   (∀ γ' sg' fl s',Inv C pl γ' sg' σ' s'→AdvS γ sg s γ' sg' s'→FlowOk γ' sg' s s' r fl→R (.ok fl) s')→codeN (model C.prog C.w) A (.whileLoop test body [] env) R s:=by
 intro m
 induction m with
 | zero=>intro γ sg σ s r σ' R hR I e hQ; cases e
 | succ m ih =>
  intro γ sg σ s r σ' R hR I e hQ
  refine kite_inv (r:=c σ) (a:=whlB b λσ=>whlGo c b m σ) (b:=nxt) e λx σ1 e1 e=>?_
  refine codeN_of_tree ?_
  show wpN _ A ((whileTurn test body [] env).onRaise (λx=>do noteFrame x env; theTreesLotGoes x)) _ _ s
  refine wpN_noted λE'=>?_
  unfold whileTurn
  obtain ⟨ht,e⟩ | ⟨ht,e⟩:=e
  ·refine wpN_bind (hc hR I e1 ht λγ1 sg1 s1 I1 A1=>?_)
   rw [if_pos rfl]
   obtain ⟨σ2,e2,e⟩ | ⟨y,σ2,e2,e⟩:=sq_inv (o:=b σ1) e
   ·refine wpN_bind (hb hR I1 e2 λγ2 sg2 f2 s2 I2 A2 F2=>?_)
    cases f2 <;> first | exact F2.elim | skip
    exact wpN_pure ⟨rfl,rfl,ih hR I2 e λγ3 sg3 f3 s3 I3 A3 F3=>hQ _ _ _ _ I3 ((A1.toAdvS.trans A2).trans A3) (F3.up (A1.toAdvS.trans A2).there)⟩
   ·obtain ⟨rfl,rfl⟩:=pair_inj e
    refine wpN_bind (hb hR I1 e2 λγ2 sg2 f2 s2 I2 A2 F2=>?_)
    cases f2 <;> first | exact F2.elim | skip
    exact wpN_pure (hQ _ _ _ _ I2 (A1.toAdvS.trans A2) (F2.up A1.there))
  ·obtain ⟨rfl,rfl⟩:=si2 (e:some (Fl.next,σ1)=some (r,σ'))
   refine wpN_bind (hc hR I e1 ht λγ1 sg1 s1 I1 A1=>?_)
   rw [if_neg (by decide)]
   exact wpN_bind (wpN_pure (wpN_pure (hQ _ _ .next _ I1 A1.toAdvS trivial)))
theorem TS_whl {test:Expr} {body:List Stmt} {pos:Pos} {c:ME} {b:MSs} (hc:TT C pl n (isTrue test env (eval test env)) (evE T cf c)) (hb:TS C pl n (execs body env) (exSs T cf b)) :
  TS C pl n (exec (.While test body [] pos) env) (exS T cf (.whl c b)):=by
 intro A E Q γ sg σ s z σ' hR I e hQ
 rw [exec_While]
 refine wpN_standAt (wpN_runOwn rfl (code_while hc hb 200 (A:=A.mark none) hR I e λγ1 sg1 f1 s1 I1 A1 F1=>hQ _ _ _ _ I1 A1 F1) nofun)
noncomputable def TA (C:Cfg) (pl:Nat→Option Place) (n:Nat) (target:Expr) (env:Env) (tg:List Nat):Prop :=
 ∀ {A:Around} {E:Value→Shared→Prop} {Q:Unit→Shared→Prop} {γ sg σ s x v σ'},Room n A→Inv C pl γ sg σ s→bindTg tg x σ=some σ'→Rep γ sg s.heap x v →
  KU C pl γ sg s σ' Q→wpAny (model C.prog C.w) A (assign target env v) Q E s
theorem TA_name {x:Str} {p:Pos} {i:Nat} (H:EnvOk pl cx env) (hi:cx.ix.lookup x=some i) (hk:isStoreKind cx.scope x=true):TA C pl n (.Name x p) env [i]:=by
 intro A E Q γ sg σ s y v σ' hR I e R hQ
 obtain rfl:=sj e
 exact wpAny_assign_Name (wp_store (lv:=.val y) I H hi hk R hQ)
theorem bindTg_two:∀ {is:List Nat} {y:Val} {σ σ':St},2≤is.length→bindTg is y σ=some σ'→∃ l,y=.tuple l∧l.length=is.length∧bindT is l σ=some σ'
 | [],_,_,_,h,_=>absurd h (by decide)
 | [_],_,_,_,h,_=>absurd h (by decide:¬ 2≤1)
 | i0 :: i1 :: ir,y,σ,σ',h,e=>by
  cases y with
  | tuple l =>
   obtain ⟨h1,h2⟩:=ite_some' (c:=l.length=(i0 :: i1 :: ir).length) (o:=bindT (i0 :: i1 :: ir) l σ) e
   exact ⟨l,rfl,h1,h2⟩
  | _=>exact nsm e
theorem letOwned {M:Model} {it:Addr} {target:Expr} {v:Value} {o:Obj} {Q:Unit→Shared→Prop} (ho:s.heap.get? it=some o) (hq:quietIt o=true) (h:Q () s):wpAny M A (letOwnedTupleGo target (.ref it) v) Q E s:=by
 have key:wpAny M A (do
   let (.ref r,.ref a):=(Value.ref it,v) | return
   let o ←load r
   match o.cls,o.data with
   | .type n,.fields vs =>
    if ["enumerate","zip","dict_itemiterator","dict_reverseitemiterator","odict_iterator","itertools.zip_longest","itertools.pairwise"].contains n && vs[0]? == some (rawInt a) then
     rule "for.unpacks-the-owned-tuple"
     updateField r 0 .none
   | _,_=>pure ():Sem Unit) Q E s:=by
  cases v <;> first | exact wpAny_pure h | skip
  refine wpAny_bind (wpAny_load ho ?_)
  unfold quietIt at hq
  split
  ·rename_i hc hd
   rw [hc] at hq
   simp only [Bool.not_eq_true'] at hq
   rw [hq]
   simp only [Bool.false_and,Bool.false_eq_true,if_false]
   exact wpAny_pure h
  ·exact wpAny_pure h
 cases target <;> first | exact wpAny_pure h | exact key
theorem Inv.iterStep {it:Addr} {s':Shared} (I:Inv C pl γ sg σ s) (ht:γ it=some .prot) (h1:s'.gens=s.gens) (h2:s'.os=s.os) (hk:∀ b o,b≠it→s.heap.get? b=some o→s'.heap.get? b=some o) (hγ:∀ b,b≠it→γ' b=γ b)
  (hd:∀ t,γ' it=some t→t=.prot∧∃ o,s'.heap.get? it=some o):Inv C pl γ' sg σ s':=by
 have ne:∀ b t,γ b=t→t≠some .prot→b≠it:=λb t e n q=>by subst q; exact n (e.symm.trans ht)
 have kp:Kept γ sg s.heap γ' sg s'.heap:=⟨λa o e _=>(hγ a (ne a _ e nofun)).trans e,λa o e g=>hk a o (ne a _ e nofun) g,List.prefix_refl _⟩
 have q:∀ a o t,γ a=some t→t≠.prot→s.heap.get? a=some o→γ' a=some t∧s'.heap.get? a=some o:=λa o t e n g=>by
  have:=ne a _ e (by intro h; cases h; exact n rfl)
  exact ⟨(hγ a this).trans e,hk a o this g⟩
 refine ⟨h1.trans I.gens,h2.trans I.os,λb o e=>?_,λa t e=>?_,λj p e=>?_,I.inj,λj z e=>?_,I.len,λk o b e1 e2=>?_⟩
 ·have hb:=I.keep b o e
  refine hk b o (λq=>?_) hb
  subst q
  have:=(I.dom _ _ ht).2
  rw [e] at this; cases this
 ·by_cases q:a=it
  ·subst q
   obtain ⟨rfl,o,ho⟩:=hd t e
   exact ⟨⟨o,ho⟩,(I.dom _ _ ht).2⟩
  ·rw [hγ a q] at e
   obtain ⟨⟨o,ho⟩,h⟩:=I.dom a t e
   exact ⟨⟨o,hk a o q ho⟩,h⟩
 ·have ok:=I.ok j p e
  have:p.addr≠it:=by
   rcases Place.ok_tag ok with t | t
   ·exact ne _ _ t (by nofun)
   ·exact ne _ _ t (by nofun)
  exact Place.ok_to ok (hγ _ this) λo h=>hk _ o this h
 ·obtain ⟨p,v,h1,h2,h3⟩:=I.vars j z e
  have:p.addr≠it:=by
   rcases Place.ok_tag (I.ok j p h1) with t | t
   ·exact ne _ _ t (by nofun)
   ·exact ne _ _ t (by nofun)
  exact ⟨p,v,h1,Place.has_to h2 λo h=>hk _ o this h,h3.mono kp λa o e1 e2=>q a o _ e1 (by intro h; cases h) e2⟩
 ·refine (I.store k o b e1 e2).mono kp λb o h g=>?_
  rcases h with h | ⟨f,h⟩ | h <;> (obtain ⟨u,v⟩:=q b o _ h (by intro h; cases h) g; exact ⟨u.trans h.symm,v⟩)
theorem AdvS.iterStep {γ0:Gam} {sg0:List Addr} {s0:Shared} {it:Addr} {s':Shared} (A0:AdvS γ0 sg0 s0 γ sg s) (d0:∀ a t,γ0 a=some t→∃ o,s0.heap.get? a=some o) (hn:s0.heap.get? it=none) (hk:∀ b o,b≠it→s.heap.get? b=some o→s'.heap.get? b=some o) (hγ:∀ b,b≠it→γ' b=γ b) :
  AdvS γ0 sg0 s0 γ' sg s':=by
 have ne:∀ a o,s0.heap.get? a=some o→a≠it:=λa o e q=>by subst q; rw [hn] at e; cases e
 refine ⟨λa o e=>?_,⟨λa o e g=>(hγ a (ne a o g)).trans (A0.kept.froz a o e g),λa o e g=>hk a o (ne a o g) (A0.kept.keep a o e g),A0.kept.sg⟩,λa e=>?_,λa o e g=>hk a o (ne a o g) (A0.keepP a o e g)⟩
 ·obtain ⟨o',h⟩:=A0.there a o e
  exact ⟨o',hk a o' (ne a o e) h⟩
 ·obtain ⟨o,ho⟩:=d0 _ _ e
  exact (hγ a (ne a o ho)).trans (A0.prot a e)
theorem Adv.iterStep {γ0:Gam} {sg0:List Addr} {s0:Shared} {it:Addr} {s':Shared} (A0:Adv γ0 sg0 s0 γ sg s) (d0:∀ a t,γ0 a=some t→∃ o,s0.heap.get? a=some o) (hn:s0.heap.get? it=none) (hk:∀ b o,b≠it→s.heap.get? b=some o→s'.heap.get? b=some o) (hγ:∀ b,b≠it→γ' b=γ b) :
  Adv γ0 sg0 s0 γ' sg s':=by
 have ne:∀ a o,s0.heap.get? a=some o→a≠it:=λa o e q=>by subst q; rw [hn] at e; cases e
 refine ⟨A0.toAdvS.iterStep d0 hn hk hγ,λa o t e q g=>?_⟩
 obtain ⟨h1,h2⟩:=A0.names a o t e q g
 exact ⟨(hγ a (ne a o g)).trans h1,hk a o (ne a o g) h2⟩
theorem codeN_block_nil {M:Program} {w:World} {R:Result→Shared→Prop} (h:R (.ok .next) s):codeN (model M w) A (.block [] env) R s:=by
 refine codeN_of_tree ?_
 show wpN _ A ((do return Fin.done (←execs [] env):Sem Fin).onRaise (λx=>do noteFrame x env; theTreesLotGoes x)) _ _ s
 exact wpN_noted λE'=>wpN_pure h
theorem code_for {target:Expr} {body:List Stmt} {tg:List Nat} {b:St→Option (Fl×St)} {it:Addr} {fp:List Addr} {items:List Val} {P:Nat→Value→Prop} {St:Nat→Heap→Prop} {γ0:Gam} {sg0:List Addr} {s0:Shared}
  (ht:TA C pl n target env tg) (hb:TS C pl n (execs body env) b) (d0:∀ a t,γ0 a=some t→∃ o,s0.heap.get? a=some o) (hn:s0.heap.get? it=none) :
  ∀ (m:Nat) {k:Nat} {γ sg σ s r σ'} {R:Result→Shared→Prop},Room n A→k + m=items.length→Inv C pl γ sg σ s→AdvS γ0 sg0 s0 γ sg s→Wk C γ sg s.heap it fp items P St→St k s.heap →
   forGo (stp tg b) (items.drop k) σ=some (r,σ') →
   (∀ γ' sg' fl s',Inv C pl γ' sg' σ' s'→AdvS γ0 sg0 s0 γ' sg' s'→FlowOk γ' sg' s0 s' r fl→R (.ok fl) s')→codeN (model C.prog C.w) A (.forLoop target (.ref it) body [] env) R s:=by
 intro m
 induction m with
 | zero =>
  intro k γ sg σ s r σ' R hR hkm I A0 W hst e hQ
  have hk:k=items.length:=by omega
  subst hk
  rw [List.drop_length] at e
  obtain ⟨rfl,rfl⟩:=si2 (e:some (Fl.next,σ)=some (r,σ'))
  refine codeN_of_tree ?_
  show wpN _ A ((forTurn target (.ref it) body [] env).onRaise (λx=>do noteFrame x env; theTreesLotGoes x)) _ _ s
  refine wpN_noted λE'=>?_
  unfold forTurn
  refine wpN_standAt (wpN_step (wpAny_onRaise ((W.W A hR.1).done s _ _ hst λh' tk hk=>?_)))
  have hk':∀ b o,b≠it→s.heap.get? b=some o→h'.get? b=some o:=λb o q e=>hk b o (by simpa using q) e
  have hγ:∀ b,b≠it→γ.upd it none b=γ b:=λb q=>Gam.upd_ne _ _ q
  refine wpN_pure ⟨rfl,rfl,codeN_block_nil (hQ _ _ .next _ (I.iterStep (s':={ s with heap:=h',toks:=tk }) W.tag rfl rfl hk' hγ λt e=>?_) (A0.iterStep d0 hn hk' hγ) trivial)⟩
  rw [Gam.upd_self] at e; cases e
 | succ m ih =>
  intro k γ sg σ s r σ' R hR hkm I A0 W hst e hQ
  have hk:k < items.length:=by omega
  rw [List.drop_eq_getElem_cons hk] at e
  refine codeN_of_tree ?_
  show wpN _ A ((forTurn target (.ref it) body [] env).onRaise (λx=>do noteFrame x env; theTreesLotGoes x)) _ _ s
  refine wpN_noted λE'=>?_
  unfold forTurn
  refine wpN_standAt (wpN_step (wpAny_onRaise ((W.W A hR.1).item k s _ _ hk hst λv h' tk hP hst' hk'=>?_)))
  have hk':∀ b o,b≠it→s.heap.get? b=some o→h'.get? b=some o:=λb o q e=>hk' b o (by simpa using q) e
  obtain ⟨oit,hoit,hqit⟩:=W.quiet _ _ hst'
  have I1:Inv C pl γ sg σ { s with heap:=h',toks:=tk }:=I.iterStep (s':={ s with heap:=h',toks:=tk }) W.tag rfl rfl hk' (λ_ _=>rfl) λt e=>⟨by rw [W.tag] at e; cases e; rfl,_,hoit⟩
  have A1:AdvS γ0 sg0 s0 γ sg { s with heap:=h',toks:=tk }:=A0.iterStep d0 hn hk' λ_ _=>rfl
  have ne:∀ b,γ b=none→b≠it:=λb e q=>by subst q; rw [W.tag] at e; cases e
  have kp:Kept γ sg s.heap γ sg h':=⟨λ_ _ e _=>e,λa o e g=>hk' a o (ne a e) g,List.prefix_refl _⟩
  have W1:Wk C γ sg h' it fp items P St:=⟨W.W,W.tag,λb hb=>by
   by_cases q:b=it
   ·exact .inl q
   ·rcases W.fp b hb with h | ⟨g,o,h⟩
    ·exact .inl h
    ·exact .inr ⟨g,o,hk' b o q h⟩,λi v p x hx=>(W.val i v p x hx).mono kp,W.quiet⟩
  have R1:Rep γ sg h' items[k] v:=W1.val k v hP _ (List.getElem?_eq_getElem hk)
  refine wpN_step (letOwned (s:={ s with heap:=h',toks:=tk }) hoit hqit ?_)
  obtain ⟨σ2,e2,e⟩ | ⟨y,σ2,e2,e⟩:=sq_inv (o:=stp tg b items[k] σ) e
  ·refine stp_inv e2 λσa e1 e2=>?_
   refine wpN_step (ht (s:={ s with heap:=h',toks:=tk }) hR I1 e1 R1 λs2 I2 A2=>?_)
   refine wpN_bind (hb hR I2 e2 λγ3 sg3 f3 s3 I3 A3 F3=>?_)
   have A13:=A2.trans A3
   cases f3 <;> first | exact F3.elim | skip
   exact wpN_pure ⟨rfl,rfl,ih hR (by omega) I3 (A1.trans A13) (W1.monoS (s:={ s with heap:=h',toks:=tk }) A13) (W1.stS (s:={ s with heap:=h',toks:=tk }) A13 hst') e hQ⟩
  ·obtain ⟨rfl,rfl⟩:=pair_inj e
   refine stp_inv e2 λσa e1 e2=>?_
   refine wpN_step (ht (s:={ s with heap:=h',toks:=tk }) hR I1 e1 R1 λs2 I2 A2=>?_)
   refine wpN_bind (hb hR I2 e2 λγ3 sg3 f3 s3 I3 A3 F3=>?_)
   have A13:=A2.trans A3
   cases f3 <;> first | exact F3.elim | skip
   exact wpN_pure (hQ _ _ _ _ I3 (A1.trans A13) (F3.up (A1.trans A2).there))
theorem N_For {M:Model} {target iter:Expr} {body:List Stmt} {pos:Pos} {Q:Flow→Shared→Prop} (hs:∀ x,foldedSetIterable iter env x=pure x)
  (h:wpN M A (eval iter env) (λx s₁=>wpN M A (pyIter x) (λit s₂ =>
   codeN M (A.mark none) (.forLoop target it body [] env) (λr s'=>match r with | .ok f=>Q f s' | .error e=>cameBackBy M A env E e s') s₂) E s₁) E s):wpN M A (exec (.For target iter body [] pos) env) Q E s:=by
 rw [exec_For]
 refine wpN_standAt (wpN_bind (wpN_mono h (λx s₁ h₁=>?_) λ_ _ z=>z))
 rw [hs x]
 exact wpN_step (wpAny_pure (wpN_standAt (wpN_bind (wpN_holding (wpN_mono h₁ (λit s₂ h₂=>wpN_runOwn rfl h₂ nofun) λ_ _ z=>z)))))
theorem TS_for {target iter:Expr} {body:List Stmt} {pos:Pos} {tg:List Nat} {im:IT} {b:MSs} (hs:∀ x,foldedSetIterable iter env x=pure x) (ht:TA C pl n target env tg) (hi:TI C pl n (eval iter env) (evI T cf im)) (hb:TS C pl n (execs body env) (exSs T cf b)) :
  TS C pl n (exec (.For target iter body [] pos) env) (exS T cf (.for_ tg im b)):=by
 intro A E Q γ sg σ s z σ' hR I e hQ
 refine kfor_inv (rs:=evI T cf im σ) e λxs σ1 e1 e=>?_
 refine N_For hs (hi hR I e1 λγ1 sg1 v1 s1 I1 A1 X1=>.of (iter_make I1 X1 λγ2 it fp P St s2 I2 A2 W2 hst hn=>?_))
 have hn0:s.heap.get? it=none:=by
  cases q:s.heap.get? it with
  | none=>rfl
  | some o=>obtain ⟨o',h⟩:=A1.there it o q; rw [hn] at h; cases h
 exact code_for ht hb (λa t g=>(I.dom a t g).1) hn0 xs.length (k:=0) (A:=A.mark none) hR (by omega) I2 (A1.trans A2).toAdvS W2 hst e λγ3 sg3 f3 s3 I3 A3 F3=>hQ _ _ _ _ I3 A3 F3
end
theorem clos_go {env:Env} (f:Str×NameKind→List (Str×Addr)→Sem (ForInStep (List (Str×Addr)))) (h1:∀ n k cs,k≠.free→f (n,k) cs=pure (.yield cs)) (h2:∀ n c cs,env.cells.lookup n=some c→f (n,.free) cs=pure (.yield ((n,c) :: cs))) :
  ∀ (r:List (Str×NameKind)) (acc:List (Str×Addr)),(∀ x∈r,x.2=.free→∃ c,env.cells.lookup x.1=some c)→(∀ n,acc.lookup n=none∨acc.lookup n=env.cells.lookup n) →
   ∃ acc',forIn r acc f=pure acc'∧(∀ n,acc'.lookup n=none∨acc'.lookup n=env.cells.lookup n)∧(∀ n,acc.lookup n≠none→acc'.lookup n≠none)∧(∀ x∈r,x.2=.free→acc'.lookup x.1≠none):=by
 intro r
 induction r with
 | nil=>intro acc _ hA; exact ⟨acc,rfl,hA,λ_ h=>h,λx h=>nomatch h⟩
 | cons x r ih =>
  intro acc hr hA
  obtain ⟨n,k⟩:=x
  by_cases hk:k=.free
  ·subst hk
   obtain ⟨c,hc⟩:=hr (n,.free) (.head _) rfl
   have hA':∀ m,((n,c) :: acc).lookup m=none∨((n,c) :: acc).lookup m=env.cells.lookup m:=λm=>by
    rw [List.lookup_cons]
    cases q:m == n with
    | true=>rw [eq_of_beq q]; exact .inr hc.symm
    | false=>exact hA m
   obtain ⟨acc',e1,e2,e3,e4⟩:=ih ((n,c) :: acc) (λy hy=>hr y (.tail _ hy)) hA'
   refine ⟨acc',?_,e2,λm hm=>e3 m ?_,λy hy hf=>?_⟩
   ·rw [List.forIn_cons,h2 n c acc hc,pure_bind]; exact e1
   ·rw [List.lookup_cons]
    cases q:m == n with
    | true=>nofun
    | false=>exact hm
   ·rcases List.mem_cons.mp hy with rfl | hy
    ·refine e3 _ ?_
     rw [List.lookup_cons_self]; nofun
    ·exact e4 y hy hf
  ·obtain ⟨acc',e1,e2,e3,e4⟩:=ih acc (λy hy=>hr y (.tail _ hy)) hA
   refine ⟨acc',?_,e2,e3,λy hy hf=>?_⟩
   ·rw [List.forIn_cons,h1 n k acc hk,pure_bind]; exact e1
   ·rcases List.mem_cons.mp hy with rfl | hy
    ·exact absurd hf hk
    ·exact e4 y hy hf
theorem clos_ok {env:Env} {scope:Scope} (h:∀ x∈scope.names,x.2=.free→∃ c,env.cells.lookup x.1=some c) :
  ∃ cl,closureFor scope env=pure cl∧∀ x∈scope.names,x.2=.free→cl.lookup x.1=env.cells.lookup x.1:=by
 have key:=clos_go (env:=env) (λp cs=>match p with | (name,kind)=>if (kind == .free)=true then (do let c ←cellOf env name; pure (ForInStep.yield ((name,c) :: cs))) else pure (ForInStep.yield cs))
  (λn k cs hk=>by
   have:(k == NameKind.free)=false:=by simpa using hk
   simp only [this,Bool.false_eq_true,if_false]) (λn c cs hc=>by
   show (do let c ←cellOf env n; pure (ForInStep.yield ((n,c) :: cs)):Sem _)=_
   unfold cellOf; rw [hc]; rfl) scope.names [] h (λn=>.inl rfl)
 obtain ⟨cl,e1,e2,e3,e4⟩:=key
 refine ⟨cl,?_,λx hx hf=>(e2 x.1).resolve_left (e4 x hx hf)⟩
 unfold closureFor
 show forIn scope.names [] _ >>= pure=pure cl
 rw [bind_pure]
 exact e1
noncomputable def compCx (cx:Cx) (scope:Scope) (ts:List (Nat×Str)):Cx :=
 ⟨{ scope with names:=scope.names.map λ(n,k)=>if (k == .free && cx.scope.kind == .function && cx.scope.names.lookup n == some .cell) then (n,.cell) else (n,k) },ts.map (λp=>(p.2,p.1)) ++ cx.ix⟩
noncomputable def compOk (cx:Cx) (scope:Scope) (ts:List (Nat×Str)):Bool :=
 scope.kind == .function && scope.names.all (λx=>match x.2 with
  | .local=>scope.names.lookup x.1 == some .local && (x.1 == (".0":Str) || ts.any λp=>p.2 == x.1)
  | .free=>(cx.scope.names.lookup x.1 == some .cell || cx.scope.names.lookup x.1 == some .free) && (cx.ix.lookup x.1).isSome && ts.all λp=>p.2 != x.1
  | .globalImplicit=>true
  | _=>false) && (ts.all λp=>cx.ix.all λq=>q.2 != p.1) && (cx.ix.lookup (".0":Str)).isNone && !ts.isEmpty && decide (ts.map (·.1)).Nodup && decide (ts.map (·.2)).Nodup
noncomputable def compPl (pl:Nat→Option Place) (ts:List (Nat×Str)) (L:Addr):Nat→Option Place:=λj=>match ts.lookup j with
 | some x=>some (.loc L x)
 | none=>pl j
theorem lookup_mem {α β:Type} [BEq α] [LawfulBEq α]:∀ {l:List (α×β)} {a:α} {b:β},l.lookup a=some b→(a,b)∈l
 | [],_,_,h=>by simp at h
 | (x,y) :: r,a,b,h=>by
  rw [List.lookup_cons] at h
  cases q:a == x with
  | true=>rw [q] at h; cases h; rw [eq_of_beq q]; exact .head _
  | false=>rw [q] at h; exact .tail _ (lookup_mem h)
theorem lookup_of_mem {α β:Type} [BEq α] [LawfulBEq α]:∀ {l:List (α×β)} {a:α} {b:β},(l.map (·.1)).Nodup→(a,b)∈l→l.lookup a=some b
 | (x,y) :: r,a,b,hd,h=>by
  rw [List.map_cons,List.nodup_cons] at hd
  rw [List.lookup_cons]
  rcases List.mem_cons.mp h with e | h2
  ·cases e; rw [beq_self_eq_true]
  ·have:(a == x)=false:=by
    rw [beq_eq_false_iff_ne]
    intro e
    exact hd.1 (List.mem_map.mpr ⟨_,h2,e⟩)
   rw [this]; exact lookup_of_mem hd.2 h2
theorem lookup_none {α β:Type} [BEq α] [LawfulBEq α]:∀ {l:List (α×β)} {a:α},(∀ b,(a,b) ∉ l)→l.lookup a=none:=by
 intro l a h
 cases q:l.lookup a with
 | none=>rfl
 | some b=>exact absurd (lookup_mem q) (h b)
theorem lookup_append {α β:Type} [BEq α] [LawfulBEq α] {l m:List (α×β)} {a:α}:(l ++ m).lookup a=(l.lookup a).or (m.lookup a):=by
 rw [List.lookup_append]
theorem lookup_map {α β γ:Type} [BEq α] [LawfulBEq α] (g:α→β→γ):∀ {l:List (α×β)} {a:α},(l.map λp=>(p.1,g p.1 p.2)).lookup a=(l.lookup a).map (g a)
 | [],_=>rfl
 | (x,y) :: r,a=>by
  rw [List.map_cons,List.lookup_cons,List.lookup_cons]
  cases q:a == x with
  | true=>rw [eq_of_beq q]; rfl
  | false=>exact lookup_map g
structure CompFacts (cx:Cx) (scope:Scope) (ts:List (Nat×Str)):Prop where
 kind:scope.kind=.function
 loc:∀ x∈scope.names,x.2=.local→scope.names.lookup x.1=some .local
 tgt:∀ x∈scope.names,x.2=.local→x.1=(".0":Str)∨∃ p∈ts,p.2=x.1
 fre:∀ x∈scope.names,x.2=.free→(cx.scope.names.lookup x.1=some .cell∨cx.scope.names.lookup x.1=some .free)∧(∃ i,cx.ix.lookup x.1=some i)∧∀ p∈ts,p.2≠x.1
 cel:∀ x∈scope.names,x.2≠.cell
 ind:∀ p∈ts,∀ q∈cx.ix,q.2≠p.1
 dot:cx.ix.lookup (".0":Str)=none
 ne:ts≠[]
 nd1:(ts.map (·.1)).Nodup
 nd2:(ts.map (·.2)).Nodup
theorem compOk_of {cx scope ts} (h:compOk cx scope ts=true):CompFacts cx scope ts:=by
 unfold compOk at h
 simp only [Bool.and_eq_true,decide_eq_true_eq,Bool.not_eq_true'] at h
 obtain ⟨⟨⟨⟨⟨⟨h1,h2⟩,h3⟩,h4⟩,h5⟩,h6⟩,h7⟩:=h
 rw [List.all_eq_true] at h2 h3
 refine ⟨eq_of_beq h1,λx hx hk=>?_,λx hx hk=>?_,λx hx hk=>?_,λx hx hk=>?_,λp hp q hq e=>?_,by simpa using h4,(λe=>by rw [e] at h5; cases h5),h6,h7⟩
 ·have:=h2 x hx
  rw [hk] at this
  simp only [Bool.and_eq_true,beq_iff_eq] at this
  exact this.1
 ·have:=h2 x hx
  rw [hk] at this
  simp only [Bool.and_eq_true,Bool.or_eq_true,beq_iff_eq,List.any_eq_true] at this
  exact this.2
 ·have:=h2 x hx
  rw [hk] at this
  simp only [Bool.and_eq_true,Bool.or_eq_true,beq_iff_eq,List.all_eq_true,bne_iff_ne,Option.isSome_iff_exists] at this
  exact ⟨this.1.1,this.1.2,this.2⟩
 ·have:=h2 x hx
  rw [hk] at this
  cases this
 ·have:=h3 p hp
  rw [List.all_eq_true] at this
  have:=this q hq
  rw [e] at this
  simp at this
section
variable {C:Cfg} {pl:Nat→Option Place} {n:Nat} {T:Tabs} {cf:CF} {env:Env} {cx:Cx}
variable {A:Around} {E:Value→Shared→Prop} {γ γ':Gam} {sg sg':List Addr} {σ σ':St} {s:Shared} {k:Nat}
theorem relabel_cx (H:EnvOk pl cx env) (scope:Scope) (ts:List (Nat×Str)):relabel scope env=(compCx cx scope ts).scope:=by
 unfold relabel compCx Env.kindOf
 rw [H.scope]
theorem relabel_kind {cx:Cx} {scope:Scope} {ts} {x:Str} {k:NameKind} (h:(compCx cx scope ts).scope.names.lookup x=some k):∃ k',scope.names.lookup x=some k'∧(k=k'∨(k=.cell∧k'=.free)):=by
 have e:(compCx cx scope ts).scope.names=scope.names.map λp=>(p.1,(λn k=>if (k == .free && cx.scope.kind == .function && cx.scope.names.lookup n == some .cell) then .cell else k) p.1 p.2):=by
  unfold compCx
  dsimp only
  refine List.map_congr_left λp _=>?_
  obtain ⟨n,k⟩:=p
  dsimp only
  split <;> rfl
 rw [e,lookup_map (λn k=>if (k == NameKind.free && cx.scope.kind == ScopeKind.function && cx.scope.names.lookup n == some NameKind.cell)=true then NameKind.cell else k)] at h
 obtain ⟨k',h1,h2⟩:=Option.map_eq_some_iff.mp h
 refine ⟨k',h1,?_⟩
 split at h2
 ·rename_i q
  simp only [Bool.and_eq_true,beq_iff_eq] at q
  exact .inr ⟨h2.symm,q.1.1⟩
 ·exact .inl h2.symm
theorem envOk_comp (H:EnvOk pl cx env) {scope:Scope} {ts:List (Nat×Str)} (F:CompFacts cx scope ts) {cl:List (Str×Addr)} (hcl:∀ x∈scope.names,x.2=.free→cl.lookup x.1=env.cells.lookup x.1) (L:Addr) :
  EnvOk (compPl pl ts L) (compCx cx scope ts) (compEnvC scope cl L env):=by
 refine ⟨relabel_cx H scope ts,F.kind,H.globals,H.builtins,λx i h1 h2=>?_,λi h=>?_,λx i h1 h2=>?_⟩
 ·obtain ⟨k',h3,h4⟩:=relabel_kind h2
  have hk:k'=.local:=by
   rcases h4 with e | ⟨e,_⟩
   ·exact e.symm
   ·cases e
  subst hk
  have hm:=lookup_mem h3
  have e1:((ts.map λp=>(p.2,p.1)) ++ cx.ix).lookup x=some i:=h1
  rw [lookup_append] at e1
  rcases F.tgt _ hm rfl with hx | ⟨p,hp,hx⟩
  ·have hx:x=(".0":Str):=hx
   subst hx
   rw [F.dot,Option.or_none] at e1
   have hm2:=lookup_mem e1
   obtain ⟨q,hq,e⟩:=List.mem_map.mp hm2
   have e4:q.1=i:=congrArg Prod.snd e
   have e5:q.2=(".0":Str):=congrArg Prod.fst e
   unfold compPl
   rw [←e4,lookup_of_mem F.nd1 (show (q.1,q.2)∈ts from hq),e5]
   rfl
  ·have hx:p.2=x:=hx
   have e2:(ts.map λp=>(p.2,p.1)).lookup x=some p.1:=lookup_of_mem (by rw [List.map_map]; exact F.nd2) (List.mem_map.mpr ⟨p,hp,by rw [hx]⟩)
   rw [e2] at e1
   cases e1
   unfold compPl
   rw [lookup_of_mem F.nd1 (show (p.1,x)∈ts from hx ▸ hp)]
   rfl
 ·have h1:ts.lookup i=none:=lookup_none λx hx=>h x (List.mem_append_left _ (List.mem_map.mpr ⟨_,hx,rfl⟩))
  show (match ts.lookup i with | some x=>some (Place.loc L x) | none=>pl i)=none
  rw [h1]
  exact H.dom i λx hx=>h x (List.mem_append_right _ hx)
 ·have key:∃ k',scope.names.lookup x=some k'∧k'=.free:=by
   rcases h2 with h2 | h2 <;> obtain ⟨k',h3,h4⟩:=relabel_kind h2 <;> rcases h4 with e | ⟨_,e⟩
   ·exact absurd e.symm (F.cel _ (lookup_mem h3))
   ·exact ⟨k',h3,e⟩
   ·exact ⟨k',h3,e.symm⟩
   ·exact ⟨k',h3,e⟩
  obtain ⟨k',h3,rfl⟩:=key
  have hm:=lookup_mem h3
  obtain ⟨f1,⟨j,f2⟩,f3⟩:=F.fre _ hm rfl
  have e1:((ts.map λp=>(p.2,p.1)) ++ cx.ix).lookup x=some i:=h1
  have e2:(ts.map λp=>(p.2,p.1)).lookup x=none:=lookup_none λb hb=>by
   obtain ⟨q,hq,e⟩:=List.mem_map.mp hb
   cases e
   exact f3 q hq rfl
  rw [lookup_append,e2,Option.none_or] at e1
  obtain ⟨c,g1,g2⟩:=H.cel x i e1 f1
  refine ⟨c,(hcl _ hm rfl).trans g1,?_⟩
  have e3:ts.lookup i=none:=lookup_none λb hb=>F.ind _ hb _ (lookup_mem e1) rfl
  show (match ts.lookup i with | some x=>some (Place.loc L x) | none=>pl i)=_
  rw [e3]; exact g2
theorem Inv.enter (I:Inv C pl γ sg σ s) (H:EnvOk pl cx env) {scope:Scope} {ts:List (Nat×Str)} (F:CompFacts cx scope ts) {h':Heap} {tk:Nat} {m:Str→Option Value} {o:Obj}
  (hn:h'.Ns s.heap.objs.size m) (hs:Heap.SameBut s.heap.objs.size (s.heap.push o) h') :
  Inv C (compPl pl ts s.heap.objs.size) (γ.upd s.heap.objs.size (some .ns)) sg σ { s with heap:=h',toks:=tk }∧Adv γ sg s (γ.upd s.heap.objs.size (some .ns)) sg { s with heap:=h',toks:=tk }:=by
 have hlt:∀ a o,s.heap.get? a=some o→a≠s.heap.objs.size:=λa o e=>Nat.ne_of_lt (Heap.lt_size e)
 have hk:∀ a x,s.heap.get? a=some x→h'.get? a=some x:=λa x e=>(hs.2 a (hlt a x e)).trans (Heap.get?_push_of_some _ e)
 have he:∀ a x,s.heap.get? a=some x→γ.upd s.heap.objs.size (some .ns) a=γ a:=λa x e=>Gam.upd_ne _ _ (hlt a x e)
 have I1:=I.grow (γ':=γ.upd s.heap.objs.size (some .ns)) (s':={ s with heap:=h',toks:=tk }) rfl rfl hk he λa t e q=>by
  unfold Gam.upd at e
  split at e
  ·rename_i h; subst h
   obtain ⟨ob,_,_,h1,_⟩:=hn
   exact ⟨⟨ob,h1⟩,I.new q⟩
  ·obtain ⟨⟨o',ho⟩,_⟩:=I.dom a t e
   rw [q] at ho; cases ho
 have off:∀ i x,ts.lookup i=some x→pl i=none:=λi x e=>H.dom i λy hy=>F.ind _ (lookup_mem e) _ hy rfl
 refine ⟨⟨I1.gens,I1.os,I1.keep,I1.dom,λi p e=>?_,λi j p e1 e2=>?_,λi x e=>?_,I1.len,I1.store⟩,adv_grow hk he λa t e=>(I.dom a t e).1⟩
 ·unfold compPl at e
  split at e
  ·cases e; exact ⟨Gam.upd_self ..,m,hn⟩
  ·exact I1.ok i p e
 ·unfold compPl at e1 e2
  have old:∀ i p x,pl i=some p→p=.loc s.heap.objs.size x→False:=λi p x e q=>by
   subst q
   obtain ⟨o,ho⟩:=Place.ok_at (I.ok i _ e)
   exact hlt _ _ ho rfl
  split at e1
  ·rename_i x h1
   cases e1
   split at e2
   ·rename_i y h2
    cases e2
    have m1:=lookup_mem h1
    have m2:=lookup_mem h2
    have:(ts.map λp=>(p.2,p.1)).lookup x=some i:=lookup_of_mem (by rw [List.map_map]; exact F.nd2) (List.mem_map.mpr ⟨_,m1,rfl⟩)
    have h3:(ts.map λp=>(p.2,p.1)).lookup x=some j:=lookup_of_mem (by rw [List.map_map]; exact F.nd2) (List.mem_map.mpr ⟨_,m2,rfl⟩)
    rw [this] at h3; cases h3; rfl
   ·exact (old _ _ _ e2 rfl).elim
  ·split at e2
   ·cases e2; exact (old _ _ _ e1 rfl).elim
   ·exact I1.inj _ _ _ e1 e2
 ·obtain ⟨p,v,h1,h2,h3⟩:=I1.vars i x e
  refine ⟨p,v,?_,h2,h3⟩
  unfold compPl
  cases q:ts.lookup i with
  | none=>exact h1
  | some y=>have:=off i y q; rw [h1] at this; cases this
theorem unset_get {is:List Nat}:∀ {vs:List (Option LV)} {i:Nat} {x:LV},((unset is vs)[i]?).join=some x→i ∉ is∧(vs[i]?).join=some x:=by
 induction is with
 | nil=>intro vs i x h; exact ⟨nofun,h⟩
 | cons j js ih =>
  intro vs i x h
  have h:((unset js (vs.set j none))[i]?).join=some x:=h
  obtain ⟨h1,h2⟩:=ih h
  rw [List.getElem?_set] at h2
  split at h2
  ·split at h2 <;> cases h2
  ·rename_i q
   refine ⟨λhm=>?_,h2⟩
   rcases List.mem_cons.mp hm with e | hm
   ·exact q e.symm
   ·exact h1 hm
theorem Inv.leave {ts:List (Nat×Str)} {L:Addr} (I:Inv C (compPl pl ts L) γ sg σ s) (off:∀ i x,ts.lookup i=some x→pl i=none):Inv C pl γ sg { σ with vars:=unset (ts.map (·.1)) σ.vars } s:=by
 have up:∀ i p,pl i=some p→compPl pl ts L i=some p:=λi p e=>by
  unfold compPl
  cases q:ts.lookup i with
  | none=>exact e
  | some y=>have:=off i y q; rw [e] at this; cases this
 refine ⟨I.gens,I.os,I.keep,I.dom,λi p e=>I.ok i p (up i p e),λi j p e1 e2=>I.inj i j p (up i p e1) (up j p e2),λi x e=>?_,I.len,I.store⟩
 obtain ⟨h1,h2⟩:=unset_get ((gv_eq _ _).symm.trans e)
 obtain ⟨p,v,h3,h4,h5⟩:=I.vars i x ((gv_eq _ _).trans h2)
 refine ⟨p,v,?_,h4,h5⟩
 unfold compPl at h3
 cases q:ts.lookup i with
 | none=>rw [q] at h3; exact h3
 | some y=>exact absurd (List.mem_map.mpr ⟨_,lookup_mem q,rfl⟩) h1
theorem Inv.offNs {b:Addr} {s':Shared} (I:Inv C pl γ sg σ s) (ht:γ b=some .ns) (hp:∀ i p,pl i=some p→p.addr≠b) (h1:s'.gens=s.gens) (h2:s'.os=s.os) (hs:Heap.SameBut b s.heap s'.heap) (hx:∃ o,s'.heap.get? b=some o):Inv C pl γ sg σ s':=by
 have q:∀ a o,γ a≠some .ns→s.heap.get? a=some o→s'.heap.get? a=some o:=λa o n g=>(hs.2 a λe=>by subst e; exact n ht).trans g
 have kp:Kept γ sg s.heap γ sg s'.heap:=⟨λ_ _ e _=>e,λa o e g=>q a o (by rw [e]; nofun) g,List.prefix_refl _⟩
 refine ⟨h1.trans I.gens,h2.trans I.os,λc o e=>?_,λa t e=>?_,λj p e=>?_,I.inj,λj z e=>?_,I.len,λk o c e1 e2=>?_⟩
 ·refine q c o (λh=>?_) (I.keep c o e)
  have:=(I.dom _ _ h).2
  rw [e] at this; cases this
 ·obtain ⟨⟨o,ho⟩,h⟩:=I.dom a t e
  by_cases r:a=b
  ·subst r; exact ⟨hx,h⟩
  ·exact ⟨⟨o,(hs.2 a r).trans ho⟩,h⟩
 ·exact Place.ok_to (I.ok j p e) rfl λo h=>(hs.2 _ (hp j p e)).trans h
 ·obtain ⟨p,v,h1,h2,h3⟩:=I.vars j z e
  exact ⟨p,v,h1,Place.has_to h2 λo h=>(hs.2 _ (hp j p h1)).trans h,h3.mono kp λa o e1 e2=>⟨e1,q a o (by rw [e1]; intro h; cases h) e2⟩⟩
 ·refine (I.store k o c e1 e2).mono kp λa o h g=>⟨rfl,q a o (λe=>?_) g⟩
  rcases h with h | ⟨f,h⟩ | h <;> (rw [h] at e; cases e)
end
noncomputable def KL (C:Cfg) (pl:Nat→Option Place) (γ:Gam) (sg:List Addr) (s:Shared) (env:Env) (σ':St) (Q:Unit→Shared→Prop):Prop:=∀ s',Inv C pl γ sg σ' s'→AdvS γ sg s γ sg s'→(∀ a o,a≠env.locals→s.heap.get? a=some o→s'.heap.get? a=some o)→Q () s'
section
variable {C:Cfg} {pl:Nat→Option Place} {n:Nat} {T:Tabs} {cf:CF} {env:Env} {cx:Cx}
variable {A:Around} {E:Value→Shared→Prop} {γ γ':Gam} {sg sg':List Addr} {σ σ':St} {s:Shared} {k:Nat}
theorem wp_storeL {i:Nat} {x:Str} {lv:LV} {v:Value} (I:Inv C pl γ sg σ s) (H:EnvOk pl cx env) (hi:cx.ix.lookup x=some i) (hk:cx.scope.names.lookup x=some .local) (R:LVOk γ sg s.heap (.var i) lv v) {Q:Unit→Shared→Prop}
  (hQ:KL C pl γ sg s env (σ.set i lv) Q):wpAny (model C.prog C.w) A (storeName env x v) Q E s:=by
 have hkk:env.scope.kind=.function:=H.scope ▸ H.kind
 have hko:env.kindOf x=cx.scope.names.lookup x:=by unfold Env.kindOf; rw [H.scope]
 have hp:=H.loc x i hi hk
 obtain ⟨htag,m,hn⟩:=I.ok i _ hp
 refine wpAny_storeName_local (hko.trans hk) hn (λh' hn' hs=>?_) (by rw [hkk]; rfl)
 refine (λ(q:_∧_)=>hQ _ q.1 q.2 λa o n g=>(hs.2 a n).trans g) (I.stored (s':={ s with heap:=h',toks:=s.toks + 1 }) hp rfl rfl hs ⟨_,hn',by simp⟩ (λj q u hq hj hh=>?_) (λj q hj ha=>?_) R)
 ·cases q with
  | loc L y =>
   obtain ⟨m',h1,h2⟩:=hh
   by_cases e:L=env.locals
   ·subst e
    have hy:y≠x:=λe=>by subst e; exact hq rfl
    refine ⟨_,hn',?_⟩
    rw [if_neg hy,←h1.agree hn y]; exact h2
   ·exact ⟨m',h1.sameBut hs e,h2⟩
  | cell c =>
   have:c≠env.locals:=λe=>by
    subst e
    have:=(I.ok j _ hj).1
    rw [htag] at this; cases this
   exact IsCell_to hh λo h=>(hs.2 c this).trans h
 ·cases q with
  | loc L y =>
   have:L=env.locals:=ha
   subst this
   exact ⟨htag,_,hn'⟩
  | cell c =>
   have:c=env.locals:=ha
   subst this
   have:=(I.ok j _ hj).1
   rw [htag] at this; cases this
theorem wp_bindTL {ts:List (Str×(Value→Sem Unit))} (H:EnvOk pl cx env) (ht:∀ p∈ts,∀ {A:Around} {E:Value→Shared→Prop} {s:Shared} {Q:Unit→Shared→Prop} v,wpAny (model C.prog C.w) A (storeName env p.1 v) Q E s→wpAny (model C.prog C.w) A (p.2 v) Q E s) :
  ∀ {is:List Nat} {l:List Val} {items:List Value} {γ sg σ σ' s} {Q:Unit→Shared→Prop},(ts.length=is.length∧∀ q∈ts.zip is,cx.ix.lookup q.1.1=some q.2∧cx.scope.names.lookup q.1.1=some .local)→Inv C pl γ sg σ s→bindT is l σ=some σ'→Reps γ sg s.heap l items →
   KL C pl γ sg s env σ' Q→wpAny (model C.prog C.w) A (assignInOrder (ts.map (·.2)) items) Q E s:=by
 induction ts with
 | nil =>
  intro is l items γ sg σ σ' s Q hz I e R hQ
  cases is with
  | nil=>cases l with
   | nil =>
    obtain rfl:=sj (e:some σ=some σ')
    obtain rfl:items=[]:=R.inv
    exact wpAny_pure (hQ _ I .refl λ_ _ _ g=>g)
   | cons=>exact nsm e
  | cons=>exact absurd hz.1 (by simp)
 | cons t ts ih =>
  intro is l items γ sg σ σ' s Q hz I e R hQ
  cases is with
  | nil=>exact absurd hz.1 (by simp)
  | cons i is=>cases l with
   | nil=>exact nsm e
   | cons x l =>
    obtain ⟨v,vs,rfl,r,R⟩:=R.inv
    show wpAny _ _ (do holding vs (t.2 v); assignInOrder (ts.map (·.2)) vs) _ _ _
    obtain ⟨h1,h2⟩:=hz.2 (t,i) (.head _)
    refine wpAny_bind (wpAny_holding (ht t (.head _) v (wp_storeL (lv:=.val x) I H h1 h2 r λs1 I1 A1 B1=>?_)))
    exact ih (λp hp=>ht p (.tail _ hp)) ⟨by simpa using hz.1,λq hq=>hz.2 q (.tail _ hq)⟩ I1 e (R.mono A1.kept) λs2 I2 A2 B2=>hQ _ I2 (A1.trans A2) λa o n g=>B2 a o n (B1 a o n g)
noncomputable def TAL (C:Cfg) (pl:Nat→Option Place) (n:Nat) (target:Expr) (env:Env) (tg:List Nat):Prop :=
 ∀ {A:Around} {E:Value→Shared→Prop} {Q:Unit→Shared→Prop} {γ sg σ s x v σ'},Room n A→Inv C pl γ sg σ s→bindTg tg x σ=some σ'→Rep γ sg s.heap x v →
  KL C pl γ sg s env σ' Q→wpAny (model C.prog C.w) A (assign target env v) Q E s
theorem TAL_name {x:Str} {p:Pos} {i:Nat} (H:EnvOk pl cx env) (hi:cx.ix.lookup x=some i) (hk:cx.scope.names.lookup x=some .local):TAL C pl n (.Name x p) env [i]:=by
 intro A E Q γ sg σ s y v σ' hR I e R hQ
 obtain rfl:=sj e
 exact wpAny_assign_Name (wp_storeL (lv:=.val y) I H hi hk R hQ)
theorem TAL_tuple {elts:List Expr} {kk:Nat} {tp:Pos} {xs:List Str} {is:List Nat} (H:EnvOk pl cx env) (hn:elts.map nameOf=xs.map some) (hl:xs.length=is.length) (h2:2≤is.length)
  (hx:∀ q∈xs.zip is,cx.ix.lookup q.1=some q.2∧cx.scope.names.lookup q.1=some .local):TAL C pl n (.Tuple elts kk tp) env is:=by
 intro A E Q γ sg σ s y v σ' hR I e R hQ
 obtain ⟨l,rfl,hlen,e⟩:=bindTg_two h2 e
 obtain ⟨t,vs,rfl,g,hh,q⟩:=R.inv
 have hsz:vs.toArray.size=xs.length:=by rw [List.size_toArray,q.length,hlen,hl]
 show wpAny _ _ (do standAt tp; unpack (.ref t) (assignEach elts env)) _ _ _
 refine wpAny_bind (wpAny_standAt ?_)
 obtain ⟨ts,t1,t2,t3,t4,t5⟩:=assignEach_names (env:=env) hn
 unfold unpack
 rw [t1,t3,t4]
 refine wpAny_bind (wpAny_holding ?_)
 have:=wpAny_unpackItems_tuple (prog:=C.prog) (w:=C.w) (A:=A) (E:=E) (Q:=λa s'=>wpAny (model C.prog C.w) A (assignInOrder (List.map (λx=>x.2) ts) a) Q E s') hR.1 hh λh' hx'=>?_
 ·rw [hsz] at this; exact this
 ·have hk:∀ b o,s.heap.get? b=some o→h'.get? b=some o:=λb o e=>hx' b o (Nat.ne_of_lt (Heap.lt_size e)) e
  have I2:=I.grow (γ':=γ) (s':={ s with heap:=h' }) rfl rfl hk (λ_ _ _=>rfl) λa t g q=>by
   obtain ⟨⟨o,ho⟩,_⟩:=I.dom a t g
   rw [q] at ho; cases ho
  have A2:Adv γ sg s γ sg { s with heap:=h' }:=adv_grow (s':={ s with heap:=h' }) hk (λ_ _ _=>rfl) λa t g=>(I.dom a t g).1
  have e0:vs.toArray.toList=vs:=by simp
  rw [e0]
  refine wp_bindTL H (λp hp=>t5 p hp) ⟨?_,?_⟩ I2 e (q.mono A2.kept) λs3 I3 A3 B3=>hQ _ I3 (A2.toAdvS.trans A3) λa o n g=>B3 a o n (hk a o g)
  ·rw [←hl,←t2,List.length_map]
  ·intro p hp
   refine hx (p.1.1,p.2) ?_
   rw [←t2]
   rw [List.zip_map_left]
   exact List.mem_map.mpr ⟨p,hp,rfl⟩
noncomputable def testsOf (ifs:List Expr) (env:Env):Sem Bool:=forIn ifs true λc r=>if r=true then do let ok ←isTrue c env (eval c env); pure (ForInStep.yield ok) else pure (ForInStep.yield r)
theorem TT_nil:TT C pl n (testsOf [] env) (evE T cf (.const (.bool true))):=by
 intro A E Q γ sg σ s r σ' b hR I e ht hQ
 obtain ⟨rfl,rfl⟩:=si2 (e:some (LV.val (.bool true),σ)=some (r,σ'))
 obtain rfl:=sj (ht:some true=some b)
 exact wpN_pure (hQ _ _ _ I .refl)
theorem TT_cond {c:Expr} {f} (h:TT C pl n (isTrue c env (eval c env)) f):TT C pl n (testsOf [c] env) f:=by
 intro A E Q γ sg σ s r σ' b hR I e ht hQ
 unfold testsOf
 simp only [List.forIn_cons,List.forIn_nil,if_true]
 exact wpN_bind (wpN_bind (h hR I e ht λγ1 sg1 s1 I1 A1=>wpN_pure (wpN_pure (hQ _ _ _ I1 A1))))
noncomputable def KC (C:Cfg) (pl:Nat→Option Place) (γ0:Gam) (sg0:List Addr) (s0:Shared) (D L:Addr) (σ':St) (zs:List Val) (R:Result→Shared→Prop):Prop:=∀ γ' sg' s' us' nn',Inv C pl γ' sg' σ' s'→Adv γ0 sg0 s0 γ' sg' s'→γ' D=some .prot→s'.heap.get? D=some (lstObj us' nn')→Reps γ' sg' s'.heap zs us'→γ' L=some .ns→R (.ok .next) s'
theorem comp_loop {elt target iter:Expr} {ifs:List Expr} {scope:Scope} {pos:Pos} {tg:List Nat} {c e:St→Option (LV×St)} {it D:Addr} {fp:List Addr} {items:List Val} {P:Nat→Value→Prop} {St:Nat→Heap→Prop} {γ0:Gam} {sg0:List Addr} {s0:Shared}
  (ht:TAL C pl n target env tg) (hc:TT C pl n (testsOf ifs env) c) (he:TE C pl n (eval elt env) e) (d0:∀ a t,γ0 a=some t→∃ o,s0.heap.get? a=some o) (hn:s0.heap.get? it=none) (hD:s0.heap.get? D=none) (hL:s0.heap.get? env.locals=none) (hDi:D≠it) (hDf:D ∉ fp) (hsz:items.length≤1000000) :
  ∀ (m:Nat) {k:Nat} {γ sg σ s zs σ' ys us nn} {R:Result→Shared→Prop},Room n A→k + m=items.length→Inv C pl γ sg σ s→Adv γ0 sg0 s0 γ sg s→Wk C γ sg s.heap it fp items P St→St k s.heap→γ D=some .prot→s.heap.get? D=some (lstObj us nn)→Reps γ sg s.heap ys us→ys.length≤k→γ env.locals=some .ns →
   compGo (compStep tg c e) (items.drop k) σ=some (zs,σ') →
   KC C pl γ0 sg0 s0 D env.locals σ' (ys ++ zs) R →
   codeN (model C.prog C.w) A (.compLoop (.ListComp elt [⟨target,iter,ifs,0⟩] scope pos) 0 (.ref it) (.ref D) env) R s:=by
 intro m
 induction m with
 | zero =>
  intro k γ sg σ s zs σ' ys us nn R hR hkm I A0 W hst gD oD rD hyk gL eq hQ
  have hk:k=items.length:=hkm
  subst hk
  rw [List.drop_length] at eq
  obtain ⟨rfl,rfl⟩:=si2 (eq:some ([],σ)=some (zs,σ'))
  refine codeN_of_tree ?_
  show wpN _ A ((compTurn (.ListComp elt [⟨target,iter,ifs,0⟩] scope pos) 0 (.ref it) (.ref D) env).onRaise (λx=>do noteFrame x env; theTreesLotGoes x)) _ _ s
  refine wpN_noted λE'=>?_
  rw [compTurn_list]
  refine wpN_standAt (wpN_step ((W.W A hR.1).done s _ _ hst λh' tk hk=>?_))
  have hk':∀ b o,b≠it→s.heap.get? b=some o→h'.get? b=some o:=λb o q e=>hk b o (by simpa using q) e
  have hγ:∀ b,b≠it→γ.upd it none b=γ b:=λb q=>Gam.upd_ne _ _ q
  have gLi:env.locals≠it:=λq=>by rw [q,W.tag] at gL; cases gL
  have kp:Kept γ sg s.heap (γ.upd it none) sg h':=⟨λa o e g=>by unfold Gam.upd; split <;> first | rfl | exact e,λa o e g=>hk' a o (λq=>by subst q; rw [W.tag] at e; cases e) g,List.prefix_refl _⟩
  refine wpN_pure (hQ (γ.upd it none) sg { s with heap:=h',toks:=tk } us nn (I.iterStep W.tag rfl rfl hk' hγ λt e=>?_) (A0.iterStep d0 hn hk' hγ) ((hγ D hDi).trans gD) (hk' D _ hDi oD) ?_ ((hγ _ gLi).trans gL))
  ·rw [Gam.upd_self] at e; cases e
  ·rw [List.append_nil]; exact rD.mono kp
 | succ m ih =>
  intro k γ sg σ s zs σ' ys us nn R hR hkm I A0 W hst gD oD rD hyk gL eq hQ
  have hk:k < items.length:=hkm ▸ Nat.lt_add_of_pos_right (Nat.zero_lt_succ m)
  rw [List.drop_eq_getElem_cons hk] at eq
  refine compGo_inv eq λz1 σb zr es er zz1=>?_; obtain rfl:=zz1
  refine compStep_inv es λσa y σc e1 e2 es=>?_
  refine codeN_of_tree ?_
  show wpN _ A ((compTurn (.ListComp elt [⟨target,iter,ifs,0⟩] scope pos) 0 (.ref it) (.ref D) env).onRaise (λx=>do noteFrame x env; theTreesLotGoes x)) _ _ s
  refine wpN_noted λE'=>?_
  rw [compTurn_list]
  refine wpN_standAt (wpN_step ((W.W A hR.1).item k s _ _ hk hst λv h' tk hP hst' hk'=>?_))
  have hk':∀ b o,b≠it→s.heap.get? b=some o→h'.get? b=some o:=λb o q e=>hk' b o (by simpa using q) e
  obtain ⟨oit,hoit,hqit⟩:=W.quiet _ _ hst'
  have I1:Inv C pl γ sg σ { s with heap:=h',toks:=tk }:=I.iterStep (s':={ s with heap:=h',toks:=tk }) W.tag rfl rfl hk' (λ_ _=>rfl) λt e=>⟨by rw [W.tag] at e; cases e; rfl,_,hoit⟩
  have A1:Adv γ0 sg0 s0 γ sg { s with heap:=h',toks:=tk }:=A0.iterStep d0 hn hk' λ_ _=>rfl
  have ne:∀ b,γ b=none→b≠it:=λb e q=>by subst q; rw [W.tag] at e; cases e
  have kp:Kept γ sg s.heap γ sg h':=⟨λ_ _ e _=>e,λa o e g=>hk' a o (ne a e) g,List.prefix_refl _⟩
  have W1:Wk C γ sg h' it fp items P St:=⟨W.W,W.tag,λb hb=>by
   by_cases q:b=it
   ·exact .inl q
   ·rcases W.fp b hb with h | ⟨g,o,h⟩
    ·exact .inl h
    ·exact .inr ⟨g,o,hk' b o q h⟩,λi v p x hx=>(W.val i v p x hx).mono kp,W.quiet⟩
  have R1:Rep γ sg h' items[k] v:=W1.val k v hP _ (List.getElem?_eq_getElem hk)
  refine wpN_step (letOwned (s:={ s with heap:=h',toks:=tk }) hoit hqit ?_)
  refine wpN_step (ht (s:={ s with heap:=h',toks:=tk }) hR I1 e1 R1 λs2 I2 A2 B2=>?_)
  have A02:Adv γ0 sg0 s0 γ sg s2:=A1.iterStep (it:=env.locals) d0 hL B2 λ_ _=>rfl
  have oD2:s2.heap.get? D=some (lstObj us nn):=A2.keepP D _ gD (hk' D _ hDi oD)
  have rD2:Reps γ sg s2.heap ys us:=(rD.mono kp).mono A2.kept
  have W2:=W1.monoS (s:={ s with heap:=h',toks:=tk }) A2
  have st2:=W1.stS (s:={ s with heap:=h',toks:=tk }) A2 hst'
  obtain ⟨ht2,z,e3,rfl⟩ | ⟨ht2,rfl,rfl⟩:=es
  ·refine wpN_bind (hc hR I2 e2 ht2 λγ3 sg3 s3 I3 A3=>?_)
   dsimp only
   rw [if_pos rfl]
   refine wpN_bind (wpN_bind (he.val hR I3 e3 λγ4 sg4 v4 s4 I4 A4 R4=>?_))
   have A24:=A3.trans A4
   have gD4:=A24.prot D gD
   have oD4:=A24.keepP D _ gD oD2
   have rD4:=rD2.mono A24.kept
   refine wpN_step (wpAny_list_append_plain ⟨nn,oD4⟩ (λh5 hl5 hs5=>wpN_pure (wpN_pure ?_)) (by rw [List.size_toArray,rD4.length,sizeLine_eq]; omega))
   obtain ⟨nn5,o5⟩:=hl5
   have e5:us.toArray.push v4=(us ++ [v4]).toArray:=by simp
   rw [e5] at o5
   have hk5:∀ b o,b≠D→s4.heap.get? b=some o→h5.get? b=some o:=λb o q g=>(hs5.2 b q).trans g
   have kp5:Kept γ4 sg4 s4.heap γ4 sg4 h5:=⟨λ_ _ e _=>e,λa o e g=>hk5 a o (λq=>by subst q; rw [gD4] at e; cases e) g,List.prefix_refl _⟩
   have I5:Inv C pl γ4 sg4 σb { s4 with heap:=h5 }:=I4.iterStep (s':={ s4 with heap:=h5 }) gD4 rfl rfl hk5 (λ_ _=>rfl) λt e=>⟨by rw [gD4] at e; cases e; rfl,_,o5⟩
   have A05:Adv γ0 sg0 s0 γ4 sg4 { s4 with heap:=h5 }:=(A02.trans A24).iterStep d0 hD hk5 λ_ _=>rfl
   have W4:=W2.mono A24
   have st4:=W2.st A24 st2
   obtain ⟨oi4,hoi4,_⟩:=W4.quiet _ _ st4
   have W5:Wk C γ4 sg4 h5 it fp items P St:=by
    refine ⟨W4.W,W4.tag,λb hb=>?_,λi v p x hx=>(W4.val i v p x hx).mono kp5,W4.quiet⟩
    rcases W4.fp b hb with h | ⟨g,o,h⟩
    ·exact .inl h
    ·by_cases q:b=D
     ·subst q; exact .inr ⟨g,_,o5⟩
     ·exact .inr ⟨g,o,hk5 b o q h⟩
   have st5:St (k + 1) h5:=by
    refine (W4.W A hR.1).frame _ _ _ st4 λb hb o g=>?_
    by_cases q:b=D
    ·subst q; exact absurd hb hDf
    ·exact hk5 b o q g
   have gL5:γ4 env.locals=some .ns:=by
    obtain ⟨⟨oL,hoL⟩,_⟩:=I2.dom _ _ gL
    exact (A24.names _ _ _ gL (.inl rfl) hoL).1
   refine ⟨rfl,rfl,ih hR ((Nat.succ_add k m).trans hkm) I5 A05 W5 st5 gD4 o5 ((rD4.mono kp5).append (Reps.one (R4.mono kp5))) (by rw [List.length_append]; exact Nat.succ_le_succ hyk) gL5 er λγ6 sg6 s6 us6 nn6 I6 A6 g6 o6 r6 gl6=>hQ γ6 sg6 s6 us6 nn6 I6 A6 g6 o6 ?_ gl6⟩
   simpa using r6
  ·refine wpN_bind (hc hR I2 e2 ht2 λγ3 sg3 s3 I3 A3=>?_)
   dsimp only
   rw [if_neg (by decide)]
   refine wpN_pure ⟨rfl,rfl,ih hR ((Nat.succ_add k m).trans hkm) I3 (A02.trans A3) (W2.mono A3) (W2.st A3 st2) (A3.prot D gD) (A3.keepP D _ gD oD2) (rD2.mono A3.kept) (Nat.le_succ_of_le hyk) (by obtain ⟨⟨oL,hoL⟩,_⟩:=I2.dom _ _ gL; exact (A3.names _ _ _ gL (.inl rfl) hoL).1) er λγ6 sg6 s6 us6 nn6 I6 A6 g6 o6 r6 gl6=>hQ γ6 sg6 s6 us6 nn6 I6 A6 g6 o6 ?_ gl6⟩
   simpa using r6
noncomputable def compPostN (M:Model) (A:Around) (E:Value→Shared→Prop) (use:Option (Value→Sem Unit)) (Q:Value→Shared→Prop) (acc:Value) (L:Addr) (r:Result) (s':Shared):Prop :=
 match r,use with
 | .ok _,none=>∃ m,s'.heap.Ns L m∧∀ h',(∃ m',h'.Ns L m')→Heap.SameBut L s'.heap h'→Q acc { s' with heap:=h' }
 | .ok _,some u=>wpN M A (u acc) (λ_ s''=>∃ m,s''.heap.Ns L m∧∀ h',(∃ m',h'.Ns L m')→Heap.SameBut L s''.heap h'→Q .none { s'' with heap:=h' }) E s'
 | .error _,_=>False
theorem N_newEnv {M:Model} {scope:Scope} {globals:Addr} {closure:List (Str×Addr)} {qual:Str} {outer:Env} {Q:Env→Shared→Prop}
  (hc:∀ x∈scope.names,x.2≠.cell) (hk:scope.kind=.function)
  (hQ:∀ h',h'.Ns s.heap.objs.size (λx=>none)→Heap.SameBut s.heap.objs.size (s.heap.push { cls:=.type "dict",data:=.dict #[] }) h' →
   Q { scope,locals:=s.heap.objs.size,globals,cells:=closure,qual,func:=none,code:=outer.code,frame:=outer.frame,builtins:=outer.builtins } { s with heap:=h' }) :
  wpAny M A (newFunctionEnv scope globals closure [] qual none .none (some outer)) Q E s :=
 wpAny_newFunctionEnv hc (λx hx=>nomatch hx) (λh' hn hs=>hQ h' (by simpa using hn) hs) hk
theorem N_comprehension {M:Model} {e:Expr} {scope:Scope} {pos:Pos} {newAcc first:Sem Value} {g:Comprehension} {gs:List Comprehension} {cl:List (Str×Addr)} {use:Option (Value→Sem Unit)} {Q:Value→Shared→Prop}
  (hcl:clausesOf e=g :: gs) (hs:∀ x,foldedSetIterable g.iter env x=pure x) (hclos:closureFor scope env=pure cl)
  (hkind:scope.kind=.function) (hnames:∀ x∈scope.names,x.2=.local→scope.names.lookup x.1=some .local) (hnb:isBad (.compStart e 0 .none .none env)=false)
  (h:wpN M A first (λx s₁=>wpN M A (pyIter x) (λit s₂=>wpN M A newAcc (λacc s₃ =>
   wpN M A (newFunctionEnv scope env.globals cl [] env.qual none .none (some env)) (λcenv s₄ =>
    codeN M (A.mark none) (.compStart e 0 it acc { cenv with scope:=relabel scope env }) (compPostN M A E use Q acc cenv.locals) s₄) E s₃) E s₂) E s₁) E s) :
  wpN M A (comprehension e scope env pos newAcc false first use) Q E s:=by
 unfold comprehension
 rw [hclos,hcl]
 refine wpN_bind (wpN_mono h (λx s₁ h₁=>wpN_standAt ?_) λ_ _ h'=>h')
 dsimp only
 rw [hs x]
 refine wpN_step (wpAny_pure (wpN_bind (wpN_holding (wpN_mono h₁ (λit s₂ h₂=>?_) λ_ _ h'=>h'))))
 have std:∀ {α:Type} {c:Prop} [Decidable c] {p:Pos} {k:PUnit→Sem α} {Q:α→Shared→Prop} {s:Shared},wpN M A (k ()) Q E s→wpN M A (if c then (standAt p >>= k) else k ()) Q E s:=by
  intro α c _ p k Q s h
  split
  ·exact wpN_standAt h
  ·exact h
 refine std (wpN_bind (wpN_mono h₂ (λacc s₃ h₃=>wpN_step (wpAny_pure (wpN_bind (wpN_mono h₃ (λcenv s₄ h₄=>?_) λ_ _ h'=>h')))) λ_ _ h'=>h'))
 have hv:∀ x∈(scope.names.filter λx=>(x.2 == .local || x.2 == .cell) && x.1 != (".0":Str)).reverse,x.2=.local →
   Env.kindOf { cenv with scope:=relabel scope env } x.1=some .local:=λx hx hl=>lookup_relabel_local (hnames x (List.mem_filter.mp (List.mem_reverse.mp hx)).1 hl)
 have hv':∀ x∈(scope.names.filter λx=>(x.2 == .local || x.2 == .cell) && x.1 != (".0":Str)).reverse.drop 1 ++ (scope.names.filter λx=>(x.2 == .local || x.2 == .cell) && x.1 != (".0":Str)).reverse.take 1,
   x.2=.local→Env.kindOf { cenv with scope:=relabel scope env } x.1=some .local:=λx hx hl=>by
  rcases List.mem_append.mp hx with h1 | h1
  ·exact hv x (List.mem_of_mem_drop h1) hl
  ·exact hv x (List.mem_of_mem_take h1) hl
 have ext:∀ {h h':Heap} {m'},h'.Ns cenv.locals m'→∃ m',h'.Ns cenv.locals m':=λh=>⟨_,h⟩
 refine wpN_holding (wpN_bind (wpN_attempt (wpN_holding (wpN_run rfl (codeN_mono h₄ λr s' hr=>?_) nofun))))
 cases r with
 | ok f =>
  cases use with
  | none =>
   obtain ⟨m,hn,hr⟩:=hr
   exact .of (wpAny_bind (wpAny_holding (wpAny_comp_letGo (cenv:={ cenv with scope:=relabel scope env }) hkind _ s' m hv hn λh' m' hn' hs'=>wpAny_pure (hr h' ⟨m',hn'⟩ hs'))))
  | some u =>
   refine wpN_step (wpAny_rule (wpN_bind (wpN_holding (wpN_mono hr (λ_ s'' hr'=>?_) λ_ _ h'=>h'))))
   obtain ⟨m,hn,hr'⟩:=hr'
   exact .of (wpAny_bind (wpAny_comp_letGo (cenv:={ cenv with scope:=relabel scope env }) hkind _ s'' m hv' hn λh' m' hn' hs'=>wpAny_pure (hr' h' ⟨m',hn'⟩ hs')))
 | error x=>exact hr.elim
end
section
variable {C:Cfg} {pl:Nat→Option Place} {n:Nat} {T:Tabs} {cf:CF} {env:Env} {cx:Cx}
variable {A:Around} {E:Value→Shared→Prop} {γ γ':Gam} {sg sg':List Addr} {σ σ':St} {s:Shared} {k:Nat}
theorem codeN_compStart {prog:Program} {w:World} {elt target iter ifs rest scope pos it acc env} {R:Result→Shared→Prop}
  (h0:codeN (model prog w) A (.compLoop (.ListComp elt (⟨target,iter,ifs,0⟩ :: rest) scope pos) 0 it acc env) R s)
  (h:∀ E',wpN (model prog w) A (pyIter it) (λit' s'=>codeN (model prog w) A (.compLoop (.ListComp elt (⟨target,iter,ifs,0⟩ :: rest) scope pos) 0 it' acc env) R s') E' s) :
  codeN (model prog w) A (.compStart (.ListComp elt (⟨target,iter,ifs,0⟩ :: rest) scope pos) 0 it acc env) R s:=by
 refine codeN_of_tree ?_
 show wpN _ A ((compStart (.ListComp elt (⟨target,iter,ifs,0⟩ :: rest) scope pos) 0 it acc env).onRaise (λx=>do noteFrame x env; standAt theWindowsPlace)) _ _ s
 refine wpN_onRaise ?_
 unfold compStart
 show wpN _ _ (ask >>= _) _ _ s
 refine wpN_step (wpAny_askSetting (wpN_ite (λ_=>?_) λ_=>?_))
 ·exact wpN_step (wpAny_pure (wpN_pure ⟨rfl,rfl,h0⟩))
 ·refine wpN_step (wpAny_rule ?_)
  show wpN _ _ (standAt iter.pos >>= _) _ _ s
  exact wpN_standAt (wpN_bind (wpN_mono (h _) (λit' s' h'=>wpN_pure ⟨rfl,rfl,h'⟩) λ_ _ z=>z))
theorem comp_run {elt target iter:Expr} {ifs:List Expr} {scope:Scope} {pos:Pos} {ts:List (Nat×Str)} {em cm:St→Option (LV×St)} {it:Addr} {fp:List Addr} {items:List Val} {P:Nat→Value→Prop} {St:Nat→Heap→Prop} {γ0:Gam} {sg0:List Addr} {s0:Shared} {cl:List (Str×Addr)} {zs}
  (H:EnvOk pl cx env) (F:CompFacts cx scope ts) (hcl:∀ x∈scope.names,x.2=.free→cl.lookup x.1=env.cells.lookup x.1)
  (hT:∀ {pl' env'},EnvOk pl' (compCx cx scope ts) env'→TAL C pl' n target env' (ts.map (·.1))) (hC:∀ {pl' env'},EnvOk pl' (compCx cx scope ts) env'→TT C pl' n (testsOf ifs env') cm) (hE:∀ {pl' env'},EnvOk pl' (compCx cx scope ts) env'→TE C pl' n (eval elt env') em)
  (d0:∀ a t,γ0 a=some t→∃ o,s0.heap.get? a=some o) (hn:s0.heap.get? it=none) (hsz:items.length≤1000000) (hR:Room n A) (I:Inv C pl γ sg σ s) (A0:Adv γ0 sg0 s0 γ sg s) (W:Wk C γ sg s.heap it fp items P St) (hst:St 0 s.heap)
  (eq:compGo (compStep (ts.map (·.1)) cm em) items σ=some (zs,σ')) {RR:Value→Addr→Result→Shared→Prop}
  (hRR:∀ γ' sg' L D s' us nn,Inv C pl γ' sg' { σ' with vars:=unset (ts.map (·.1)) σ'.vars } s'→Adv γ0 sg0 s0 γ' sg' s'→γ' L=some .ns→(∃ m,s'.heap.Ns L m)→(∀ i p,pl i=some p→p.addr≠L)→γ' D=some .prot→s'.heap.get? D=some (lstObj us nn)→Reps γ' sg' s'.heap zs us →
   s0.heap.get? D=none→s0.heap.get? L=none→RR (.ref D) L (.ok .next) s') :
  wpN (model C.prog C.w) A (newList []) (λacc s₃=>wpN (model C.prog C.w) A (newFunctionEnv scope env.globals cl [] env.qual none .none (some env)) (λcenv s₄ =>
   codeN (model C.prog C.w) (A.mark none) (.compStart (.ListComp elt [⟨target,iter,ifs,0⟩] scope pos) 0 (.ref it) acc { cenv with scope:=relabel scope env }) (RR acc cenv.locals) s₄) E s₃) E s:=by
 have new0:∀ a,s.heap.get? a=none→s0.heap.get? a=none:=λa h=>by
  cases q:s0.heap.get? a with
  | none=>rfl
  | some o=>obtain ⟨o',h'⟩:=A0.there a o q; rw [h] at h'; cases h'
 refine .of (wpAny_newList ?_)
 have I2:=I.push (lstObj [] 0) (some .prot) s.toks rfl
 have A2:=I.pushA (lstObj [] 0) (some .prot) s.toks
 refine .of (N_newEnv (s:={ s with heap:=s.heap.push (lstObj [] 0) }) F.cel F.kind λh' hns hsb=>?_)
 obtain ⟨I3,A3⟩:=I2.enter (tk:=s.toks) H F hns hsb
 generalize hLe:(s.heap.push (lstObj [] 0)).objs.size=L at *
 have hLs:L=s.heap.objs.size + 1:=by rw [←hLe,Heap.size_push]
 have gDn:s.heap.get? s.heap.objs.size=none:=get?_size _
 have gLn:(s.heap.push (lstObj [] 0)).get? L=none:=by rw [←hLe]; exact get?_size _
 have hD0:=new0 _ gDn
 have gLs:s.heap.get? L=none:=by
  cases q:s.heap.get? L with
  | none=>rfl
  | some o=>rw [Heap.get?_push_of_some _ q] at gLn; cases gLn
 have hL0:=new0 _ gLs
 have hDi:s.heap.objs.size≠it:=λq=>by
  obtain ⟨⟨o,ho⟩,_⟩:=I.dom _ _ W.tag
  rw [←q,gDn] at ho; cases ho
 have hDf:s.heap.objs.size ∉ fp:=λhm=>by
  rcases W.fp _ hm with e | ⟨_,o,ho⟩
  ·exact hDi e
  ·rw [gDn] at ho; cases ho
 have A03:Adv γ0 sg0 s0 _ sg { s with heap:=h',toks:=s.toks }:=(A0.trans A2).trans A3
 have W3:=W.mono (A2.trans A3)
 have st3:=W.st (A2.trans A3) hst
 have EO:=envOk_comp H F hcl L
 have hDL:s.heap.objs.size≠L:=by rw [hLs]; exact Nat.ne_of_lt (Nat.lt_succ_self _)
 have gD3:(γ.upd s.heap.objs.size (some .prot)).upd L (some .ns) s.heap.objs.size=some .prot:=by rw [Gam.upd_ne _ _ hDL,Gam.upd_self]
 have oD3:h'.get? s.heap.objs.size=some (lstObj [] 0):=(hsb.2 _ hDL).trans (Heap.get?_push_of_some _ (Heap.get?_push_size _ rfl))
 have off:∀ i x,ts.lookup i=some x→pl i=none:=λi x e=>H.dom i λy hy=>F.ind _ (lookup_mem e) _ hy rfl
 have offL:∀ i p,pl i=some p→p.addr≠L:=λi p e q=>by
  obtain ⟨o,ho⟩:=Place.ok_at (I.ok i p e)
  rw [q,gLs] at ho; cases ho
 have loop:codeN (model C.prog C.w) (A.mark none) (.compLoop (.ListComp elt [⟨target,iter,ifs,0⟩] scope pos) 0 (.ref it) (.ref s.heap.objs.size) (compEnvC scope cl L env)) (RR (.ref s.heap.objs.size) L) { s with heap:=h',toks:=s.toks }:=by
  refine comp_loop (hT EO) (hC EO) (hE EO) d0 hn hD0 hL0 hDi hDf hsz items.length (k:=0) hR (by omega) I3 A03 W3 st3 gD3 oD3 .nil (Nat.zero_le _) (Gam.upd_self ..) eq λγ' sg' s' us nn I' A' gD' oD' rD' gL'=>?_
  obtain ⟨p0,hp0⟩:∃ p,p∈ts:=List.exists_mem_of_ne_nil _ F.ne
  have hpl:compPl pl ts L p0.1=some (.loc L p0.2):=by unfold compPl; rw [lookup_of_mem F.nd1 (show (p0.1,p0.2)∈ts from hp0)]
  obtain ⟨_,m,hm⟩:=I'.ok _ _ hpl
  exact hRR γ' sg' L _ s' us nn (I'.leave off) A' gL' ⟨m,hm⟩ offL gD' oD' rD' hD0 hL0
 exact codeN_compStart loop λE'=>.of ((W3.W _ hR.1).self 0 _ _ _ st3 loop)
theorem firstOf {elt target iter:Expr} {ifs:List Expr} {scope:Scope} {pos:Pos}:eval (.ListComp elt [⟨target,iter,ifs,0⟩] scope pos) env =
  comprehension (.ListComp elt [⟨target,iter,ifs,0⟩] scope pos) scope env iter.pos (newList []) false (eval iter env):=rfl
noncomputable def isFld:IT→Bool
 | .fld _ _=>true
 | _=>false
theorem evE_comp {elt:ME} {tg:List Nat} {im:IT} {cnd:ME} (h:isFld im=false) (σ:St):evE T cf (.comp elt tg im cnd) σ=kcomp (evI T cf im σ) tg (compStep tg (evE T cf cnd) (evE T cf elt)):=by
 cases im with
 | fld=>cases h
 | rng=>rfl
 | ex=>rfl
theorem frees_ok (H:EnvOk pl cx env) {scope:Scope} {ts:List (Nat×Str)} (F:CompFacts cx scope ts):∀ x∈scope.names,x.2=.free→∃ c,env.cells.lookup x.1=some c:=by
 intro x hx hf
 obtain ⟨f1,⟨j,f2⟩,f3⟩:=F.fre x hx hf
 obtain ⟨c,g1,g2⟩:=H.cel x.1 j f2 f1
 exact ⟨c,g1⟩
theorem post_none {L D:Addr} {s':Shared} {γ0:Gam} {sg0:List Addr} {s0:Shared} {r:LV} {Q:Value→Shared→Prop} (d0:∀ a t,γ0 a=some t→∃ o,s0.heap.get? a=some o)
  (hQ:∀ γ' sg' v s',Inv C pl γ' sg' σ' s'→Adv γ0 sg0 s0 γ' sg' s'→LVOk γ' sg' s'.heap .prot r v→NewR s0 r v→Q v s')
  (I':Inv C pl γ' sg' σ' s') (A':Adv γ0 sg0 s0 γ' sg' s') (gL:γ' L=some .ns) (hNs:∃ m,s'.heap.Ns L m) (offL:∀ i p,pl i=some p→p.addr≠L) (R:LVOk γ' sg' s'.heap .prot r (.ref D)) (N:NewR s0 r (.ref D)) (hL0:s0.heap.get? L=none) :
  compPostN (model C.prog C.w) A E none Q (.ref D) L (.ok .next) s':=by
 obtain ⟨m,hm⟩:=hNs
 refine ⟨m,hm,λh' ⟨m',hm'⟩ hsb=>?_⟩
 have hk':∀ b o,b≠L→s'.heap.get? b=some o→h'.get? b=some o:=λb o q g=>(hsb.2 b q).trans g
 have kp:Kept γ' sg' s'.heap γ' sg' h':=⟨λ_ _ e _=>e,λa o e g=>hk' a o (λq=>by subst q; rw [gL] at e; cases e) g,List.prefix_refl _⟩
 refine hQ γ' sg' (.ref D) { s' with heap:=h' } (I'.offNs (s':={ s' with heap:=h' }) gL offL rfl rfl hsb (let ⟨o,_,_,ho,_⟩:=hm'; ⟨o,ho⟩)) (A'.iterStep (it:=L) d0 hL0 hk' λ_ _=>rfl) (R.mono kp λa o e g=>⟨e,hk' a o (λq=>by subst q; rw [gL] at e; cases e) g⟩) N
theorem comp_gen {elt target iter:Expr} {ifs:List Expr} {scope:Scope} {pos:Pos} {ts:List (Nat×Str)} {tg:List Nat} {em cm:ME} {im:IT} {use:Option (Value→Sem Unit)} {r:LV} {Q:Value→Shared→Prop} (H:EnvOk pl cx env) (hs:∀ x,foldedSetIterable iter env x=pure x) (hok:compOk cx scope ts=true) (htg:tg=ts.map (·.1)) (hf:isFld im=false) (hi:TI C pl n (eval iter env) (evI T cf im))
  (hT:∀ {pl' env'},EnvOk pl' (compCx cx scope ts) env'→TAL C pl' n target env' (ts.map (·.1))) (hC:∀ {pl' env'},EnvOk pl' (compCx cx scope ts) env'→TT C pl' n (testsOf ifs env') (evE T cf cm)) (hE:∀ {pl' env'},EnvOk pl' (compCx cx scope ts) env'→TE C pl' n (eval elt env') (evE T cf em))
  (hR:Room n A) (I:Inv C pl γ sg σ s) (e:evE T cf (.comp em tg im cm) σ=some (r,σ'))
  (hU:∀ γ' sg' L D s',Inv C pl γ' sg' σ' s'→Adv γ sg s γ' sg' s'→γ' L=some .ns→(∃ m,s'.heap.Ns L m)→(∀ i p,pl i=some p→p.addr≠L)→LVOk γ' sg' s'.heap .prot r (.ref D)→NewR s r (.ref D)→s.heap.get? L=none→compPostN (model C.prog C.w) A E use Q (.ref D) L (.ok .next) s') :
  wpN (model C.prog C.w) A (comprehension (.ListComp elt [⟨target,iter,ifs,0⟩] scope pos) scope env iter.pos (newList []) false (eval iter env) use) Q E s:=by
 subst htg
 have F:=compOk_of hok
 rw [evE_comp hf] at e
 refine kcomp_inv e λxs σ1 ys σ2 e1 hl e2 zz1 zz2=>?_; obtain rfl:=zz1; obtain rfl:=zz2
 obtain ⟨cl,hcl1,hcl2⟩:=clos_ok (frees_ok H F)
 refine N_comprehension rfl hs hcl1 F.kind F.loc rfl (hi hR I e1 λγ1 sg1 v1 s1 I1 A1 X1=>.of (iter_make I1 X1 λγ2 it fp P St s2 I2 A2 W2 hst hn=>?_))
 have hn0:s.heap.get? it=none:=by
  cases q:s.heap.get? it with
  | none=>rfl
  | some o=>obtain ⟨o',h⟩:=A1.there it o q; rw [hn] at h; cases h
 refine comp_run H F hcl2 hT hC hE (λa t g=>(I.dom a t g).1) hn0 (okLen_le hl) hR I2 (A1.trans A2) W2 hst e2 λγ' sg' L D s' us nn I' A' gL hNs offL gD oD rD hD0 hL0=>?_
 exact hU γ' sg' L D s' I' A' gL hNs offL ⟨D,us,nn,rfl,gD,oD,rD⟩ (λa e=>by obtain rfl:=ref_inj e; exact hD0) hL0
theorem T_comp {elt target iter:Expr} {ifs:List Expr} {scope:Scope} {pos:Pos} {ts:List (Nat×Str)} {tg:List Nat} {em cm:ME} {im:IT} (H:EnvOk pl cx env) (hs:∀ x,foldedSetIterable iter env x=pure x) (hok:compOk cx scope ts=true) (htg:tg=ts.map (·.1)) (hf:isFld im=false) (hi:TI C pl n (eval iter env) (evI T cf im))
  (hT:∀ {pl' env'},EnvOk pl' (compCx cx scope ts) env'→TAL C pl' n target env' (ts.map (·.1))) (hC:∀ {pl' env'},EnvOk pl' (compCx cx scope ts) env'→TT C pl' n (testsOf ifs env') (evE T cf cm)) (hE:∀ {pl' env'},EnvOk pl' (compCx cx scope ts) env'→TE C pl' n (eval elt env') (evE T cf em)) :
  TE C pl n (eval (.ListComp elt [⟨target,iter,ifs,0⟩] scope pos) env) (evE T cf (.comp em tg im cm)):=by
 intro A E Q γ sg σ s z σ' hR I e hQ
 rw [firstOf]
 exact comp_gen H hs hok htg hf hi hT hC hE hR I e λγ' sg' L D s' I' A' gL hNs offL R N hL0=>post_none (λa t g=>(I.dom a t g).1) hQ I' A' gL hNs offL R N hL0
noncomputable def isStoTag:Option Tag→Bool
 | some (.sd _)=>true
 | some (.sf _ _)=>true
 | some (.sl _)=>true
 | _=>false
noncomputable def hide (γ:Gam):Gam:=λa=>if isStoTag (γ a) then some .prot else γ a
noncomputable def unhide (γ γ2:Gam):Gam:=λa=>if isStoTag (γ a) then γ a else γ2 a
theorem hide_none {a:Addr} (h:γ a=none):hide γ a=none:=by unfold hide; rw [h]; rfl
theorem hide_keep {a:Addr} {t:Option Tag} (h:γ a=t) (ht:isStoTag t=false):hide γ a=t:=by unfold hide; rw [h,ht]; rfl
theorem hide_sto {a:Addr} (h:isStoTag (γ a)=true):hide γ a=some .prot:=by unfold hide; rw [h]; rfl
theorem unhide_keep {γ2:Gam} {a:Addr} (h:isStoTag (γ a)=false):unhide γ γ2 a=γ2 a:=by unfold unhide; rw [h]; rfl
theorem unhide_sto {γ2:Gam} {a:Addr} (h:isStoTag (γ a)=true):unhide γ γ2 a=γ a:=by unfold unhide; rw [h]; rfl
theorem Inv.hide (I:Inv C pl γ sg σ s):Inv C pl (hide γ) sg { σ with ro:=true } s∧Adv γ sg s (Mine.hide γ) sg s:=by
 have kp:Kept γ sg s.heap (Mine.hide γ) sg s.heap:=⟨λa o e _=>hide_none e,λ_ _ _ g=>g,List.prefix_refl _⟩
 refine ⟨⟨I.gens,I.os,I.keep,λa t e=>?_,λi p e=>?_,I.inj,λi x e=>?_,I.len,λk o a e1 e2=>?_⟩,⟨λ_ o e=>⟨o,e⟩,kp,λa e=>hide_keep e rfl,λ_ _ _ g=>g⟩,λa o t e q g=>⟨hide_keep e (by rcases q with rfl | rfl <;> rfl),g⟩⟩
 ·unfold Mine.hide at e
  split at e
  ·rename_i h
   cases q:γ a with
   | none=>rw [q] at h; cases h
   | some u=>exact I.dom a u q
  ·exact I.dom a t e
 ·refine Place.ok_to (I.ok i p e) ?_ λo h=>h
  rcases Place.ok_tag (I.ok i p e) with t | t <;> rw [t] <;> exact hide_keep t rfl
 ·obtain ⟨p,v,h1,h2,h3⟩:=I.vars i x e
  exact ⟨p,v,h1,h2,h3.mono kp λa o e1 e2=>⟨hide_keep e1 rfl,e2⟩⟩
 ·cases e1
theorem Inv.unhide {γ2:Gam} {sg2:List Addr} {σ2:St} {s2:Shared} (I:Inv C pl γ sg σ s) (I2:Inv C pl γ2 sg2 σ2 s2) (A2:Adv (Mine.hide γ) sg s γ2 sg2 s2) (hl:σ2.store.length=σ.store.length) :
  Inv C pl (unhide γ γ2) sg { vars:=σ2.vars,store:=σ.store,ro:=σ.ro } s2∧Adv γ sg s (Mine.unhide γ γ2) sg s2∧sg2=sg:=by
 have hsg:sg2=sg:=by
  have:=A2.kept.sg
  exact (this.eq_of_length (by rw [I.len,I2.len,hl])).symm
 subst hsg
 have sto:∀ a,isStoTag (γ a)=true→γ2 a=some .prot∧∀ o,s.heap.get? a=some o→s2.heap.get? a=some o:=λa h=>⟨A2.prot a (hide_sto h),λo g=>A2.keepP a o (hide_sto h) g⟩
 have oth:∀ a t,γ2 a=t→t≠some .prot→Mine.unhide γ γ2 a=t:=λa t e n=>by
  cases h:isStoTag (γ a) with
  | true=>exact absurd (e.symm.trans (sto a h).1) n
  | false=>rw [unhide_keep h]; exact e
 have kp2:Kept γ2 sg2 s2.heap (Mine.unhide γ γ2) sg2 s2.heap:=⟨λa o e _=>oth a _ e nofun,λ_ _ _ g=>g,List.prefix_refl _⟩
 have kp:Kept γ sg2 s.heap (Mine.unhide γ γ2) sg2 s2.heap:=⟨λa o e g=>by rw [unhide_keep (by rw [e]; rfl)]; exact A2.kept.froz a o (hide_none e) g,λa o e g=>A2.kept.keep a o (hide_none e) g,List.prefix_refl _⟩
 refine ⟨⟨I2.gens,I2.os,I2.keep,λa t e=>?_,λi p e=>?_,I2.inj,λi x e=>?_,I.len,λk o a e1 e2=>?_⟩,⟨⟨A2.there,kp,λa e=>?_,λa o e g=>A2.keepP a o (hide_keep e rfl) g⟩,λa o t e q g=>?_⟩,rfl⟩
 ·cases h:isStoTag (γ a) with
  | true =>
   rw [unhide_sto h] at e
   obtain ⟨⟨o,ho⟩,hb⟩:=I.dom a t e
   exact ⟨⟨o,(sto a h).2 o ho⟩,hb⟩
  | false=>rw [unhide_keep h] at e; exact I2.dom a t e
 ·refine Place.ok_to (I2.ok i p e) ?_ λo h=>h
  rcases Place.ok_tag (I2.ok i p e) with t | t <;> rw [t] <;> exact oth _ _ t nofun
 ·obtain ⟨p,v,h1,h2,h3⟩:=I2.vars i x e
  exact ⟨p,v,h1,h2,h3.mono kp2 λa o e1 e2=>⟨oth a _ e1 (by intro h; cases h),e2⟩⟩
 ·refine (I.store k o a e1 e2).mono kp λb o' q g=>?_
  have hb:isStoTag (γ b)=true:=by rcases q with q | ⟨f,q⟩ | q <;> rw [q] <;> rfl
  exact ⟨unhide_sto hb,(sto b hb).2 o' g⟩
 ·rw [unhide_keep (by rw [e]; rfl)]; exact A2.prot a (hide_keep e rfl)
 ·have ht:isStoTag (some t)=false:=by rcases q with rfl | rfl <;> rfl
  obtain ⟨h1,h2⟩:=A2.names a o t (hide_keep e ht) q g
  exact ⟨by rw [unhide_keep (by rw [e]; exact ht)]; exact h1,h2⟩
theorem comp_genF (G:CfgOk C) {x:Str} {i f:Nat} {p ap:Pos} {elt target:Expr} {ifs:List Expr} {scope:Scope} {pos:Pos} {ts:List (Nat×Str)} {tg:List Nat} {em cm:ME} {use:Option (Value→Sem Unit)} {r:LV} {Q:Value→Shared→Prop} (H:EnvOk pl cx env)
  (hi:cx.ix.lookup x=some i) (hk:isVarKind cx.scope x=true) (hcd:(x == ("__classdict__":Str))=false) (hd:(x == ("__debug__":Str))=false) (hok:compOk cx scope ts=true) (htg:tg=ts.map (·.1))
  (hT:∀ {pl' env'},EnvOk pl' (compCx cx scope ts) env'→TAL C pl' n target env' (ts.map (·.1))) (hC:∀ {pl' env'},EnvOk pl' (compCx cx scope ts) env'→TT C pl' n (testsOf ifs env') (evE T cf cm)) (hE:∀ {pl' env'},EnvOk pl' (compCx cx scope ts) env'→TE C pl' n (eval elt env') (evE T cf em))
  (hR:Room n A) (I:Inv C pl γ sg σ s) (e:evE T cf (.comp em tg (.fld i f) cm) σ=some (r,σ'))
  (hU:∀ γ' sg' L D s',Inv C pl γ' sg' σ' s'→Adv γ sg s γ' sg' s'→γ' L=some .ns→(∃ m,s'.heap.Ns L m)→(∀ i p,pl i=some p→p.addr≠L)→LVOk γ' sg' s'.heap .prot r (.ref D)→NewR s r (.ref D)→s.heap.get? L=none→compPostN (model C.prog C.w) A E use Q (.ref D) L (.ok .next) s') :
  wpN (model C.prog C.w) A (comprehension (.ListComp elt [⟨target,.Attribute (.Name x p) (C.fname f) ap,ifs,0⟩] scope pos) scope env ap (newList []) false (eval (.Attribute (.Name x p) (C.fname f) ap) env) use) Q E s:=by
 subst htg
 have F:=compOk_of hok
 refine kcompF_inv (o:=(lookField i f σ).bind listOf?) e λxs ys σ2 hx hl e2 hlen zz1 zz2=>?_; obtain rfl:=zz1; obtain rfl:=zz2
 obtain ⟨cl,hcl1,hcl2⟩:=clos_ok (frees_ok H F)
 refine N_comprehension rfl (λ_=>rfl) hcl1 F.kind F.loc rfl (.of (wp_lookF G I H hi hk hcd hd hx λa vs ht hh rr=>.of ?_))
 obtain ⟨I1,A1⟩:=(I.tok (s.toks + 1)).hide
 have A01:=(adv_tok (γ:=γ) (sg:=sg) (s:=s) (s.toks + 1)).trans A1
 have tg1:Mine.hide γ a=none∨Mine.hide γ a=some .prot:=by
  rcases ht with h | ⟨k,h⟩
  ·exact .inl (hide_none h)
  ·exact .inr (hide_sto (by rw [h]; rfl))
 refine iter_list (s:={ s with toks:=s.toks + 1 }) I1 tg1 hh (rr.mono A01.kept) λγ2 it fp P St s2 I2 A2 W2 hst hn=>?_
 refine comp_run (γ0:=Mine.hide γ) (sg0:=sg) (s0:={ s with toks:=s.toks + 1 }) H F hcl2 hT hC hE (λa t g=>(I1.dom a t g).1) hn (okLen_le hl) hR I2 A2 W2 hst e2 λγ' sg' L D s' us nn I' A' gL hNs offL gD oD rD hD0 hL0=>?_
 obtain ⟨I3,A3,rfl⟩:=Inv.unhide (I.tok (s.toks + 1)) I' A' hlen
 have free:∀ b,s.heap.get? b=none→isStoTag (γ b)=false:=λb h=>by
  cases q:γ b with
  | none=>rfl
  | some t=>obtain ⟨⟨o,ho⟩,_⟩:=I.dom b t q; rw [h] at ho; cases ho
 have gL3:Mine.unhide γ γ' L=some .ns:=by rw [unhide_keep (free L hL0)]; exact gL
 have gD3:Mine.unhide γ γ' D=some .prot:=by rw [unhide_keep (free D hD0)]; exact gD
 have kp3:Kept γ' sg' s'.heap (Mine.unhide γ γ') sg' s'.heap:=⟨λa o e _=>by
  cases h:isStoTag (γ a) with
  | true=>have:=A'.prot a (hide_sto h); rw [e] at this; cases this
  | false=>rw [unhide_keep h]; exact e,λ_ _ _ g=>g,List.prefix_refl _⟩
 refine hU _ _ L D s' I3 ((adv_tok (s.toks + 1)).trans A3) gL3 hNs offL ⟨D,us,nn,rfl,gD3,oD,rD.mono kp3⟩ (λa e=>by obtain rfl:=ref_inj e; exact hD0) hL0
theorem T_compF (G:CfgOk C) {x:Str} {i f:Nat} {p ap:Pos} {elt target:Expr} {ifs:List Expr} {scope:Scope} {pos:Pos} {ts:List (Nat×Str)} {tg:List Nat} {em cm:ME} (H:EnvOk pl cx env)
  (hi:cx.ix.lookup x=some i) (hk:isVarKind cx.scope x=true) (hcd:(x == ("__classdict__":Str))=false) (hd:(x == ("__debug__":Str))=false) (hok:compOk cx scope ts=true) (htg:tg=ts.map (·.1))
  (hT:∀ {pl' env'},EnvOk pl' (compCx cx scope ts) env'→TAL C pl' n target env' (ts.map (·.1))) (hC:∀ {pl' env'},EnvOk pl' (compCx cx scope ts) env'→TT C pl' n (testsOf ifs env') (evE T cf cm)) (hE:∀ {pl' env'},EnvOk pl' (compCx cx scope ts) env'→TE C pl' n (eval elt env') (evE T cf em)) :
  TE C pl n (eval (.ListComp elt [⟨target,.Attribute (.Name x p) (C.fname f) ap,ifs,0⟩] scope pos) env) (evE T cf (.comp em tg (.fld i f) cm)):=by
 intro A E Q γ sg σ s z σ' hR I e hQ
 rw [firstOf]
 exact comp_genF G H hi hk hcd hd hok htg hT hC hE hR I e λγ' sg' L D s' I' A' gL hNs offL R N hL0=>post_none (λa t g=>(I.dom a t g).1) hQ I' A' gL hNs offL R N hL0
theorem own_asX {γ0:Gam} {sg0:List Addr} {s0:Shared} {x:LV} {v:Value} (I:Inv C pl γ sg σ s) (dom0:∀ a t,γ0 a=some t→∃ o,s0.heap.get? a=some o) (A0:Adv γ0 sg0 s0 γ sg s) (R:LVOk γ sg s.heap .prot x v) (N:NewR s0 x v) (t:Tag) :
  ∃ γ',Inv C pl γ' sg σ s∧Adv γ0 sg0 s0 γ' sg s∧LVOk γ' sg s.heap t x v∧∀ b,γ b≠some .prot→γ' b=γ b:=by
 have key:∀ a,v=.ref a→γ a=some .prot→s0.heap.get? a=none→∃ γ',Inv C pl γ' sg σ s∧Adv γ0 sg0 s0 γ' sg s∧γ'=γ.upd a (some t):=by
  intro a _ g hn
  exact ⟨_,I.re g (some t),A0.iterStep (it:=a) dom0 hn (λ_ _ _ g=>g) λb q=>Gam.upd_ne _ _ q,rfl⟩
 have oth:∀ a,γ a=some .prot→∀ b,γ b≠some .prot→γ.upd a (some t) b=γ b:=λa g b n=>Gam.upd_ne _ _ λq=>by subst q; exact n g
 cases x with
 | val y=>exact ⟨γ,I,A0,R,λ_ _=>rfl⟩
 | olist l =>
  obtain ⟨a,vs,m,rfl,g,o,r⟩:=R
  obtain ⟨γ',I',A',rfl⟩:=key a rfl g (N a rfl)
  refine ⟨_,I',A',⟨a,vs,m,rfl,Gam.upd_self ..,o,r.mono ⟨λb _ e _=>?_,λ_ _ _ e=>e,List.prefix_refl _⟩⟩,oth a g⟩
  unfold Gam.upd; split
  ·rename_i q; subst q; rw [g] at e; cases e
  ·exact e
 | obarr l =>
  obtain ⟨a,rfl,g,o⟩:=R
  obtain ⟨γ',I',A',rfl⟩:=key a rfl g (N a rfl)
  exact ⟨_,I',A',⟨a,rfl,Gam.upd_self ..,o⟩,oth a g⟩
theorem wp_use {y:Str} {j:Nat} {yp:Pos} {L D:Addr} {s':Shared} {γ0:Gam} {sg0:List Addr} {s0:Shared} {r:LV} {Q:Value→Shared→Prop} (H:EnvOk pl cx env) (hj:cx.ix.lookup y=some j) (hky:cx.scope.names.lookup y=some .local) (d0:∀ a t,γ0 a=some t→∃ o,s0.heap.get? a=some o)
  (hQ:∀ γ' sg' s',Inv C pl γ' sg' (σ'.set j r) s'→AdvS γ0 sg0 s0 γ' sg' s'→Q .none s')
  (I':Inv C pl γ' sg' σ' s') (A':Adv γ0 sg0 s0 γ' sg' s') (gL:γ' L=some .ns) (hNs:∃ m,s'.heap.Ns L m) (offL:∀ i p,pl i=some p→p.addr≠L) (R:LVOk γ' sg' s'.heap .prot r (.ref D)) (N:NewR s0 r (.ref D)) (hL0:s0.heap.get? L=none) :
  compPostN (model C.prog C.w) A E (some (assign (.Name y yp) env)) Q (.ref D) L (.ok .next) s':=by
 obtain ⟨γ2,I2,A2,R2,ht⟩:=own_asX I' d0 A' R N (.var j)
 obtain ⟨m,hm⟩:=hNs
 have hne:L≠env.locals:=λe=>offL j _ (H.loc y j hj hky) e.symm
 refine .of (wpAny_assign_Name (wp_storeL I2 H hj hky R2 λs3 I3 A3 B3=>⟨m,hm.at λo g=>B3 L o hne g,λh' ⟨m',hm'⟩ hsb=>?_⟩))
 have gL2:γ2 L=some .ns:=(ht L (by rw [gL]; nofun)).trans gL
 have hk':∀ b o,b≠L→s3.heap.get? b=some o→h'.get? b=some o:=λb o q g=>(hsb.2 b q).trans g
 exact hQ γ2 sg' { s3 with heap:=h' } (I3.offNs (s':={ s3 with heap:=h' }) gL2 offL rfl rfl hsb (let ⟨o,_,_,ho,_⟩:=hm'; ⟨o,ho⟩)) ((A2.toAdvS.trans A3).iterStep (it:=L) d0 hL0 hk' λ_ _=>rfl)
noncomputable def swapB (sc scope:Scope) (y:Str) (yp cpos:Pos):Bool:=(if sc.kind.isAnnotationScope then ScopeKind.function else sc.kind) == .function && sc.names.lookup y == some .local && yp.line == cpos.line && !(scope.names.any λ(n,k)=>n == y && (k == .local || k == .cell))
theorem swapB_eq (H:EnvOk pl cx env) {elt:Expr} {gens:List Comprehension} {scope:Scope} {cpos:Pos} {y:Str} {yp:Pos} {l:Nat}:swapsWith (.ListComp elt gens scope cpos) (some (.Name y yp)) l env=pure (swapB cx.scope scope y yp cpos):=by
 rw [←H.scope]
 rfl
theorem N_AssignC {M:Model} {elt target iter:Expr} {ifs:List Expr} {scope:Scope} {cpos:Pos} {y:Str} {yp pos:Pos} {Q:Flow→Shared→Prop} {b:Bool}
  (hw:swapsWith (.ListComp elt [⟨target,iter,ifs,0⟩] scope cpos) (some (.Name y yp)) pos.line env=pure b)
  (h1:b=true→wpN M A (comprehension (.ListComp elt [⟨target,iter,ifs,0⟩] scope cpos) scope env iter.pos (newList []) false (eval iter env) (some (assign (.Name y yp) env))) (λ_ s'=>Q .next s') E s)
  (h2:b=false→wpN M A (eval (.ListComp elt [⟨target,iter,ifs,0⟩] scope cpos) env) (λv s'=>wpN M A (storeName env y v) (λ_ s2=>wpN M A (pure Flow.next) Q E s2) E s') E s) :
  wpN M A (exec (.Assign [.Name y yp] (.ListComp elt [⟨target,iter,ifs,0⟩] scope cpos) pos) env) Q E s:=by
 have e:exec (.Assign [.Name y yp] (.ListComp elt [⟨target,iter,ifs,0⟩] scope cpos) pos) env=(do
   standAt pos
   if ←swapsWith (.ListComp elt [⟨target,iter,ifs,0⟩] scope cpos) (some (.Name y yp)) pos.line env then
    evalThenUse (.ListComp elt [⟨target,iter,ifs,0⟩] scope cpos) env (assign (.Name y yp) env)
    return .next
   let v ←eval (.ListComp elt [⟨target,iter,ifs,0⟩] scope cpos) env
   standAt yp
   bindName env y v
   pure .next):=rfl
 rw [e,hw]
 refine wpN_standAt (wpN_step (wpAny_pure ?_))
 cases b with
 | true =>
  rw [if_pos rfl]
  show wpN _ _ ((do let _ ←comprehension (.ListComp elt [⟨target,iter,ifs,0⟩] scope cpos) scope env iter.pos (newList []) false (eval iter env) (some (assign (.Name y yp) env)):Sem Unit) >>= λ_=>pure Flow.next) _ _ _
  exact wpN_bind (wpN_bind (wpN_mono (h1 rfl) (λ_ s' q=>wpN_pure (wpN_pure q)) λ_ _ z=>z))
 | false =>
  rw [if_neg (by decide)]
  refine wpN_bind (wpN_mono (h2 rfl) (λv s' q=>wpN_standAt (wpN_bind ?_)) λ_ _ z=>z)
  intro Γ p i nb
  rw [Sem.wp_bindName]
  exact q Γ p i nb
theorem TS_assignC {elt target iter:Expr} {ifs:List Expr} {scope:Scope} {cpos:Pos} {y:Str} {j:Nat} {yp pos:Pos} {a:ME} (H:EnvOk pl cx env) (hj:cx.ix.lookup y=some j) (hky:cx.scope.names.lookup y=some .local)
  (hg:∀ {A:Around} {E:Value→Shared→Prop} {γ sg σ s r σ'} {use:Option (Value→Sem Unit)} {Q:Value→Shared→Prop},Room n A→Inv C pl γ sg σ s→evE T cf a σ=some (r,σ') →
   (∀ γ' sg' L D s',Inv C pl γ' sg' σ' s'→Adv γ sg s γ' sg' s'→γ' L=some .ns→(∃ m,s'.heap.Ns L m)→(∀ i p,pl i=some p→p.addr≠L)→LVOk γ' sg' s'.heap .prot r (.ref D)→NewR s r (.ref D)→s.heap.get? L=none→compPostN (model C.prog C.w) A E use Q (.ref D) L (.ok .next) s') →
   wpN (model C.prog C.w) A (comprehension (.ListComp elt [⟨target,iter,ifs,0⟩] scope cpos) scope env iter.pos (newList []) false (eval iter env) use) Q E s) :
  TS C pl n (exec (.Assign [.Name y yp] (.ListComp elt [⟨target,iter,ifs,0⟩] scope cpos) pos) env) (exS T cf (.assign j a)):=by
 intro A E Q γ sg σ s z σ' hR I e hQ
 refine ka_inv (r:=evE T cf a σ) e λr σ1 e1 e=>?_
 obtain ⟨rfl,rfl⟩:=si2 (e:some (Fl.next,σ1.set j r)=some (z,σ'))
 have d0:∀ a t,γ a=some t→∃ o,s.heap.get? a=some o:=λa t g=>(I.dom a t g).1
 refine N_AssignC (swapB_eq H) (λ_=>?_) λ_=>?_
 ·exact hg hR I e1 λγ' sg' L D s' I' A' gL hNs offL R N hL0=>wp_use H hj hky d0 (λγ2 sg2 s2 I2 A2=>hQ _ _ .next _ I2 A2 trivial) I' A' gL hNs offL R N hL0
 ·rw [firstOf]
  refine hg hR I e1 λγ' sg' L D s' I' A' gL hNs offL R N hL0=>post_none d0 (λγ2 sg2 v2 s2 I2 A2 R2 N2=>?_) I' A' gL hNs offL R N hL0
  obtain ⟨γ3,I3,A3,R3,_⟩:=own_asX I2 d0 A2 R2 N2 (.var j)
  exact .of (wp_storeL I3 H hj hky R3 λs4 I4 A4 _=>wpN_pure (hQ _ _ .next _ I4 (A3.toAdvS.trans A4) trivial))
end
noncomputable def isFrTag:Option Tag→Bool
 | some .ns=>true
 | some .cell=>true
 | some (.var _)=>true
 | some .prot=>true
 | _=>false
noncomputable def calG (γ:Gam):Gam:=λa=>if isFrTag (γ a) then some .prot else γ a
noncomputable def entG (γ:Gam) (L:Addr) (cs:List Addr):Gam:=λa=>if a=L then some .ns else if a∈cs then some .cell else calG γ a
noncomputable def sanG (t:Option Tag):Option Tag:=match t with
 | some .ns=>some .prot
 | some .cell=>some .prot
 | some (.var _)=>some .prot
 | t=>t
noncomputable def leaG (γ γ2:Gam):Gam:=λa=>if isFrTag (γ a) then γ a else sanG (γ2 a)
theorem sanG_none {t:Option Tag} (h:t=none):sanG t=none:=by subst h; rfl
theorem sanG_prot {t:Option Tag} (h:t=some .prot):sanG t=some .prot:=by subst h; rfl
theorem sanG_sto {t:Option Tag} (h:isStoTag t=true):sanG t=t:=by
 cases t with
 | none=>cases h
 | some t=>cases t <;> first | (cases h; done) | rfl
theorem sanG_some {t:Option Tag} {u:Tag} (h:sanG t=some u):∃ v,t=some v:=by
 cases t with
 | none=>cases h
 | some t=>exact ⟨t,rfl⟩
theorem calG_fr {γ:Gam} {a:Addr} (h:isFrTag (γ a)=true):calG γ a=some .prot:=by unfold calG; rw [h]; rfl
theorem calG_no {γ:Gam} {a:Addr} (h:isFrTag (γ a)=false):calG γ a=γ a:=by unfold calG; rw [h]; rfl
theorem leaG_fr {γ γ2:Gam} {a:Addr} (h:isFrTag (γ a)=true):leaG γ γ2 a=γ a:=by unfold leaG; rw [h]; rfl
theorem leaG_no {γ γ2:Gam} {a:Addr} (h:isFrTag (γ a)=false):leaG γ γ2 a=sanG (γ2 a):=by unfold leaG; rw [h]; rfl
theorem entG_old {γ:Gam} {L:Addr} {cs:List Addr} {a:Addr} (h1:a≠L) (h2:a ∉ cs):entG γ L cs a=calG γ a:=by unfold entG; rw [if_neg h1,if_neg h2]
section
variable {C:Cfg} {pl pl2:Nat→Option Place} {n:Nat} {T:Tabs} {cf:CF} {env:Env} {cx:Cx}
variable {A:Around} {E:Value→Shared→Prop} {γ γ':Gam} {sg sg':List Addr} {σ σ':St} {s:Shared} {k:Nat}
theorem Inv.back {L:Addr} {cs:List Addr} {γ2:Gam} {sg2:List Addr} {σ2:St} {s1 s2:Shared} (I:Inv C pl γ sg σ s) (hk:∀ a o,s.heap.get? a=some o→s1.heap.get? a=some o) (hL:s.heap.get? L=none) (hcs:∀ c∈cs,s.heap.get? c=none)
  (I2:Inv C pl2 γ2 sg2 σ2 s2) (A2:AdvS (entG γ L cs) sg s1 γ2 sg2 s2) (hro:σ2.ro=σ.ro) :
  Inv C pl (leaG γ γ2) sg2 { σ with store:=σ2.store } s2∧Adv γ sg s (leaG γ γ2) sg2 s2:=by
 have old:∀ a o,s.heap.get? a=some o→entG γ L cs a=calG γ a:=λa o e=>entG_old (λq=>by subst q; rw [hL] at e; cases e) (λq=>by have:=hcs a q; rw [e] at this; cases this)
 have fr:∀ a,isFrTag (γ a)=true→γ2 a=some .prot∧∀ o,s.heap.get? a=some o→s2.heap.get? a=some o:=λa h=>by
  obtain ⟨t,ht⟩:∃ t,γ a=some t:=by
   cases q:γ a with
   | none=>rw [q] at h; cases h
   | some t=>exact ⟨t,rfl⟩
  obtain ⟨⟨o,ho⟩,_⟩:=I.dom a t ht
  have e:=(old a o ho).trans (calG_fr h)
  exact ⟨A2.prot a e,λo' h'=>A2.keepP a o' e (hk a o' h')⟩
 have fz:∀ a o,γ a=none→s.heap.get? a=some o→γ2 a=none∧s2.heap.get? a=some o:=λa o e g=>by
  have e1:entG γ L cs a=none:=(old a o g).trans ((calG_no (by rw [e]; rfl)).trans e)
  exact ⟨A2.kept.froz a o e1 (hk a o g),A2.kept.keep a o e1 (hk a o g)⟩
 have kp:Kept γ sg s.heap (leaG γ γ2) sg2 s2.heap:=⟨λa o e g=>by rw [leaG_no (by rw [e]; rfl)]; exact sanG_none (fz a o e g).1,λa o e g=>(fz a o e g).2,A2.kept.sg⟩
 have kp2:Kept γ2 sg2 s2.heap (leaG γ γ2) sg2 s2.heap:=⟨λa o e _=>by
  cases h:isFrTag (γ a) with
  | true=>have:=(fr a h).1; rw [e] at this; cases this
  | false=>rw [leaG_no h]; exact sanG_none e,λ_ _ _ g=>g,List.prefix_refl _⟩
 refine ⟨⟨I2.gens,I2.os,I2.keep,λa t e=>?_,λi p e=>?_,I.inj,λi x e=>?_,I2.len,λk o a e1 e2=>?_⟩,⟨⟨λa o e=>?_,kp,λa e=>?_,λa o e g=>?_⟩,λa o t e q g=>?_⟩⟩
 ·cases h:isFrTag (γ a) with
  | true =>
   rw [leaG_fr h] at e
   obtain ⟨⟨o,ho⟩,hb⟩:=I.dom a t e
   exact ⟨⟨o,(fr a h).2 o ho⟩,hb⟩
  | false =>
   rw [leaG_no h] at e
   obtain ⟨v,hv⟩:=sanG_some e
   exact I2.dom a v hv
 ·have ok:=I.ok i p e
  have h:isFrTag (γ p.addr)=true:=by rcases Place.ok_tag ok with t | t <;> rw [t] <;> rfl
  exact Place.ok_to ok (leaG_fr h) λo g=>(fr _ h).2 o g
 ·obtain ⟨p,v,h1,h2,h3⟩:=I.vars i x e
  have h:isFrTag (γ p.addr)=true:=by rcases Place.ok_tag (I.ok i p h1) with t | t <;> rw [t] <;> rfl
  refine ⟨p,v,h1,Place.has_to h2 λo g=>(fr _ h).2 o g,h3.mono kp λa o e1 e2=>?_⟩
  have ha:isFrTag (γ a)=true:=by rw [e1]; rfl
  exact ⟨(leaG_fr ha).trans e1,(fr a ha).2 o e2⟩
 ·have e3:σ2.sto k=some o:=by
   have e1:(if σ.ro then none else σ2.store[k]?)=some o:=e1
   unfold St.sto
   rw [hro]; exact e1
  refine (I2.store k o a e3 e2).mono kp2 λb o' q g=>?_
  have hb:isStoTag (γ2 b)=true:=by rcases q with q | ⟨f,q⟩ | q <;> rw [q] <;> rfl
  have hf:isFrTag (γ b)=false:=by
   cases h:isFrTag (γ b) with
   | false=>rfl
   | true=>have:=(fr b h).1; rw [this] at hb; cases hb
  exact ⟨(leaG_no hf).trans (sanG_sto hb),g⟩
 ·obtain ⟨o',h'⟩:=A2.there a o (hk a o e)
  exact ⟨o',h'⟩
 ·exact (leaG_fr (by rw [e]; rfl)).trans e
 ·exact (fr a (by rw [e]; rfl)).2 o g
 ·have h:isFrTag (γ a)=true:=by rw [e]; rcases q with rfl | rfl <;> rfl
  exact ⟨(leaG_fr h).trans e,(fr a h).2 o g⟩
theorem res_back {L:Addr} {cs:List Addr} {γ2:Gam} {sg2:List Addr} {s1 s2:Shared} {r:LV} {v:Value} {C2:Cfg} {pl2:Nat→Option Place} {σ2:St} (I:Inv C pl γ sg σ s) (hk:∀ a o,s.heap.get? a=some o→s1.heap.get? a=some o)
  (old:∀ a,isFrTag (γ a)=true→γ2 a=some .prot) (R:LVOk γ2 sg2 s2.heap .prot r v) (N:NewR s1 r v):LVOk (leaG γ γ2) sg2 s2.heap .prot r v∧NewR s r v:=by
 have kp2:Kept γ2 sg2 s2.heap (leaG γ γ2) sg2 s2.heap:=⟨λa o e _=>by
  cases h:isFrTag (γ a) with
  | true=>have:=old a h; rw [e] at this; cases this
  | false=>rw [leaG_no h]; exact sanG_none e,λ_ _ _ g=>g,List.prefix_refl _⟩
 have N':NewR s r v:=NewR.up (λa o e=>⟨o,hk a o e⟩) N
 refine ⟨?_,N'⟩
 have key:∀ a,v=.ref a→(∀ b,v=.ref b→s.heap.get? b=none)→γ2 a=some .prot→leaG γ γ2 a=some .prot:=by
  intro a hv hn e
  have h:isFrTag (γ a)=false:=by
   cases q:γ a with
   | none=>rfl
   | some t=>obtain ⟨⟨o,ho⟩,_⟩:=I.dom a t q; rw [hn a hv] at ho; cases ho
  rw [leaG_no h]; exact sanG_prot e
 cases r with
 | val y=>exact Rep.mono kp2 R
 | olist l =>
  obtain ⟨a,us,m,rfl,g,o,r⟩:=R
  exact ⟨a,us,m,rfl,key a rfl N' g,o,r.mono kp2⟩
 | obarr l =>
  obtain ⟨a,rfl,g,o⟩:=R
  exact ⟨a,rfl,key a rfl N' g,o⟩
end
@[reducible] noncomputable def Place.ctorIdx (x:Place):Nat:=Place.casesOn (motive:=λ_=>Nat) x (λ_ _=>0) (λ_=>1)
noncomputable def namesOk (sc:Scope) (xs:List Str) (np:Nat):Bool :=
 decide xs.Nodup && xs.all (λx=>sc.names.lookup x == some .local || sc.names.lookup x == some .cell) && sc.names.all (λp=>p.2 != .free) && decide (np≤xs.length)
structure FnTie (C:Cfg) (a:Addr) (fn:Fn) (xs:List Str) (fd:FuncData) (body:List Stmt):Prop where
 look:∃ oc od osl,C.K.lookup a=some ⟨oc,od,.func fd,osl⟩
 body:fd.body=.stmts body
 glob:fd.globals=mainGlobals
 blt:fd.builtins=builtinsNs
 clo:fd.closure=[]
 code:codeIn C.K fd.code fd.qualname=true
 co:fd.scope.isCoroutine=false
 gen:fd.scope.isGenerator=false
 kind:fd.scope.kind=.function
 names:namesOk fd.scope xs fn.np=true
 nv:xs.length≤fn.nv
 bind:∀ {γ sg} {s:Shared} {vs us},C.K.In s.heap→Reps γ sg s.heap vs us→(padArgs fn vs).length=fn.np→∃ ws,Reps γ sg s.heap (padArgs fn vs) ws∧BindsTo s fd ⟨us,[]⟩ ((xs.take fn.np).zip ws)
noncomputable def fnPl (sc:Scope) (xs:List Str) (L:Addr) (cs:List (Str×Addr)):Nat→Option Place:=λi=>(xs[i]?).bind λx=>match sc.names.lookup x with
 | some .local=>some (.loc L x)
 | some .cell=>(cs.lookup x).map .cell
 | _=>none
section
variable {prog:Program} {w:World} {A:Around} {E:Value→Shared→Prop} {s:Shared} {R:Result→Shared→Prop}
theorem codeN_call_function {a:Addr} {args:Args} {o:Obj} {fd:FuncData} {body:List Stmt} (hroom:A.depth < recursionLimit)
  (ho:s.heap.get? a=some o)
  (hd':o.data=.func fd) (hco:fd.scope.isCoroutine=false) (hgen:fd.scope.isGenerator=false) (hbody:fd.body=.stmts body) (hcd:s.heap.CodeRec fd.code fd.qualname)
  (h:wpN (model prog w) A.in1 (bindArgs fd args) (λbinds s₁ =>
   wpN (model prog w) A.in1 (newFunctionEnv fd.scope fd.globals fd.closure binds (fd.qualname ++ ".<locals>.") (some a) fd.code none fd.builtins)
    (λenv s₂=>s₂.heap.NoLimit∧codeN (model prog w) A (.func body env) R s₂) (λe s'=>R (.error e) s') s₁) (λe s'=>R (.error e) s') s) :
  codeN (model prog w) A (.call (.ref a) args) R s:=by
 refine codeN_of_tree ?_
 show wpN _ A.in1 (callAny (.ref a) args) _ _ s
 simp only [callAny]
 refine wpN_step (wpAny_load ho ?_)
 obtain ⟨c,oc,vs,tq,hc,hoc,hdc,hq⟩:=hcd
 simp only [hd',callFunction,hco,hgen,hbody,hc]
 rw [hc] at h
 refine wpN_step (m:=field (.ref c) 1) (wpAny_field hoc hdc hq (wpN_step (wpAny_pure ?_)))
 exact wpN_bind (wpN_mono h (λbinds s₁ h₁=>wpN_bind (wpN_mono h₁ (λenv s₂ h₂=>wpN_step (wpAny_enterFrame h₂.1 hroom
  (wpN_pure ⟨rfl,rfl,h₂.2⟩))) λ_ _ h'=>h')) λ_ _ h'=>h')
theorem codeN_func {body:List Stmt} {env:Env} (h:∀ E',wpN (model prog w) (A.deeper env) (execs body env) (λf s'=>R (.ok (.ret (match f with | .ret v=>v | _=>.none))) s') E' s):codeN (model prog w) A (.func body env) R s:=by
 refine codeN_of_tree ?_
 show wpN _ (A.deeper env) (do point; match ←(execs body env).onRaise (leaving env) with | .ret v=>ret v | _=>ret .none) _ _ s
 refine wpN_step (wpAny_point (wpN_bind (wpN_onRaise (wpN_mono (h _) (λf s' h'=>?_) λ_ _ h'=>h'))))
 cases f <;> exact wpN_pure h'
end
theorem bindL_get {kindOf:Str→Option NameKind}:∀ {bs:List (Str×Value)} {m:Str→Option Value} {x:Str} {v:Value},(bs.map (·.1)).Nodup→(x,v)∈bs→kindOf x=some .local→bindL kindOf bs m x=some v
 | (y,u) :: r,m,x,v,hd,hm,hk=>by
  rw [List.map_cons,List.nodup_cons] at hd
  unfold bindL
  rcases List.mem_cons.mp hm with e | hm
  ·cases e
   have key:∀ {r:List (Str×Value)} {m':Str→Option Value},y ∉ r.map (·.1)→bindL kindOf r m' y=m' y:=by
    intro r
    induction r with
    | nil=>intro m' _; rfl
    | cons p r ih =>
     intro m' hn
     rw [List.map_cons,List.mem_cons,not_or] at hn
     unfold bindL
     rw [ih hn.2]
     split
     ·exact if_neg hn.1
     ·rfl
   rw [key hd.1,if_pos hk,if_pos rfl]
  ·exact bindL_get hd.2 hm hk
theorem bindC_get {kindOf:Str→Option NameKind}:∀ {bs:List (Str×Value)} {m:Str→Option Value} {x:Str} {v:Value},(bs.map (·.1)).Nodup→(x,v)∈bs→kindOf x≠some .local→bindC kindOf bs m x=some v
 | (y,u) :: r,m,x,v,hd,hm,hk=>by
  rw [List.map_cons,List.nodup_cons] at hd
  unfold bindC
  rcases List.mem_cons.mp hm with e | hm
  ·cases e
   have key:∀ {r:List (Str×Value)} {m':Str→Option Value},y ∉ r.map (·.1)→bindC kindOf r m' y=m' y:=by
    intro r
    induction r with
    | nil=>intro m' _; rfl
    | cons p r ih =>
     intro m' hn
     rw [List.map_cons,List.mem_cons,not_or] at hn
     unfold bindC
     rw [ih hn.2]
     split
     ·rfl
     ·exact if_neg hn.1
   rw [key hd.1,if_neg hk,if_pos rfl]
  ·exact bindC_get hd.2 hm hk
theorem zip_fst_sub {α β:Type}:∀ (l:List α) (m:List β),((l.zip m).map (·.1)).Sublist l
 | [],_=>.slnil
 | a :: l,[]=>by simp
 | a :: l,b :: m=>(zip_fst_sub l m).cons_cons a
theorem zipIdx_lookup {xs:List Str} {x:Str} {i:Nat} (h:xs.zipIdx.lookup x=some i):xs[i]?=some x:=by
 have:=lookup_mem h
 rw [List.mem_zipIdx_iff_getElem?] at this
 exact this
theorem nodup_get {α:Type} {xs:List α} (hd:xs.Nodup) {i j:Nat} {x:α} (h1:xs[i]?=some x) (h2:xs[j]?=some x):i=j:=by
 obtain ⟨a1,a2⟩:=List.getElem?_eq_some_iff.mp h1
 obtain ⟨b1,b2⟩:=List.getElem?_eq_some_iff.mp h2
 exact (List.getElem_inj hd).mp (a2.trans b2.symm)
theorem pw_same {cs:List (Str×Addr)} (hp:cs.Pairwise λx y=>x.2≠y.2):∀ {x y:Str} {c:Addr},(x,c)∈cs→(y,c)∈cs→x=y:=by
 induction cs with
 | nil=>intro x y c h; cases h
 | cons p r ih =>
  intro x y c h1 h2
  rw [List.pairwise_cons] at hp
  rcases List.mem_cons.mp h1 with e1 | h1 <;> rcases List.mem_cons.mp h2 with e2 | h2
  ·rw [←e1] at e2; cases e2; rfl
  ·exact absurd (by rw [←e1]) (hp.1 _ h2)
  ·exact absurd (by rw [←e2]) (hp.1 _ h1)
  ·exact ih hp.2 h1 h2
section
variable {C:Cfg} {pl:Nat→Option Place} {n:Nat} {T:Tabs} {fns:Nat→Option Fn}
variable {A:Around} {E:Value→Shared→Prop} {γ γ':Gam} {sg sg':List Addr} {σ σ':St} {s:Shared} {k:Nat}
theorem Inv.callee {sc:Scope} {xs:List Str} {vs:List Val} {ws:List Value} {L:Addr} {cs:List (Str×Addr)} {kindOf:Str→Option NameKind} {np nv:Nat} {s1:Shared} (hko:∀ x,kindOf x=sc.names.lookup x) (hn:namesOk sc xs np=true) (hnp:vs.length=np) (hcs:∀ x,sc.names.lookup x=some .cell→(cs.lookup x).isSome=true)
  (I:Inv C pl γ sg σ s) (hL:s.heap.objs.size≤L) (R:Reps γ sg s.heap vs ws) (K:InCallC s L (bindL kindOf ((xs.take np).zip ws) λ_=>none) cs (bindC kindOf ((xs.take np).zip ws) λ_=>none) s1) :
  Inv C (fnPl sc xs L cs) (entG γ L (xs.filterMap λx=>cs.lookup x)) sg ⟨vs.map (λv=>some (.val v)) ++ List.replicate (nv - np) none,σ.store,σ.ro⟩ s1∧(∀ a o,s.heap.get? a=some o→s1.heap.get? a=some o)∧s.heap.get? L=none∧∀ c∈xs.filterMap (λx=>cs.lookup x),s.heap.get? c=none:=by
 unfold namesOk at hn
 simp only [Bool.and_eq_true,decide_eq_true_eq,List.all_eq_true,Bool.or_eq_true,beq_iff_eq] at hn
 obtain ⟨⟨⟨hnd,hkinds⟩,_⟩,hle⟩:=hn
 obtain ⟨⟨⟨h1,t1,rfl⟩,hns,hkeep,hfr⟩,hcell,hap,hab⟩:=K
 have gone:∀ a,s.heap.objs.size≤a→s.heap.get? a=none:=λa h=>Heap.get?_none_of_le h
 have hLn:=gone L hL
 have mem:∀ c,c∈xs.filterMap (λx=>cs.lookup x)→∃ x,cs.lookup x=some c:=λc h=>by
  obtain ⟨x,_,e⟩:=List.mem_filterMap.mp h
  exact ⟨x,e⟩
 have hcn:∀ c,c∈xs.filterMap (λx=>cs.lookup x)→s.heap.get? c=none:=λc h=>by
  obtain ⟨x,e⟩:=mem c h
  exact gone c (Nat.le_trans hL (Nat.le_of_lt (hab x c (lookup_mem e))))
 have old:∀ a o,s.heap.get? a=some o→entG γ L (xs.filterMap λx=>cs.lookup x) a=calG γ a:=λa o e=>entG_old (λq=>by subst q; rw [hLn] at e; cases e) (λq=>by rw [hcn a q] at e; cases e)
 have tagL:entG γ L (xs.filterMap λx=>cs.lookup x) L=some .ns:=by unfold entG; rw [if_pos rfl]
 have tagC:∀ c,c∈xs.filterMap (λx=>cs.lookup x)→entG γ L (xs.filterMap λx=>cs.lookup x) c=some .cell:=λc h=>by
  unfold entG
  obtain ⟨x,e⟩:=mem c h
  have:=hab x c (lookup_mem e)
  have hne:c≠L:=λq=>by rw [q] at this; exact Nat.lt_irrefl _ this
  rw [if_neg hne,if_pos h]
 have kp:Kept γ sg s.heap (entG γ L (xs.filterMap λx=>cs.lookup x)) sg h1:=⟨λa o e g=>by rw [old a o g,calG_no (by rw [e]; rfl)]; exact e,λa o _ g=>hkeep a o g,List.prefix_refl _⟩
 refine ⟨⟨I.gens,I.os,λb o e=>hkeep b o (I.keep b o e),λa t e=>?_,λi p e=>?_,λi j p e1 e2=>?_,λi x e=>?_,I.len,λk o a e1 e2=>?_⟩,hkeep,hLn,hcn⟩
 ·by_cases h:a=L
  ·subst h
   obtain ⟨ob,_,_,ho,_⟩:=hns
   exact ⟨⟨ob,ho⟩,I.new hLn⟩
  ·by_cases h2:a∈xs.filterMap (λx=>cs.lookup x)
   ·obtain ⟨x,ex⟩:=mem a h2
    obtain ⟨ob,ho,_⟩:=hcell x a ex
    exact ⟨⟨ob,ho⟩,I.new (hcn a h2)⟩
   ·rw [entG_old h h2] at e
    obtain ⟨u,hu⟩:∃ u,γ a=some u:=by
     cases q:γ a with
     | none=>unfold calG at e; rw [q] at e; cases e
     | some u=>exact ⟨u,rfl⟩
    obtain ⟨⟨o,ho⟩,hb⟩:=I.dom a u hu
    exact ⟨⟨o,hkeep a o ho⟩,hb⟩
 ·unfold fnPl at e
  obtain ⟨x,h2,h3⟩:=Option.bind_eq_some_iff.mp e
  split at h3
  ·cases h3; exact ⟨tagL,_,hns⟩
  ·obtain ⟨c,h4,rfl⟩:=Option.map_eq_some_iff.mp h3
   exact ⟨tagC c (List.mem_filterMap.mpr ⟨x,List.mem_of_getElem? h2,h4⟩),_,hcell x c h4⟩
  ·cases h3
 ·unfold fnPl at e1 e2
  obtain ⟨x,h2,h3⟩:=Option.bind_eq_some_iff.mp e1
  obtain ⟨y,h4,h5⟩:=Option.bind_eq_some_iff.mp e2
  have hxy:x=y:=by
   split at h3
   ·cases h3
    split at h5
    ·cases h5; rfl
    ·obtain ⟨c,_,h⟩:=Option.map_eq_some_iff.mp h5; cases h
    ·cases h5
   ·obtain ⟨c,h6,rfl⟩:=Option.map_eq_some_iff.mp h3
    split at h5
    ·cases h5
    ·obtain ⟨c',h7,h⟩:=Option.map_eq_some_iff.mp h5
     cases h
     exact pw_same hap (lookup_mem h6) (lookup_mem h7)
    ·cases h5
   ·cases h3
  subst hxy
  exact nodup_get hnd h2 h4
 ·have e:(((vs.map (λv=>some (LV.val v)) ++ List.replicate (nv - np) none)[i]?).join)=some x:=(gv_eq _ _).symm.trans e
  have hi:i < vs.length:=by
   rcases Nat.lt_or_ge i vs.length with h | h
   ·exact h
   ·rw [List.getElem?_append_right (by simpa using h),List.getElem?_replicate] at e
    split at e <;> cases e
  rw [List.getElem?_append_left (by simpa using hi),List.getElem?_map,List.getElem?_eq_getElem hi] at e
  have hx:x=.val vs[i]:=by
   have:(some (LV.val vs[i]):Option LV)=some x:=e
   injection this with this; exact this.symm
  subst hx
  obtain ⟨w,hw,rw_⟩:=R.get (List.getElem?_eq_getElem hi)
  have hix:i < xs.length:=by omega
  have hxi:=List.getElem?_eq_getElem hix
  have hbn:(((xs.take np).zip ws).map (·.1)).Nodup:=by
   exact hnd.sublist ((zip_fst_sub _ _).trans (List.take_sublist _ _))
  have hbm:(xs[i],w)∈(xs.take np).zip ws:=by
   refine List.mem_of_getElem? (i:=i) ?_
   rw [List.getElem?_zip_eq_some]
   refine ⟨?_,hw⟩
   rw [List.getElem?_take_of_lt (by omega)]; exact hxi
  rcases hkinds xs[i] (List.getElem_mem hix) with hk | hk
  ·refine ⟨.loc L xs[i],w,?_,⟨_,hns,bindL_get hbn hbm ((hko _).trans hk)⟩,rw_.mono kp⟩
   unfold fnPl
   rw [hxi,Option.bind_some,hk]
  ·obtain ⟨c,hc⟩:=Option.isSome_iff_exists.mp (hcs _ hk)
   refine ⟨.cell c,w,?_,?_,rw_.mono kp⟩
   ·unfold fnPl
    rw [hxi,Option.bind_some,hk]
    dsimp only
    rw [hc]; rfl
   ·have:=hcell _ c hc
    rw [bindC_get hbn hbm (by rw [hko,hk]; nofun)] at this
    exact this
 ·refine (I.store k o a e1 e2).mono kp λb o' q g=>?_
  have hb:isFrTag (γ b)=false:=by rcases q with q | ⟨f,q⟩ | q <;> rw [q] <;> rfl
  exact ⟨(old b o' g).trans (calG_no hb),hkeep b o' g⟩
theorem envOk_fn {fd:FuncData} {xs:List Str} {L a:Addr} {np:Nat} (hg:fd.globals=mainGlobals) (hb:fd.builtins=builtinsNs) (hk:fd.scope.kind=.function) (hn:namesOk fd.scope xs np=true) (hcs:∀ x,fd.scope.names.lookup x=some .cell→((cellsFrom (L + 1) fd.scope.names []).lookup x).isSome=true) :
  EnvOk (fnPl fd.scope xs L (cellsFrom (L + 1) fd.scope.names [])) ⟨fd.scope,xs.zipIdx⟩ (callEnvC fd L a):=by
 unfold namesOk at hn
 simp only [Bool.and_eq_true,decide_eq_true_eq,List.all_eq_true,Bool.or_eq_true,beq_iff_eq] at hn
 obtain ⟨⟨⟨hnd,hkinds⟩,hfree⟩,hle⟩:=hn
 refine ⟨rfl,hk,hg,hb,λx i h1 h2=>?_,λi h=>?_,λx i h1 h2=>?_⟩
 ·unfold fnPl
  rw [zipIdx_lookup h1,Option.bind_some]
  dsimp only at h2
  rw [h2]; rfl
 ·unfold fnPl
  cases q:xs[i]? with
  | none=>rfl
  | some x=>exact absurd (List.mem_zipIdx_iff_getElem?.mpr q) (h x)
 ·rcases h2 with h2 | h2
  ·obtain ⟨c,hc⟩:=Option.isSome_iff_exists.mp (hcs x h2)
   refine ⟨c,hc,?_⟩
   unfold fnPl
   rw [zipIdx_lookup h1,Option.bind_some]
   dsimp only at h2 ⊢
   rw [h2]
   dsimp only
   rw [hc]; rfl
  ·have:=hfree _ (lookup_mem h2)
   simp at this
noncomputable def RoomC (n:Nat) (A:Around):Prop:=A.handled=none∧A.depth + 10 * n + 5 < recursionLimit∧A.units + 100 * n + 150 < cLine
theorem Room.toC {n:Nat} {A:Around} (h:Room n A):RoomC n A:=⟨h.1,by have:=h.2.1; omega,by have:=h.2.2; omega⟩
theorem RoomC.in {n:Nat} {A:Around} (h:RoomC (n + 1) A):A.depth < recursionLimit:=by have:=h.2.1; omega
theorem fn_call (G:CfgOk C) {a:Addr} {fn:Fn} {xs:List Str} {fd:FuncData} {body:List Stmt} (tie:FnTie C a fn xs fd body) {j:Nat} (hfn:fns j=some fn)
  (hb:∀ {pl env},EnvOk pl ⟨fd.scope,xs.zipIdx⟩ env→TS C pl n (execs body env) (exSs T (callF T fns n) fn.body)) {vs us r st'} {RR:Result→Shared→Prop}
  (hR:RoomC (n + 1) A) (I:Inv C pl γ sg σ s) (R:Reps γ sg s.heap vs us) (e:callF T fns (n + 1) j vs σ.ro σ.store=some (r,st'))
  (hQ:∀ γ' sg' v s',Inv C pl γ' sg' { σ with store:=st' } s'→Adv γ sg s γ' sg' s'→LVOk γ' sg' s'.heap .prot r v→NewR s r v→RR (.ok (.ret v)) s') :
  codeN (model C.prog C.w) A (.call (.ref a) ⟨us,[]⟩) RR s:=by
 obtain ⟨oc,od,osl,ho⟩:=tie.look
 have X:=I.X G
 have hob:=X _ _ ho
 have e:callFn T (callF T fns n) (fns j) vs σ.ro σ.store=some (r,st'):=e
 rw [hfn] at e
 obtain ⟨hlen,e⟩:=ite_some' (c:=(padArgs fn vs).length=fn.np) e
 refine fin_inv e λσ2 hro zz1 e2=>?_; obtain rfl:=zz1
 obtain ⟨ws,hws,hbind⟩:=tie.bind X R hlen
 have hlen2:A.depth < recursionLimit:=by have:=hR.2.1; omega
 refine codeN_call_function hlen2 hob rfl tie.co tie.gen tie.body (codeRec_of X tie.code) (.of (hbind _ _ _ _ ?_))
 rw [tie.clo,tie.glob,tie.blt]
 have hkinds:∀ x∈(xs.take fn.np).zip ws,fd.scope.names.lookup x.1=some .local∨(fd.scope.names.lookup x.1=some .cell∧((cellsFrom (s.heap.objs.size + 1) fd.scope.names []).lookup x.1).isSome=true):=by
  refine kindsX ?_ _
  rw [List.all_eq_true]
  intro y hy
  have hn:=tie.names
  unfold namesOk at hn
  simp only [Bool.and_eq_true,List.all_eq_true] at hn
  exact hn.1.1.2 y.1 (List.mem_of_mem_take (List.of_mem_zip (show (y.1,y.2)∈_ from hy)).1)
 refine .of (wpAny_newFunctionEnv_cells (s:=s) tie.kind hkinds λenv he s1 K=>?_)
 have hcs:∀ x,fd.scope.names.lookup x=some .cell→((cellsFrom (s.heap.objs.size + 1) fd.scope.names []).lookup x).isSome=true:=λx h=>cellsFrom_some _ _ _ (.inl h)
 have hE:env=callEnvC fd s.heap.objs.size a:=by rw [he]; unfold callEnvC; rw [tie.glob,tie.blt]
 rw [hE] at K ⊢
 have EO:EnvOk (fnPl fd.scope xs s.heap.objs.size (cellsFrom (s.heap.objs.size + 1) fd.scope.names [])) ⟨fd.scope,xs.zipIdx⟩ (callEnvC fd s.heap.objs.size a):=envOk_fn tie.glob tie.blt tie.kind tie.names hcs
 obtain ⟨I1,hkeep,hLn,hcn⟩:=I.callee (sc:=fd.scope) (kindOf:=(callEnvC fd s.heap.objs.size a).kindOf) (nv:=fn.nv) (λ_=>rfl) tie.names hlen hcs (Nat.le_refl _) hws K
 refine ⟨(G.lim.keeps I.keep).keeps hkeep,codeN_func λE'=>?_⟩
 have hR':Room n (A.deeper (callEnvC fd s.heap.objs.size a)):=⟨hR.1,by have:=hR.2.1; show A.depth + 1 + _ + _ < _; omega,by have:=hR.2.2; show A.units + 3 + _ + _ < _; omega⟩
 have old:∀ {γ2 sg2 s2},AdvS (entG γ s.heap.objs.size (xs.filterMap λx=>(cellsFrom (s.heap.objs.size + 1) fd.scope.names []).lookup x)) sg s1 γ2 sg2 s2→∀ b,isFrTag (γ b)=true→γ2 b=some .prot:=λA2 b h=>by
  obtain ⟨t,ht⟩:∃ t,γ b=some t:=by
   cases q:γ b with
   | none=>rw [q] at h; cases h
   | some t=>exact ⟨t,rfl⟩
  obtain ⟨⟨o,ho⟩,_⟩:=I.dom b t ht
  refine A2.prot b ?_
  rw [entG_old (λq=>by subst q; rw [hLn] at ho; cases ho) (λq=>by rw [hcn b q] at ho; cases ho)]
  exact calG_fr h
 obtain ⟨e2,rfl⟩ | e2:=e2
 ·refine hb EO hR' I1 e2 λγ2 sg2 fl s2 I2 A2 F2=>?_
  cases fl <;> first | exact F2.elim | skip
  obtain ⟨I3,A3⟩:=I.back hkeep hLn hcn I2 A2 hro
  exact hQ _ _ _ _ I3 A3 .none trivial
 ·refine hb EO hR' I1 e2 λγ2 sg2 fl s2 I2 A2 F2=>?_
  cases fl <;> first | exact F2.elim | skip
  obtain ⟨I3,A3⟩:=I.back hkeep hLn hcn I2 A2 hro
  obtain ⟨R3,N3⟩:=res_back (s1:=s1) (C2:=C) (pl2:=fnPl fd.scope xs s.heap.objs.size (cellsFrom (s.heap.objs.size + 1) fd.scope.names [])) (σ2:=σ2) (L:=s.heap.objs.size) (cs:=[]) I hkeep (old A2) F2.1 F2.2
  exact hQ _ _ _ _ I3 A3 R3 N3
end
section
variable {prog:Program} {w:World} {A:Around} {K:Frag} {C:Addr} {R:Result→Shared→Prop} {h:Heap} {g:Array GenState} {d:Drawn} {t:Nat} {os:OsState}
theorem codeN_call_builtin_at {s:Shared} {id:String} {args:Args} {b:Builtin} (hq:(Code.builtin id args).quiet=true) (hbad:badIds.contains id=false) (hb:entryFor table id=some b)
  (h:wpN (model prog w) A.in1 (checkBuiltinCall id args) (λ_ s₁=>wpN (model prog w) (A.under (.builtin id args)) (b args)
   (λfin s'=>match fin with | .done f=>R (.ok f) s' | .again c'=>c'.quiet=true∧isBad c'=false∧codeN (model prog w) A c' R s') (λe s'=>R (.error e) s') s₁)
   (λe s'=>R (.error e) s') s):codeN (model prog w) A (.call (.builtin id) args) R s:=by
 refine codeN_of_tree ?_
 show wpN _ A.in1 (do checkBuiltinCall id args; again (.builtin id args)) _ _ s
 exact wpN_bind (wpN_mono h (λ_ s₁ h₁=>wpN_pure ⟨hq,hbad,codeN_builtin hb h₁⟩) λ_ _ h'=>h')
theorem looks_here {α:Type} {M:Model} {h:Heap} {t:Sem α} {a:α} (l:Looks M h t a) {A:Around} {E:Value→Shared→Prop} {s:Shared} {Q:α→Shared→Prop} (k:∀ b o,h.get? b=some o→s.heap.get? b=some o) (q:Q a s):wpAny M A t Q E s:=l A Q E s k q
theorem N_make_core {rest:List Value} {init:Value} (Y:Makes (model prog w) h C) (hi:Looks (model prog w) h (typeLookup (.ref C) "__init__") (some init))
  (hb:∀ self,Looks (model prog w) h (bindSpecial init self) (init,[self])) (hne:(some init != some (Value.builtin "object.__init__"))=true)
  (hq:codeN (model prog w) (A.under (.builtin "type.__call__" ⟨.ref C :: rest,[]⟩)) (.call init ⟨.ref (h.objs.size + 1) :: rest,[]⟩) (InitBack (h.objs.size + 1) R) ⟨(h.push emptyDict).push (instObj C h.objs.size),g,d,t,os⟩) :
  codeN (model prog w) A (.call (.ref C) ⟨rest,[]⟩) R ⟨h,g,d,t,os⟩:=by
 have Y':=Y
 obtain ⟨⟨oc,od,cd,sl,hC,e1,e2,e4⟩,made,base,self,top,call,typ⟩:=Y
 refine codeN_of_tree ?_
 show wpN _ _ (callAny (.ref C) _) _ _ _
 simp only [callAny]
 refine wpN_step (wpAny_load hC ?_)
 show wpN _ _ (callAny.viaDunder (.ref C) _) _ _ _
 unfold callAny.viaDunder
 refine wpN_step (looks_here call (λ_ _ e=>e) ?_)
 dsimp only
 rw [tc_bind]
 refine wpN_step (wpAny_pure (wpN_step (wpAny_pure ?_)))
 refine wpN_pure (a:=Fin.again (.call (.builtin "type.__call__") ⟨.ref C :: rest,[]⟩)) ⟨rfl,rfl,?_⟩
 refine codeN_call_builtin_at (Code.quiet_builtin _ (by decide +kernel)) (by decide +kernel) entry_typeCall (.of (check_slot tc_kind tc_split typ (tc_args _ _ _) ?_))
 unfold Builtin.«type.__call__»
 have hm:Looks (model prog w) h (mroOf (.ref C)) cd.mro:=((Looks.ld (part:=none) hC).andThen .now).andThen .now
 show wpN _ _ (mroOf (.ref C) >>= _) _ _ _
 refine wpN_step (looks_here hm (λ_ _ e=>e) ?_)
 rw [e4]
 show wpN _ _ (Bind.madeBy (.ref C) >>= _) _ _ _
 refine wpN_step (looks_here made (λ_ _ e=>e) ?_)
 refine wpN_step (wpAny_pure ?_)
 refine wpN_step (wpAny_holding (wpAny_call (new_K Y' hi (.inl hne) ?_)))
 have k:∀ b o,h.get? b=some o→((h.push emptyDict).push (instObj C h.objs.size)).get? b=some o:=λb o e=>Heap.get?_push_of_some _ (Heap.get?_push_of_some _ e)
 have hx:((h.push emptyDict).push (instObj C h.objs.size)).get? (h.objs.size + 1)=some (instObj C h.objs.size):=by heap_get
 have t1:Looks (model prog w) ((h.push emptyDict).push (instObj C h.objs.size)) (typeOf (.ref (h.objs.size + 1))) (.ref C):=(Looks.ld hx).andThen .now
 have s1:=self.keeps k
 have i1:=hi.keeps k
 have b1:=(hb (.ref (h.objs.size + 1))).keeps k
 have t2:Looks (model prog w) ((h.push emptyDict).push (instObj C h.objs.size)) (isInstance (.ref (h.objs.size + 1)) (.ref C)) true:=t1.andThen s1
 show wpN _ _ (isInstance (.ref (h.objs.size + 1)) (.ref C) >>= _) _ _ _
 refine wpN_step (looks_here t2 (λ_ _ e=>e) ?_)
 show wpN _ _ ((holding [.ref (h.objs.size + 1)] (callSpecial? (.ref (h.objs.size + 1)) "__init__" rest [])) >>= _) _ _ _
 refine wpN_bind (wpN_holding ?_)
 unfold callSpecial? specialOf
 refine wpN_step (looks_here (t1.andThen i1) (λ_ _ e=>e) ?_)
 dsimp only
 refine wpN_holding (wpN_step (looks_here b1 (λ_ _ e=>e) ?_))
 dsimp only
 refine wpN_bind (wpN_call (codeN_mono hq λr s' z=>?_))
 rcases r with e | (v | _ | _ | _) <;> first | exact z | exact z.elim | skip
 obtain ⟨rfl,z⟩:=z
 exact wpN_pure (wpN_pure z)
end
theorem Room.under {n:Nat} {A:Around} (h:Room n A) (c:Addr) (us:List Value):RoomC n (A.under (.builtin "type.__call__" ⟨.ref c :: us,[]⟩)):=by
 refine ⟨h.1,?_,?_⟩
 ·have e:(Code.builtin "type.__call__" ⟨.ref c :: us,[]⟩).weight=1:=rfl
  have:=h.2.1
  show A.depth + _ + _ + _ < _
  rw [e]; omega
 ·have e:(Code.builtin "type.__call__" ⟨.ref c :: us,[]⟩).cUnits=1:=rfl
  have:=h.2.2
  show A.units + _ + _ + _ < _
  rw [e]; omega
noncomputable def CallsOk (C:Cfg) (T:Tabs) (fns:Nat→Option Fn) (n:Nat):Prop :=
 ∀ {A:Around} {γ:Gam} {sg:List Addr} {σ:St} {s:Shared} {pl:Nat→Option Place} {j:Nat} {vs us r st'} {RR:Result→Shared→Prop},RoomC n A→Inv C pl γ sg σ s→Reps γ sg s.heap vs us→callF T fns n j vs σ.ro σ.store=some (r,st') →
  (∀ γ' sg' v s',Inv C pl γ' sg' { σ with store:=st' } s'→Adv γ sg s γ' sg' s'→LVOk γ' sg' s'.heap .prot r v→NewR s r v→RR (.ok (.ret v)) s')→codeN (model C.prog C.w) A (.call (.ref (C.fnA j)) ⟨us,[]⟩) RR s
noncomputable def fnAt (K:Frag) (a:Addr):Bool:=match K.lookup a with
 | some ⟨_,_,.func _,_⟩=>true
 | _=>false
theorem fnAt_of {K:Frag} {a:Addr} (h:fnAt K a=true):∃ o fd,K.lookup a=some o∧o.data=.func fd:=by
 unfold fnAt at h
 split at h
 ·rename_i fd _ e
  exact ⟨_,fd,e,rfl⟩
 ·cases h
section
variable {C:Cfg} {pl:Nat→Option Place} {n:Nat} {T:Tabs} {fns:Nat→Option Fn} {cf:CF} {env:Env} {cx:Cx}
variable {A:Around} {E:Value→Shared→Prop} {γ γ':Gam} {sg sg':List Addr} {σ σ':St} {s:Shared} {k:Nat}
theorem T_call (G:CfgOk C) (H:EnvOk pl cx env) (K:CallsOk C T fns n) {x:Str} {np pos:Pos} {args:List Expr} {ms:MEs} {j:Nat} (hg:isGlobal cx.scope x=true) (hn:nsIn C.K mainGlobals x=some (some (.ref (C.fnA j)))) (hf:fnAt C.K (C.fnA j)=true) (hp:args.all plainE=true)
  (h:TEs C pl n (starEach args env) (evEs T (callF T fns n) ms)):TE C pl n (eval (.Call (.Name x np) args [] pos) env) (evE T (callF T fns n) (.call j ms)):=by
 intro A E Q γ sg σ s z σ' hR I e hQ
 refine kcall_inv (rs:=evEs T (callF T fns n) ms σ) e λvs σ1 st e1 _ e2 zz1=>?_; obtain rfl:=zz1
 refine N_Call_Name (.of (wp_glob G I H hg hn ?_))
 rw [backTo_plain hp]
 refine N_callWith (plain_all hp) (wp_args h (plain_all hp) hR I e1 λγ1 sg1 us s1 I1 A1 R1=>⟨?_,?_⟩)
 ·obtain ⟨o,fd,ho,hd⟩:=fnAt_of hf
  exact keeper_fn (I1.X G _ _ ho) hd
 ·exact wpN_call (K hR.toC I1 R1 e2 λγ2 sg2 v s2 I2 A2 R2 N2=>hQ _ _ _ _ I2 (A1.trans A2) R2 (NewR.up A1.there N2))
theorem wp_getMethod (G:CfgOk C) (I:Inv C pl γ sg σ s) {c fs a da es m} (D:InstIs C γ sg s.heap k c fs a da es m) {name:Str} {fa:Addr} (hg:plainGet C.K (C.clsA c) name=true) (hf:findIn C.K (.ref (C.clsA c)) name=some (some (.ref fa))) (ht:isFn C.K (.ref fa)=true) (hne:∀ f,f < C.nf→C.fname f≠name)
  {pl':Sem Bool} {Q:Value×List Value→Shared→Prop} (h:Q (.ref fa,[.ref a]) s):wpAny (model C.prog C.w) A (getMethod (.ref a) name pl') Q E s :=
 method_fn (I.X G) D.inst (plainGet_of hg).1 (plainGet_of hg).2 hf (beq_iff_eq.mp ht) (by show (lookIn name (dictOf es m)).map _=_; rw [lookIn_dict,D.flds.none hne D.lt]; rfl) h
noncomputable def methK (C:Cfg) (c:Nat) (name:Str) (j:Nat):Bool:=plainGet C.K (C.clsA c) name && findIn C.K (.ref (C.clsA c)) name == some (some (.ref (C.fnA j))) && isFn C.K (.ref (C.fnA j)) && fnAt C.K (C.fnA j) && (List.range C.nf).all λf=>C.fname f != name
theorem T_meth (G:CfgOk C) (H:EnvOk pl cx env) (K:CallsOk C T fns n) {o:Expr} {name:Str} {ap pos:Pos} {args:List Expr} {a:ME} {ms:MEs} {j c:Nat} (hb:attributeBase o name env (eval o env)=eval o env) (hp:args.all plainE=true) (hfew:args.length < 30) (hline:(ap.endLine == pos.line)=true) (hc:T.cls j=some c) (hm:methK C c name j=true)
  (ho:TE C pl n (eval o env) (evE T (callF T fns n) a)) (h:TEs C pl n (starEach args env) (evEs T (callF T fns n) ms)):TE C pl n (eval (.Call (.Attribute o name ap) args [] pos) env) (evE T (callF T fns n) (.meth a j ms)):=by
 intro A E Q γ sg σ s z σ' hR I e hQ
 unfold methK at hm
 simp only [Bool.and_eq_true,beq_iff_eq,List.all_eq_true,List.mem_range,bne_iff_ne] at hm
 obtain ⟨⟨⟨⟨m1,m2⟩,m3⟩,m4⟩,m5⟩:=hm
 refine kmeth_inv (r:=evE T (callF T fns n) a σ) (es:=evEs T (callF T fns n) ms) e λkk σ1 c0 fs vs σ2 st e1 hs hc' e2 e3 zz1=>?_; obtain rfl:=zz1
 obtain rfl:=sj (hc.symm.trans hc')
 refine N_Call_method hb hp hfew hline (ho.val hR I e1 λγ1 sg1 v1 s1 I1 A1 R1=>?_)
 obtain ⟨ad,rfl,hsg⟩:=R1.inv
 obtain ⟨da,es,m,D⟩:=I1.inst hs hsg
 refine ⟨.ref (C.fnA j),[.ref ad],λpl' Q' q=>wp_getMethod G I1 D m1 m2 m3 (λf hf=>m5 f hf) q,?_⟩
 refine N_callWith (plain_all hp) (wp_args h (plain_all hp) hR I1 e2 λγ2 sg2 us s2 I2 A2 R2=>⟨?_,?_⟩)
 ·obtain ⟨o,fd,ho,hd⟩:=fnAt_of m4
  exact keeper_fn (I2.X G _ _ ho) hd
 ·exact wpN_call (K hR.toC I2 (.cons (.obj (A2.kept.ge hsg)) R2) e3 λγ3 sg3 v s3 I3 A3 R3 N3=>hQ _ _ _ _ I3 ((A1.trans A2).trans A3) R3 (NewR.up (A1.trans A2).there N3))
theorem Inv.newSto {o:SObj} {a:Addr} (I:Inv C pl γ sg σ s) (hro:σ.ro=false) (ho:SObjOk C γ (sg ++ [a]) s.heap σ.store.length o a):Inv C pl γ (sg ++ [a]) { σ with store:=σ.store ++ [o] } s∧Adv γ sg s γ (sg ++ [a]) s:=by
 have kp:Kept γ sg s.heap γ (sg ++ [a]) s.heap:=⟨λ_ _ e _=>e,λ_ _ _ g=>g,List.prefix_append _ _⟩
 refine ⟨⟨I.gens,I.os,I.keep,I.dom,I.ok,I.inj,λi x e=>?_,?_,λk o' b e1 e2=>?_⟩,⟨λ_ o e=>⟨o,e⟩,kp,λ_ e=>e,λ_ _ _ g=>g⟩,λ_ _ _ e _ g=>⟨e,g⟩⟩
 ·obtain ⟨p,v,h1,h2,h3⟩:=I.vars i x e
  exact ⟨p,v,h1,h2,h3.mono kp λa o e1 e2=>⟨e1,e2⟩⟩
 ·show (sg ++ [a]).length=(σ.store ++ [o]).length
  rw [List.length_append,List.length_append,I.len]; rfl
 ·have e3:(if σ.ro then none else (σ.store ++ [o])[k]?)=some o':=e1
  rw [hro,if_neg (by decide)] at e3
  rcases Nat.lt_or_ge k σ.store.length with h | h
  ·rw [List.getElem?_append_left h] at e3
   rw [List.getElem?_append_left (by rw [I.len]; exact h)] at e2
   exact (I.store k o' b (by unfold St.sto; rw [hro,if_neg (by decide)]; exact e3) e2).mono kp λ_ _ _ g=>⟨rfl,g⟩
  ·rw [List.getElem?_append_right h] at e3
   rw [List.getElem?_append_right (by rw [I.len]; exact h),I.len] at e2
   have hk:k - σ.store.length=0:=by
    cases q:k - σ.store.length with
    | zero=>rfl
    | succ n=>rw [q] at e3; simp at e3
   rw [hk] at e3 e2
   have:k=σ.store.length:=by omega
   subst this
   cases e3; cases e2
   exact ho
theorem T_share {t:Sem Value} {a:ME} (h:TE C pl n t (evE T cf a)):TE C pl n t (evE T cf (.share a)):=by
 intro A E Q γ sg σ s z σ' hR I e hQ
 refine kshare_inv e λl σ1 e1 hro zz1 zz2=>?_; obtain rfl:=zz1; obtain rfl:=zz2
 refine h hR I e1 λγ1 sg1 v1 s1 I1 A1 R1 N1=>?_
 obtain ⟨a,vs,m,rfl,g,o,r⟩:=R1
 have hn:s.heap.get? a=none:=N1 a rfl
 have I2:=I1.re g (some (.sl σ1.store.length))
 have kp:Kept γ1 sg1 s1.heap (γ1.upd a (some (.sl σ1.store.length))) (sg1 ++ [a]) s1.heap:=⟨λb o e _=>by
  unfold Gam.upd; split
  ·rename_i q; subst q; exact nsm (e.symm.trans g)
  ·exact e,λ_ _ _ g=>g,List.prefix_append _ _⟩
 have A2:Adv γ sg s (γ1.upd a (some (.sl σ1.store.length))) sg1 s1:=A1.iterStep (it:=a) (λa t g=>(I.dom a t g).1) hn (λ_ _ _ g=>g) λb q=>Gam.upd_ne _ _ q
 obtain ⟨I3,A3⟩:=I2.newSto (a:=a) (o:=.slist l) hro ⟨vs,Gam.upd_self ..,⟨_,o,rfl,_,rfl⟩,r.mono kp⟩
 refine hQ _ _ _ _ I3 (A2.trans A3) (.obj ?_) trivial
 rw [←I1.len]
 simp
noncomputable def newK (C:Cfg) (c j:Nat):Bool:=makesIn C.K (C.clsA c) && findIn C.K (.ref (C.clsA c)) "__init__" == some (some (.ref (C.fnA j))) && isFn C.K (.ref (C.fnA j)) && (match C.K.lookup (C.clsA c) with
 | some ⟨_,_,.cls _,_⟩=>true
 | _=>false)
theorem keeper_cls {M:Model} {a:Addr} (Y:Makes M s.heap a):∃ k,∀ Q':Keeper→Shared→Prop,Q' k s→wpAny M A (keeperOf (.ref a)) Q' E s:=by
 obtain ⟨oc,od,cd,sl,hC,e1,e2,e4⟩:=Y.obj
 refine ⟨.machine,λQ' q=>?_⟩
 unfold keeperOf
 refine wpAny_bind (wpAny_load hC ?_)
 dsimp only
 refine wpAny_bind (looks_here Y.call (λ_ _ e=>e) ?_)
 exact wpAny_pure q
theorem T_new (G:CfgOk C) (H:EnvOk pl cx env) (K:CallsOk C T fns n) {x:Str} {np pos:Pos} {args:List Expr} {ms:MEs} {c j:Nat} (hg:isGlobal cx.scope x=true) (hn:nsIn C.K mainGlobals x=some (some (.ref (C.clsA c)))) (hj:T.init c=some j) (hk:newK C c j=true) (hp:args.all plainE=true)
  (h:TEs C pl n (starEach args env) (evEs T (callF T fns n) ms)):TE C pl n (eval (.Call (.Name x np) args [] pos) env) (evE T (callF T fns n) (.new c ms)):=by
 intro A E Q γ sg σ s z σ' hR I e hQ
 unfold newK at hk
 simp only [Bool.and_eq_true,beq_iff_eq] at hk
 obtain ⟨⟨⟨k1,k2⟩,k3⟩,k4⟩:=hk
 refine knew_inv (rs:=evEs T (callF T fns n) ms σ) e λvs σ1 j' st e1 hj' hro e2 zz1 zz2=>?_; obtain rfl:=zz1; obtain rfl:=zz2
 obtain rfl:=sj (hj.symm.trans hj')
 refine N_Call_Name (.of (wp_glob G I H hg hn ?_))
 rw [backTo_plain hp]
 refine N_callWith (plain_all hp) (wp_args h (plain_all hp) hR I e1 λγ1 sg1 us s1 I1 A1 R1=>⟨?_,wpN_call ?_⟩)
 ·exact keeper_cls (makes_of (I1.X G) k1)
 ·have X:=I1.X G
  have I2:=I1.push emptyDict (some (.sd σ1.store.length)) s1.toks rfl
  have A2:=I1.pushA emptyDict (some (.sd σ1.store.length)) s1.toks
  have I3:=I2.push (instObj (C.clsA c) s1.heap.objs.size) none s1.toks rfl
  have A3:=I2.pushA (instObj (C.clsA c) s1.heap.objs.size) none s1.toks
  have hsz:(s1.heap.push emptyDict).objs.size=s1.heap.objs.size + 1:=Heap.size_push ..
  have hne:s1.heap.objs.size≠(s1.heap.push emptyDict).objs.size:=by rw [hsz]; exact Nat.ne_of_lt (Nat.lt_succ_self _)
  obtain ⟨I4,A4⟩:=I3.newSto (a:=(s1.heap.push emptyDict).objs.size) (o:=.inst c []) hro ⟨s1.heap.objs.size,[],0,Gam.upd_self ..,Heap.get?_push_size _ rfl,by rw [Gam.upd_ne _ _ hne,Gam.upd_self],Heap.get?_push_of_some _ (Heap.get?_push_size _ rfl),trivial,List.nodup_nil,λp hp=>nomatch hp⟩
  have A14:=(A2.trans A3).trans A4
  refine N_make_core (makes_of X k1) (looks_findIn X k2) (λself=>bind_fn X self (beq_iff_eq.mp k3)) rfl ?_
  refine K (σ:={ σ1 with store:=σ1.store ++ [.inst c []] }) (hR.under _ _) I4 (.cons (.obj ?_) (R1.mono A14.kept)) (by rw [show ({ σ1 with store:=σ1.store ++ [.inst c []] }:St).ro=false from hro]; exact e2) λγ5 sg5 v s5 I5 A5 R5 N5=>?_
  ·rw [←I1.len,List.getElem?_append_right (Nat.le_refl _),Nat.sub_self,hsz]; rfl
  ·obtain rfl:v=.none:=Rep.inv R5
   have hsg:sg5[σ1.store.length]?=some (s1.heap.objs.size + 1):=by
    refine A5.kept.ge ?_
    rw [←I1.len,List.getElem?_append_right (Nat.le_refl _),Nat.sub_self,hsz]; rfl
   exact ⟨rfl,hQ _ _ _ _ I5 ((A1.trans A14).trans A5) (.obj hsg) trivial⟩
end
noncomputable def blind (γ:Gam):Gam:=λa=>(γ a).map λ_=>.prot
noncomputable def unblind (γ γ2:Gam):Gam:=λa=>if (γ a).isSome then γ a else γ2 a
section
variable {C:Cfg} {pl:Nat→Option Place} {n:Nat} {T:Tabs} {fns:Nat→Option Fn} {cf:CF} {env:Env} {cx:Cx}
variable {A:Around} {E:Value→Shared→Prop} {γ γ':Gam} {sg sg':List Addr} {σ σ':St} {s:Shared} {k:Nat}
theorem blind_none {a:Addr} (h:γ a=none):blind γ a=none:=by unfold blind; rw [h]; rfl
theorem blind_some {a:Addr} {t:Tag} (h:γ a=some t):blind γ a=some .prot:=by unfold blind; rw [h]; rfl
theorem Inv.blind (I:Inv C pl γ sg σ s):Inv C (λ_=>none) (blind γ) sg { vars:=[],store:=σ.store,ro:=true } s:=by
 refine ⟨I.gens,I.os,I.keep,λa t e=>?_,λi p e=>(nomatch e),λi j p e=>(nomatch e),λi x e=>?_,I.len,λk o a e1 e2=>(nomatch e1)⟩
 ·cases q:γ a with
  | none=>rw [blind_none q] at e; cases e
  | some u=>exact I.dom a u q
 ·exact nsm e
theorem Inv.unblind {γ2:Gam} {sg2:List Addr} {σ2:St} {pl2:Nat→Option Place} {s2:Shared} (I:Inv C pl γ sg σ s) (I2:Inv C pl2 γ2 sg2 σ2 s2) (A2:Adv (Mine.blind γ) sg s γ2 sg2 s2) (hl:σ2.store.length=σ.store.length) :
  Inv C pl (unblind γ γ2) sg σ s2∧Adv γ sg s (Mine.unblind γ γ2) sg s2∧sg2=sg∧∀ a o,s.heap.get? a=some o→s2.heap.get? a=some o:=by
 have hsg:sg2=sg:=(A2.kept.sg.eq_of_length (by rw [I.len,I2.len,hl])).symm
 subst hsg
 have keep:∀ a o,s.heap.get? a=some o→s2.heap.get? a=some o:=λa o g=>by
  cases q:γ a with
  | none=>exact A2.kept.keep a o (blind_none q) g
  | some t=>exact A2.keepP a o (blind_some q) g
 have tg:∀ a t,γ a=some t→Mine.unblind γ γ2 a=some t:=λa t e=>by unfold Mine.unblind; rw [e]; rfl
 have fz:∀ a o,γ a=none→s.heap.get? a=some o→Mine.unblind γ γ2 a=none:=λa o e g=>by
  unfold Mine.unblind; rw [e]; exact A2.kept.froz a o (blind_none e) g
 have kp:Kept γ sg2 s.heap (Mine.unblind γ γ2) sg2 s2.heap:=⟨λa o e g=>fz a o e g,λa o _ g=>keep a o g,List.prefix_refl _⟩
 refine ⟨⟨I2.gens,I2.os,I2.keep,λa t e=>?_,λi p e=>?_,I.inj,λi x e=>?_,I.len,λk o a e1 e2=>?_⟩,⟨⟨A2.there,kp,λa e=>tg a _ e,λa o _ g=>keep a o g⟩,λa o t e _ g=>⟨tg a t e,keep a o g⟩⟩,rfl,keep⟩
 ·cases q:γ a with
  | some u =>
   rw [tg a u q] at e; cases e
   obtain ⟨⟨o,ho⟩,hb⟩:=I.dom a t q
   exact ⟨⟨o,keep a o ho⟩,hb⟩
  | none =>
   have:Mine.unblind γ γ2 a=γ2 a:=by unfold Mine.unblind; rw [q]; rfl
   rw [this] at e
   exact I2.dom a t e
 ·have ok:=I.ok i p e
  refine Place.ok_to ok ?_ λo g=>keep _ o g
  rcases Place.ok_tag ok with t | t <;> rw [t] <;> exact tg _ _ t
 ·obtain ⟨p,v,h1,h2,h3⟩:=I.vars i x e
  exact ⟨p,v,h1,Place.has_to h2 λo g=>keep _ o g,h3.mono kp λa o e1 e2=>⟨tg a _ e1,keep a o e2⟩⟩
 ·refine (I.store k o a e1 e2).mono kp λb o' q g=>⟨?_,keep b o' g⟩
  rcases q with q | ⟨f,q⟩ | q <;> rw [q] <;> exact tg _ _ q
noncomputable def KQ (C:Cfg) (pl:Nat→Option Place) (γ:Gam) (sg:List Addr) (s:Shared) (σ':St) (x:Val) (Q:Value→Shared→Prop):Prop:=∀ γ' sg' v s',Inv C pl γ' sg' σ' s'→Adv γ sg s γ' sg' s'→Rep γ' sg' s'.heap x v→(∀ a o,s.heap.get? a=some o→s'.heap.get? a=some o)→Q v s'
noncomputable def KQs (C:Cfg) (pl:Nat→Option Place) (γ:Gam) (sg:List Addr) (s:Shared) (σ':St) (x:List Val) (Q:List Value→Shared→Prop):Prop:=∀ γ' sg' vs s',Inv C pl γ' sg' σ' s'→Adv γ sg s γ' sg' s'→Reps γ' sg' s'.heap x vs→(∀ a o,s.heap.get? a=some o→s'.heap.get? a=some o)→Q vs s'
noncomputable def TEq (C:Cfg) (pl:Nat→Option Place) (n:Nat) (t:Sem Value) (f:St→Option (LV×St)):Prop :=
 ∀ {A:Around} {E:Value→Shared→Prop} {Q:Value→Shared→Prop} {γ sg σ s r σ'},Room n A→Inv C pl γ sg σ s→f σ=some (r,σ') →
  KQ C pl γ sg s σ' r.frz Q→wpN (model C.prog C.w) A t Q E s
noncomputable def TEqs (C:Cfg) (pl:Nat→Option Place) (n:Nat) (ts:List (Bool×Sem Value)) (f:St→Option (List Val×St)):Prop :=
 ∀ {A:Around} {E:Value→Shared→Prop} {Q:List Value→Shared→Prop} {γ sg σ s r σ'},Room n A→Inv C pl γ sg σ s→f σ=some (r,σ') →
  KQs C pl γ sg s σ' r Q→wpN (model C.prog C.w) A (spliced ts) Q E s
theorem TEqs.nil:TEqs C pl n [] (λσ=>some ([],σ)):=by
 intro A E Q γ sg σ s r σ' _ I e hQ
 obtain ⟨rfl,rfl⟩:=si2 e
 exact N_nil (hQ _ _ _ _ I .refl .nil λ_ _ g=>g)
theorem TEqs.cons {t ts f g} (h:TEq C pl n t f) (hs:TEqs C pl n ts g):TEqs C pl n ((false,t) :: ts) (λσ=>kcons (f σ) g):=by
 intro A E Q γ sg σ s r σ' hR I e hQ
 refine kcons_inv (r:=f σ) (es:=g) e λx σ1 xs e1 e2 zz1=>?_; obtain rfl:=zz1
 refine N_cons (h hR I e1 λγ1 sg1 v s1 I1 A1 R1 K1=>hs hR I1 e2 λγ2 sg2 vs s2 I2 A2 R2 K2=>?_)
 exact hQ _ _ _ _ I2 (A1.trans A2) (.cons (R1.mono A2.kept) R2) λa o g=>K2 a o (K1 a o g)
theorem TEqs_nil:TEqs C pl n (starEach [] env) (evEs T cf .nil):=TEqs.nil
theorem TEqs_cons {x:Expr} {r:List Expr} {m:ME} {ms:MEs} (hp:plainE x=true) (h:TEq C pl n (eval x env) (evE T cf m)) (hs:TEqs C pl n (starEach r env) (evEs T cf ms)):TEqs C pl n (starEach (x :: r) env) (evEs T cf (.cons m ms)):=by
 rw [starEach_one hp]
 intro A E Q γ sg σ s r σ' hR I e hQ
 exact TEqs.cons h hs hR I e hQ
theorem TEq_var {x i pos} (H:EnvOk pl cx env) (hi:cx.ix.lookup x=some i) (hk:isVarKind cx.scope x=true) (hc:(x == ("__classdict__":Str))=false) (hd:(x == ("__debug__":Str))=false) :
  TEq C pl n (eval (.Name x pos) env) (evE T cf (.var i)):=by
 intro A E Q γ sg σ s r σ' _ I e hQ
 refine rv_inv e λy zz1 e1=>?_; obtain rfl:=zz1
 obtain ⟨γ',p,v,h1,h2,I',A',R⟩:=I.read e1
 exact .of (wpAny_Name (wp_load H hi hk hc h1 h2 (hQ _ _ _ _ I' A' R λ_ _ g=>g)) hd)
theorem TEq_attr (G:CfgOk C) {value:Expr} {f:Nat} {pos:Pos} {a:ME} (hb:attributeBase value (C.fname f) env (eval value env)=eval value env) (ha:TEq C pl n (eval value env) (evE T cf a)) :
  TEq C pl n (eval (.Attribute value (C.fname f) pos) env) (evE T cf (.attr a f)):=by
 intro A E Q γ sg σ s z σ' hR I e hQ
 refine kattr_inv (r:=evE T cf a σ) e λk σ1 e1 e=>?_
 refine rf_inv e λx zz1 e2=>?_; obtain rfl:=zz1
 refine N_Attribute hb (ha hR I e1 λγ1 sg1 v1 s1 I1 A1 R1 K1=>.of ?_)
 obtain ⟨ad,rfl,hsg⟩:=Rep.inv R1
 obtain ⟨c,fs,da,es,m,y,D,hy,fin⟩:=I1.readF G e2 hsg
 refine wp_getAttr G I1 D hy λv h1 h2=>?_
 obtain ⟨γ',I2,A2,R2⟩:=fin v h1 h2
 exact hQ _ _ _ _ (I2.tok _) ((A1.trans A2).trans (adv_tok _)) R2 K1
theorem TEq_tuple {es:List Expr} {k:Nat} {pos:Pos} {ms:MEs} (hp:es.all plainE=true) (h:TEqs C pl n (starEach es env) (evEs T cf ms)):TEq C pl n (eval (.Tuple es k pos) env) (evE T cf (.tuple ms)):=by
 intro A E Q γ sg σ s z σ' hR I e hQ
 refine kes_inv (rs:=evEs T cf ms σ) e λvs e1 e=>?_
 obtain ⟨hl,rfl⟩:=ite_some (c:=okLen vs.length=true) e
 refine N_Tuple ?_
 rw [backTo_plain hp]
 refine h hR I e1 λγ1 sg1 us s1 I1 A1 R1 K1=>⟨by rw [R1.length]; exact sizeLine_ok hl,?_⟩
 have I2:=I1.push { cls:=.type "tuple",data:=.seq us.toArray } none s1.toks rfl
 have A2:=I1.pushA { cls:=.type "tuple",data:=.seq us.toArray } none s1.toks
 exact hQ _ _ _ _ I2 (A1.trans A2) (.tuple (Gam.upd_self ..) ⟨_,Heap.get?_push_size _ rfl,rfl,_,rfl⟩ (R1.mono A2.kept)) λa o g=>Heap.get?_push_of_some _ (K1 a o g)
theorem wp_argsq {ts:List (Bool×Sem Value)} {f:Value} {g:St→Option (List Val×St)} (h:TEqs C pl n ts g) (hp:∀ x∈ts,x.1=false) {Q:Args→Shared→Prop} {σ' r} (hR:Room n A) (I:Inv C pl γ sg σ s) (e:g σ=some (r,σ'))
  (hQ:∀ γ' sg' vs s',Inv C pl γ' sg' σ' s'→Adv γ sg s γ' sg' s'→Reps γ' sg' s'.heap r vs→(∀ a o,s.heap.get? a=some o→s'.heap.get? a=some o)→Q ⟨vs,[]⟩ s'):wpN (model C.prog C.w) A (evalArgs f true ts []) Q E s:=by
 unfold evalArgs
 cases ts with
 | nil =>
  show wpN _ A (spliced [] >>= _) Q E s
  refine wpN_bind (h hR I e λγ' sg' vs s' a b c d=>wpN_bind (wpN_pure ?_))
  exact wpN_holding (wpN_bind (wpN_pure (wpN_bind (wpN_pure (wpN_pure (hQ γ' sg' vs s' a b c d))))))
 | cons x r =>
  obtain ⟨b,t⟩:=x
  have hb:b=false:=hp (b,t) (.head _)
  subst hb
  show wpN _ A (spliced ((false,t) :: r) >>= _) Q E s
  refine wpN_bind (h hR I e λγ' sg' vs s' a b c d=>?_)
  refine wpN_holding ?_
  exact wpN_bind (wpN_pure (wpN_bind (wpN_pure (wpN_pure (hQ γ' sg' vs s' a b c d)))))
theorem TEq_callP (G:CfgOk C) (H:EnvOk pl cx env) (K:CallsOk C T fns n) {x:Str} {np pos:Pos} {args:List Expr} {ms:MEs} {j:Nat} (hg:isGlobal cx.scope x=true) (hn:nsIn C.K mainGlobals x=some (some (.ref (C.fnA j)))) (hf:fnAt C.K (C.fnA j)=true) (hp:args.all plainE=true)
  (h:TEqs C pl n (starEach args env) (evEs T (callF T fns n) ms)):TEq C pl n (eval (.Call (.Name x np) args [] pos) env) (evE T (callF T fns n) (.callP j ms)):=by
 intro A E Q γ sg σ s z σ' hR I e hQ
 refine kcallP_inv (rs:=evEs T (callF T fns n) ms σ) e λvs st e1 _ e2 hl=>?_
 refine N_Call_Name (.of (wp_glob G I H hg hn ?_))
 rw [backTo_plain hp]
 refine N_callWith (plain_all hp) (wp_argsq h (plain_all hp) hR I e1 λγ1 sg1 us s1 I1 A1 R1 K1=>⟨?_,?_⟩)
 ·obtain ⟨o,fd,ho,hd⟩:=fnAt_of hf
  exact keeper_fn (I1.X G _ _ ho) hd
 ·have Ib:=I1.blind
  have kb:Kept γ1 sg1 s1.heap (blind γ1) sg1 s1.heap:=⟨λa o e _=>blind_none e,λ_ _ _ g=>g,List.prefix_refl _⟩
  refine wpN_call (K hR.toC Ib (R1.mono kb) e2 λγ2 sg2 v s2 I2 A2 R2 N2=>?_)
  obtain ⟨I3,A3,rfl,K3⟩:=I1.unblind I2 A2 hl
  have kpu:Kept γ2 sg2 s2.heap (unblind γ1 γ2) sg2 s2.heap:=⟨λa o e _=>by
   unfold unblind
   cases q:γ1 a with
   | none=>exact e
   | some t=>(have:=A2.prot a (blind_some q); rw [e] at this; cases this),λ_ _ _ g=>g,List.prefix_refl _⟩
  have fin:∀ {γ4:Gam},Inv C pl γ4 sg2 σ' s2→Adv γ1 sg2 s1 γ4 sg2 s2→Rep γ4 sg2 s2.heap z.frz v→Q v s2:=λI4 A4 R4=>hQ _ _ _ _ I4 (A1.trans A4) R4 λa o g=>K3 a o (K1 a o g)
  have res:LVOk (unblind γ1 γ2) sg2 s2.heap .prot z v:=by
   have tg:∀ a,s1.heap.get? a=none→γ2 a=some .prot→unblind γ1 γ2 a=some .prot:=λa hn e=>by
    unfold unblind
    cases q:γ1 a with
    | none=>exact e
    | some t=>obtain ⟨⟨o,ho⟩,_⟩:=I1.dom a t q; rw [hn] at ho; cases ho
   cases z with
   | val y=>exact Rep.mono kpu R2
   | olist l=>obtain ⟨a,us,m,rfl,g,o,r⟩:=R2; exact ⟨a,us,m,rfl,tg a (N2 a rfl) g,o,r.mono kpu⟩
   | obarr l=>obtain ⟨a,rfl,g,o⟩:=R2; exact ⟨a,rfl,tg a (N2 a rfl) g,o⟩
  obtain ⟨γ5,R5,q⟩:=res.frz
  rcases q with ⟨rfl,_⟩ | ⟨hne,a,rfl,g,rfl⟩
  ·exact fin I3 A3 R5
  ·have hn:s1.heap.get? a=none:=by
    cases z with
    | val y=>exact absurd rfl (hne y)
    | olist l=>exact N2 a rfl
    | obarr l=>exact N2 a rfl
   exact fin (I3.free g) (A3.iterStep (it:=a) (λa t g=>(I1.dom a t g).1) hn (λ_ _ _ g=>g) λb q=>Gam.upd_ne _ _ q) R5
theorem TS_fappend (G:CfgOk C) {x:Str} {i f:Nat} {p ap mp cp pos:Pos} {arg:Expr} {a:ME} (H:EnvOk pl cx env) (hi:cx.ix.lookup x=some i) (hk:isVarKind cx.scope x=true) (hcd:(x == ("__classdict__":Str))=false) (hd:(x == ("__debug__":Str))=false)
  (hp:plainE arg=true) (hline:(mp.endLine == cp.line)=true) (ha:TEq C pl n (eval arg env) (evE T cf a)) :
  TS C pl n (exec (.Expr (.Call (.Attribute (.Attribute (.Name x p) (C.fname f) ap) "append" mp) [arg] [] cp) pos) env) (exS T cf (.fappend i f a)):=by
 intro A E Q γ sg σ s z σ' hR I e hQ
 have hpl:[arg].all plainE=true:=by rw [List.all_cons,hp]; rfl
 refine N_drop H rfl ?_
 refine kfa_inv (e:=evE T cf a) e λkk l0 y σ1 l' σ2 hv hf0 e1 hf1 hok e2 e=>?_
 obtain ⟨rfl,rfl⟩:=pair_inj e
 have e0:kcons (evE T cf a σ) (λσ=>some ([],σ))=some ([y.frz],σ1):=by rw [e1]; rfl
 obtain ⟨pp,v,hpp,hhas,hlv⟩:=I.vars i _ hv
 obtain ⟨ad,rfl,hsg⟩:=Rep.inv hlv
 obtain ⟨c,fs,hst,hf⟩:=field_some hf0
 obtain ⟨da,es,m,D⟩:=I.inst hst hsg
 have base:∀ {Q':Value→Shared→Prop},(∀ a0 vs0 m0,getL (C.fname f) es=some (some (.ref a0))→γ a0=some (.sf kk f)→s.heap.get? a0=some (lstObj vs0 m0)→Q' (.ref a0) { s with toks:=s.toks + 1 }) →
   wpN (model C.prog C.w) A (eval (.Attribute (.Name x p) (C.fname f) ap) env) Q' E s:=by
  intro Q' hq
  rw [arm_eval_Attribute]
  refine .of ?_
  show wpAny _ _ (eval (.Name x p) env >>= _) _ _ _
  refine wpAny_bind (wpAny_Name (wp_load H hi hk hcd hpp hhas ?_) hd)
  refine wpAny_bind (wpAny_standAt (wpAny_bind (wpAny_holding (wp_getAttr G I D hf λv h1 h2=>wpAny_bind (wpAny_letTemporaryGo (wpAny_pure ?_))))))
  obtain ⟨a0,vs0,m0,rfl,g0,o0,r0⟩:=h2
  exact hq a0 vs0 m0 h1 g0 o0
 refine N_meth_builtin rfl hpl (by simp) hline F.plainAttrs_list slot_list_append F.type_list_append (base λa0 vs0 m0 hget g0 o0=>?_)
 refine ⟨⟨_,o0,rfl⟩,(λb e=>by obtain rfl:=ref_inj e; exact ⟨_,o0,rfl⟩),?_⟩
 rw [starEach_plain hpl]
 refine wp_argsq (γ:=γ) (sg:=sg) (σ:=σ) (TEqs.cons ha TEqs.nil) (by intro x hx; rw [List.mem_singleton.mp hx]) hR (I.tok (s.toks + 1)) e0 λγ1 sg1 us s1 I1 A1 R1 K1=>?_
 obtain ⟨v1,rfl,q⟩:=R1.inv1
 obtain ⟨c1,fs1,hk1,hf1'⟩:=field_some hf1
 have hsg1:sg1[kk]?=some ad:=A1.kept.ge hsg
 obtain ⟨da1,es1,m1,D1⟩:=I1.inst hk1 hsg1
 have eda:da1=da:=by
  have h1:=K1 ad _ D.obj
  rw [D1.obj] at h1
  injection h1 with h1
  have:=congrArg Obj.dict h1
  injection this
 subst eda
 have ees:es1=es:=by
  have h1:=K1 da1 _ D.dict
  rw [D1.dict] at h1
  injection h1 with h1
  have:=congrArg Obj.data h1
  injection this with h2 _
  exact Array.mk.inj h2
 subst ees
 have hff:=D1.lt _ (fget_mem hf1')
 obtain ⟨v2,g1,g2⟩:=D1.flds.get G hff D1.lt hf1'
 obtain rfl:=sj (sj (hget.symm.trans g1))
 obtain ⟨a1,vs,m2,ev,t1,o1,r1⟩:=g2
 obtain rfl:=ref_inj ev
 refine .of (wpAny_list_append_plain ⟨m2,o1⟩ (λh' hl' hs=>?_) (by rw [List.size_toArray,r1.length]; exact sizeLine_ok hok))
 obtain ⟨m',o'⟩:=hl'
 have e5:vs.toArray.push v1=(vs ++ [v1]).toArray:=by simp
 rw [e5] at o'
 have kp:Kept γ1 sg1 s1.heap γ1 sg1 h':=⟨λ_ _ e _=>e,λb o e g=>(hs.2 b (λq=>by subst q; rw [t1] at e; cases e)).trans g,List.prefix_refl _⟩
 obtain ⟨c3,fs3,hk3,rfl⟩:=putField_some e2
 have hk4:=sj (hk1.symm.trans hk3)
 injection hk4 with hk4 hk5
 subst hk4 hk5
 have new:LVOk γ1 sg1 h' (.sf kk f) (.olist (l' ++ [y.frz])) (.ref a0):=⟨a0,vs ++ [v1],m',rfl,t1,o',(r1.mono kp).append (Reps.one (q.mono kp))⟩
 have hfo:=D1.flds.put (γ':=γ1) (sg':=sg1) (h':=h') (x:=.olist (l' ++ [y.frz])) (v:=.ref a0) (hsh:=0) (t:=0) G hff (λg y' v' hne hl=>hl.mono kp λb o e1 e2=>⟨e1,(hs.2 b (λq=>by subst q; rw [t1] at e1; cases e1; exact hne rfl)).trans e2⟩) new D1.nod D1.lt
 rw [putL_same hget] at hfo
 have key:=I1.wroteStore (s':={ s1 with heap:=h' }) (b:=a0) (o':=.inst c1 (fset fs1 f (.olist (l' ++ [y.frz])))) hsg1 (sto_ro hk1).1 t1 (.inr (.inl ⟨f,rfl⟩)) rfl rfl hs ⟨_,o'⟩
  ⟨da1,es1,m1,D1.froz,(hs.2 ad (λq=>by have:=D1.froz; rw [q,t1] at this; cases this)).trans D1.obj,D1.tag,(hs.2 da1 (λq=>by have:=D1.tag; rw [q,t1] at this; cases this)).trans D1.dict,hfo,fset_nodup D1.nod,fset_lt hff D1.lt⟩
 exact ⟨rfl,hQ _ _ .next _ key.1 (((adv_tok _).trans A1).toAdvS.trans key.2) trivial⟩
end
section
variable {C:Cfg} {pl:Nat→Option Place} {n:Nat} {T:Tabs} {fns:Nat→Option Fn} {cf:CF} {env:Env} {cx:Cx}
theorem W_none {k pos}:TE C pl n (eval (.Constant .none k pos) env) (evE T cf (.const .none)):=T_none
theorem W_bool {k pos b}:TE C pl n (eval (.Constant (.bool b) k pos) env) (evE T cf (.const (.bool b))):=T_bool
theorem W_int {k pos i}:TE C pl n (eval (.Constant (.int i) k pos) env) (evE T cf (.const (.int i))):=T_int
theorem W_str {k pos} {x:Str} {l:List Nat} (h:x.cps.toList=l):TE C pl n (eval (.Constant (.str x) k pos) env) (evE T cf (.const (.str l))):=by subst h; exact T_str
theorem W_bytes {k pos l}:TE C pl n (eval (.Constant (.bytes l) k pos) env) (evE T cf (.const (.bytes l))):=T_bytes
noncomputable def varK (cx:Cx) (x:Str) (i:Nat):Bool:=cx.ix.lookup x == some i && isVarKind cx.scope x && !(x == ("__classdict__":Str)) && !(x == ("__debug__":Str))
theorem varK_of {x:Str} {i:Nat} (h:varK cx x i=true):cx.ix.lookup x=some i∧isVarKind cx.scope x=true∧(x == ("__classdict__":Str))=false∧(x == ("__debug__":Str))=false:=by
 unfold varK at h
 simp only [Bool.and_eq_true,Bool.not_eq_true'] at h
 exact ⟨eq_of_beq h.1.1.1,h.1.1.2,h.1.2,h.2⟩
noncomputable def stoK (cx:Cx) (x:Str) (i:Nat):Bool:=cx.ix.lookup x == some i && isStoreKind cx.scope x
theorem stoK_of {x:Str} {i:Nat} (h:stoK cx x i=true):cx.ix.lookup x=some i∧isStoreKind cx.scope x=true:=by
 unfold stoK at h
 simp only [Bool.and_eq_true] at h
 exact ⟨eq_of_beq h.1,h.2⟩
noncomputable def locK (cx:Cx) (x:Str) (i:Nat):Bool:=cx.ix.lookup x == some i && cx.scope.names.lookup x == some .local
theorem locK_of {x:Str} {i:Nat} (h:locK cx x i=true):cx.ix.lookup x=some i∧cx.scope.names.lookup x=some .local:=by
 unfold locK at h
 simp only [Bool.and_eq_true] at h
 exact ⟨eq_of_beq h.1,eq_of_beq h.2⟩
theorem W_var {x i pos} (H:EnvOk pl cx env) (h:varK cx x i=true):TE C pl n (eval (.Name x pos) env) (evE T cf (.var i)) :=
 T_var H (varK_of h).1 (varK_of h).2.1 (varK_of h).2.2.1 (varK_of h).2.2.2
theorem Q_var {x i pos} (H:EnvOk pl cx env) (h:varK cx x i=true):TEq C pl n (eval (.Name x pos) env) (evE T cf (.var i)):=TEq_var H (varK_of h).1 (varK_of h).2.1 (varK_of h).2.2.1 (varK_of h).2.2.2
theorem Ws_nil:TEs C pl n (starEach [] env) (evEs T cf .nil):=TEs.nil
theorem Ws_cons {x:Expr} {r:List Expr} {m:ME} {ms:MEs} (hp:plainE x=true) (h:TE C pl n (eval x env) (evE T cf m)) (hs:TEs C pl n (starEach r env) (evEs T cf ms)):TEs C pl n (starEach (x :: r) env) (evEs T cf (.cons m ms)):=by
 rw [starEach_one hp]
 intro A E Q γ sg σ s r σ' hR I e hQ
 exact TEs.cons h hs hR I e hQ
theorem W_list {es:List Expr} {pos:Pos} {ms:MEs} (hp:es.all plainE=true) (h:TEs C pl n (starEach es env) (evEs T cf ms)):TE C pl n (eval (.List es pos) env) (evE T cf (.list ms)):=T_list (backTo_plain hp) h
theorem W_tuple {es:List Expr} {k:Nat} {pos:Pos} {ms:MEs} (hp:es.all plainE=true) (h:TEs C pl n (starEach es env) (evEs T cf ms)):TE C pl n (eval (.Tuple es k pos) env) (evE T cf (.tuple ms)):=T_tuple (backTo_plain hp) h
theorem TS_stuck {t:Sem Flow}:TS C pl n t (exS T cf .stuck):=by
 intro A E Q γ sg σ s r σ' _ _ e
 exact nsm e
theorem W_subS (H:EnvOk pl cx env) {x:Str} {i kk:Nat} {k:Int} {p kp pos:Pos} (h:varK cx x i=true):TE C pl n (eval (.Subscript (.Name x p) (.Constant (.int k) kk kp) pos) env) (evE T cf (.subS i k)) :=
 T_subS H (varK_of h).1 (varK_of h).2.1 (varK_of h).2.2.1 (varK_of h).2.2.2
theorem W_assign {x:Str} {i:Nat} {p pos:Pos} {value:Expr} {a:ME} (H:EnvOk pl cx env) (h:stoK cx x i=true) (hc:isComp value=false) (ha:TE C pl n (eval value env) (evE T cf a)) :
  TS C pl n (exec (.Assign [.Name x p] value pos) env) (exS T cf (.assign i a)):=TS_assign H (stoK_of h).1 (stoK_of h).2 hc ha
noncomputable def stoKs (cx:Cx):List Str→List Nat→Bool
 | [],is=>is.isEmpty
 | x :: xs,is=>(match is with
  | []=>false
  | i :: is=>stoK cx x i && stoKs cx xs is)
theorem stoKs_of {xs:List Str}:∀ {is:List Nat},stoKs cx xs is=true→xs.length=is.length∧∀ q∈xs.zip is,cx.ix.lookup q.1=some q.2∧isStoreKind cx.scope q.1=true:=by
 induction xs with
 | nil =>
  intro is h
  cases is with
  | nil=>exact ⟨rfl,λq h=>nomatch h⟩
  | cons=>cases h
 | cons x xs ih =>
  intro is h
  cases is with
  | nil=>cases h
  | cons i is =>
   obtain ⟨h1,h2⟩:=Bool.and_eq_true_iff.mp (h:(stoK cx x i && stoKs cx xs is)=true)
   obtain ⟨a,b⟩:=ih h2
   refine ⟨congrArg Nat.succ a,λq hq=>?_⟩
   rcases List.mem_cons.mp hq with rfl | hq
   ·exact stoK_of h1
   ·exact b q hq
noncomputable def locKs (cx:Cx):List Str→List Nat→Bool
 | [],is=>is.isEmpty
 | x :: xs,is=>(match is with
  | []=>false
  | i :: is=>locK cx x i && locKs cx xs is)
theorem locKs_of {xs:List Str}:∀ {is:List Nat},locKs cx xs is=true→xs.length=is.length∧∀ q∈xs.zip is,cx.ix.lookup q.1=some q.2∧cx.scope.names.lookup q.1=some .local:=by
 induction xs with
 | nil =>
  intro is h
  cases is with
  | nil=>exact ⟨rfl,λq h=>nomatch h⟩
  | cons=>cases h
 | cons x xs ih =>
  intro is h
  cases is with
  | nil=>cases h
  | cons i is =>
   obtain ⟨h1,h2⟩:=Bool.and_eq_true_iff.mp (h:(locK cx x i && locKs cx xs is)=true)
   obtain ⟨a,b⟩:=ih h2
   refine ⟨congrArg Nat.succ a,λq hq=>?_⟩
   rcases List.mem_cons.mp hq with rfl | hq
   ·exact locK_of h1
   ·exact b q hq
theorem W_assignT {elts:List Expr} {kk:Nat} {tp pos:Pos} {value:Expr} {a:ME} {xs:List Str} {is:List Nat} {r:Option (List Str)} (H:EnvOk pl cx env) (hn:elts.map nameOf=xs.map some)
  (hx:stoKs cx xs is=true) (hc:isComp value=false) (hw:swapOf cx.scope [.Tuple elts kk tp] value=some r)
  (hr:r=none∨(r=some xs∧is.Nodup∧(is.length=2∨is.length=3))) (ha:TE C pl n (eval value env) (evE T cf a)) :
  TS C pl n (exec (.Assign [.Tuple elts kk tp] value pos) env) (exS T cf (.assignT is a)):=TS_assignT H hn (stoKs_of hx).1 (stoKs_of hx).2 hc hw hr ha
theorem W_setItem (H:EnvOk pl cx env) {x:Str} {i kk:Nat} {k:Int} {p kp ap pos:Pos} {value:Expr} {a:ME} (h:varK cx x i=true) (hk0:0≤k)
  (hc:isComp value=false) (ha:TE C pl n (eval value env) (evE T cf a)):TS C pl n (exec (.Assign [.Subscript (.Name x p) (.Constant (.int k) kk kp) ap] value pos) env) (exS T cf (.setItem i k a)) :=
 TS_setItem H (varK_of h).1 (varK_of h).2.1 (varK_of h).2.2.1 (varK_of h).2.2.2 hk0 hc ha
theorem W_aug {x:Str} {i:Nat} {op:Operator} {p pos:Pos} {value:Expr} {a:ME} (H:EnvOk pl cx env) (h:varK cx x i=true) (h2:stoK cx x i=true) (ho:augOp op=true)
  (ha:TE C pl n (eval value env) (evE T cf a)):TS C pl n (exec (.AugAssign (.Name x p) op value pos) env) (exS T cf (.aug i op a)):=TS_aug H (varK_of h).1 (varK_of h).2.1 (stoK_of h2).2 (varK_of h).2.2.1 ho ha
theorem W_append {x:Str} {i:Nat} {p ap cp pos:Pos} {arg:Expr} {a:ME} (H:EnvOk pl cx env) (h:varK cx x i=true) (hp:plainE arg=true) (hline:(ap.endLine == cp.line)=true) (ha:TE C pl n (eval arg env) (evE T cf a)) :
  TS C pl n (exec (.Expr (.Call (.Attribute (.Name x p) "append" ap) [arg] [] cp) pos) env) (exS T cf (.append i a)):=TS_append H (varK_of h).1 (varK_of h).2.1 (varK_of h).2.2.1 (varK_of h).2.2.2 hp hline ha
theorem W_extend {x:Str} {i:Nat} {p ap cp pos:Pos} {arg:Expr} {a:ME} (H:EnvOk pl cx env) (h:varK cx x i=true) (hp:plainE arg=true) (hline:(ap.endLine == cp.line)=true) (ha:TE C pl n (eval arg env) (evE T cf a)) :
  TS C pl n (exec (.Expr (.Call (.Attribute (.Name x p) "extend" ap) [arg] [] cp) pos) env) (exS T cf (.extend i a)):=TS_extend H (varK_of h).1 (varK_of h).2.1 (varK_of h).2.2.1 (varK_of h).2.2.2 hp hline ha
theorem W_reverse {x:Str} {i:Nat} {p ap cp pos:Pos} (H:EnvOk pl cx env) (h:varK cx x i=true) (hline:(ap.endLine == cp.line)=true) :
  TS C pl n (exec (.Expr (.Call (.Attribute (.Name x p) "reverse" ap) [] [] cp) pos) env) (exS T cf (.reverse i)):=TS_reverse H (varK_of h).1 (varK_of h).2.1 (varK_of h).2.2.1 (varK_of h).2.2.2 hline
theorem W_name {x:Str} {p:Pos} {i:Nat} (H:EnvOk pl cx env) (h:stoK cx x i=true):TA C pl n (.Name x p) env [i]:=TA_name H (stoK_of h).1 (stoK_of h).2
theorem W_nameL {x:Str} {p:Pos} {i:Nat} (H:EnvOk pl cx env) (h:locK cx x i=true):TAL C pl n (.Name x p) env [i]:=TAL_name H (locK_of h).1 (locK_of h).2
theorem W_tupleL {elts:List Expr} {kk:Nat} {tp:Pos} {xs:List Str} {is:List Nat} (H:EnvOk pl cx env) (hn:elts.map nameOf=xs.map some) (h2:2≤is.length) (hx:locKs cx xs is=true):TAL C pl n (.Tuple elts kk tp) env is :=
 TAL_tuple H hn (locKs_of hx).1 h2 (locKs_of hx).2
end
noncomputable def fnm:Nat→Str
 | 0=>"collations"
 | 1=>"descending"
 | 2=>"info"
 | 3=>"run_size"
 | 4=>"gathered"
 | 5=>"runs"
 | 6=>"taken"
 | 7=>"told"
 | _=>"place"
noncomputable def gFn:List (Str×Nat):=[(Str.ofString "utf8",0),(Str.ofString "lead_of",1),(Str.ofString "text_of",2),(Str.ofString "code_at",3),(Str.ofString "fold_ascii",4),(Str.ofString "storage_class",5),(Str.ofString "is_in_range",6),(Str.ofString "collate",7),(Str.ofString "put_varint",8),(Str.ofString "get_varint",9),(Str.ofString "put_fixed",10),(Str.ofString "get_fixed",11),(Str.ofString "number_type",12),(Str.ofString "serial_type",13),(Str.ofString "serial_size",14),(Str.ofString "body_of",15),(Str.ofString "value_of",16),(Str.ofString "head_size",17),(Str.ofString "encode_record",18),(Str.ofString "head_of",19),(Str.ofString "decode_record",20),(Str.ofString "record_column",21),
 (Str.ofString "put_ended",26),(Str.ofString "sort_part",27),(Str.ofString "sort_octets",28),(Str.ofString "merged",29),(Str.ofString "merge_sorted",30),(Str.ofString "_law_pool",40),(Str.ofString "_law_take",41),(Str.ofString "_law_one",42),(Str.ofString "_law_class",43),(Str.ofString "_law_folded",44),(Str.ofString "_law_sign",45),(Str.ofString "_law_sorted",46),(Str.ofString "_law_value",47),(Str.ofString "_law_stands",48),(Str.ofString "_law_all_right",49),(Str.ofString "_law_right",50),(Str.ofString "law",51)]
noncomputable def gMe:List (Str×Nat×Nat):=[(Str.ofString "count",23,0),(Str.ofString "collation",24,0),(Str.ofString "is_descending",25,0),(Str.ofString "insert",32,1),(Str.ofString "end_run",33,1),(Str.ofString "first",34,1),(Str.ofString "next",35,1),(Str.ofString "valid",36,1),(Str.ofString "record",37,1),(Str.ofString "values",38,1),(Str.ofString "value",39,1)]
noncomputable def gCo:List (Str×Val):=[(Str.ofString "MIN_INT",.int (-9223372036854775808)),(Str.ofString "MAX_INT",.int 9223372036854775807),(Str.ofString "WORD",.int 18446744073709551616),(Str.ofString "REPLACEMENT",.str [65533]),(Str.ofString "NUMBER_SIZES",.tuple [.int 0,.int 1,.int 2,.int 3,.int 4,.int 6,.int 8]),(Str.ofString "ZERO_TYPE",.int 8),(Str.ofString "ONE_TYPE",.int 9),(Str.ofString "BLOB_TYPE",.int 12),(Str.ofString "TEXT_TYPE",.int 13),(Str.ofString "NULL_TAG",.int 1),(Str.ofString "NUMBER_TAG",.int 2),(Str.ofString "TEXT_TAG",.int 3),(Str.ofString "BLOB_TAG",.int 4)]
noncomputable def gBi:List Str:=[Str.ofString "len",Str.ofString "ord",Str.ofString "chr",Str.ofString "bytes",Str.ofString "bytearray",Str.ofString "isinstance",Str.ofString "tuple",Str.ofString "bool",Str.ofString "max",Str.ofString "min",Str.ofString "int",Str.ofString "range",Str.ofString "str"]
structure Facts (C:Cfg):Prop where
 G:CfgOk C
 nf:C.nf=9
 fname:C.fname=fnm
 fn:∀ p∈gFn,nsIn C.K mainGlobals p.1=some (some (.ref (C.fnA p.2)))
 fnAt:∀ p∈gFn,fnAt C.K (C.fnA p.2)=true
 cls0:nsIn C.K mainGlobals "KeyInfo"=some (some (.ref (C.clsA 0)))
 cls1:nsIn C.K mainGlobals "Sorter"=some (some (.ref (C.clsA 1)))
 co:∀ p∈gCo,∃ v,nsIn C.K mainGlobals p.1=some (some v)∧constK C.K p.2 v=true
 bi:∀ x∈gBi,nsIn C.K mainGlobals x=some none
 me:∀ p∈gMe,methK C p.2.2 p.1 p.2.1=true
 new0:newK C 0 22=true
 new1:newK C 1 31=true
section
variable {C:Cfg} {pl:Nat→Option Place} {n:Nat} {T:Tabs} {fns:Nat→Option Fn} {cf:CF} {env:Env} {cx:Cx}
theorem W_const (F:Facts C) (H:EnvOk pl cx env) {x:Str} {pos:Pos} {c:Val} (hg:isGlobal cx.scope x=true) (hm:gCo.lookup x=some c):TE C pl n (eval (.Name x pos) env) (evE T cf (.const c)):=by
 obtain ⟨v,h1,h2⟩:=F.co _ (lookup_mem hm)
 exact T_gconst F.G H hg h1 h2
theorem W_call (F:Facts C) (H:EnvOk pl cx env) (K:CallsOk C T fns n) {x:Str} {np pos:Pos} {args:List Expr} {ms:MEs} {j:Nat} (hg:isGlobal cx.scope x=true) (hm:gFn.lookup x=some j) (hp:args.all plainE=true)
  (h:TEs C pl n (starEach args env) (evEs T (callF T fns n) ms)):TE C pl n (eval (.Call (.Name x np) args [] pos) env) (evE T (callF T fns n) (.call j ms)):=T_call F.G H K hg (F.fn _ (lookup_mem hm)) (F.fnAt _ (lookup_mem hm)) hp h
theorem Q_callP (F:Facts C) (H:EnvOk pl cx env) (K:CallsOk C T fns n) {x:Str} {np pos:Pos} {args:List Expr} {ms:MEs} {j:Nat} (hg:isGlobal cx.scope x=true) (hm:gFn.lookup x=some j) (hp:args.all plainE=true)
  (h:TEqs C pl n (starEach args env) (evEs T (callF T fns n) ms)):TEq C pl n (eval (.Call (.Name x np) args [] pos) env) (evE T (callF T fns n) (.callP j ms)):=TEq_callP F.G H K hg (F.fn _ (lookup_mem hm)) (F.fnAt _ (lookup_mem hm)) hp h
theorem W_meth (F:Facts C) (H:EnvOk pl cx env) (K:CallsOk C T fns n) {o:Expr} {name:Str} {ap pos:Pos} {args:List Expr} {a:ME} {ms:MEs} {j c:Nat} (hb:∀ {w},attributeBase o name env w=w) (hp:args.all plainE=true) (hfew:args.length < 30) (hline:(ap.endLine == pos.line)=true) (hc:T.cls j=some c) (hm:gMe.lookup name=some (j,c))
  (ho:TE C pl n (eval o env) (evE T (callF T fns n) a)) (h:TEs C pl n (starEach args env) (evEs T (callF T fns n) ms)):TE C pl n (eval (.Call (.Attribute o name ap) args [] pos) env) (evE T (callF T fns n) (.meth a j ms)) :=
 T_meth F.G H K hb hp hfew hline hc (F.me _ (lookup_mem hm)) ho h
theorem W_new0 (F:Facts C) (H:EnvOk pl cx env) (K:CallsOk C T fns n) {np pos:Pos} {args:List Expr} {ms:MEs} (hg:isGlobal cx.scope "KeyInfo"=true) (hj:T.init 0=some 22) (hp:args.all plainE=true)
  (h:TEs C pl n (starEach args env) (evEs T (callF T fns n) ms)):TE C pl n (eval (.Call (.Name "KeyInfo" np) args [] pos) env) (evE T (callF T fns n) (.new 0 ms)):=T_new F.G H K hg F.cls0 hj F.new0 hp h
theorem W_new1 (F:Facts C) (H:EnvOk pl cx env) (K:CallsOk C T fns n) {np pos:Pos} {args:List Expr} {ms:MEs} (hg:isGlobal cx.scope "Sorter"=true) (hj:T.init 1=some 31) (hp:args.all plainE=true)
  (h:TEs C pl n (starEach args env) (evEs T (callF T fns n) ms)):TE C pl n (eval (.Call (.Name "Sorter" np) args [] pos) env) (evE T (callF T fns n) (.new 1 ms)):=T_new F.G H K hg F.cls1 hj F.new1 hp h
theorem W_bi (F:Facts C) (H:EnvOk pl cx env) {b:BI} {x:Str} {np pos:Pos} {args:List Expr} {ms:MEs} (hx:x=biName b) (hm:biMoreV b=[]) (hp:args.all plainE=true) (hg:isGlobal cx.scope x=true) (hn:gBi.contains x=true)
  (h:TEs C pl n (starEach args env) (evEs T cf ms)):TE C pl n (eval (.Call (.Name x np) args [] pos) env) (evE T cf (.bi b ms)):=by subst hx; exact T_bi F.G H hm hp hg (F.bi _ (List.contains_iff_mem.mp hn)) h
theorem W_isi (F:Facts C) (H:EnvOk pl cx env) {b:BI} {y:Str} {np pos tp:Pos} {x:Expr} {ms:ME} {t:Str} {tv:Value} (hx:y=biName b) (hm:biMoreV b=[tv]) (hb:bootBuiltins t=some tv) (ht:(t == ("__name__":Str))=false) (hp:plainE x=true)
  (hg:isGlobal cx.scope y=true) (hn:gBi.contains y=true) (hg2:isGlobal cx.scope t=true) (hn2:gBi.contains t=true)
  (h:TE C pl n (eval x env) (evE T cf ms)):TE C pl n (eval (.Call (.Name y np) [x,.Name t tp] [] pos) env) (evE T cf (.bi b (.cons ms .nil))):=by subst hx; exact T_isi F.G H hm hb ht hp hg (F.bi _ (List.contains_iff_mem.mp hn)) hg2 (F.bi _ (List.contains_iff_mem.mp hn2)) h
theorem W_rng (F:Facts C) (H:EnvOk pl cx env) {np pos:Pos} {args:List Expr} {ms:MEs} (hp:args.all plainE=true) (hg:isGlobal cx.scope "range"=true)
  (h:TEs C pl n (starEach args env) (evEs T cf ms)):TI C pl n (eval (.Call (.Name "range" np) args [] pos) env) (evI T cf (.rng ms)):=TI_rng F.G H hp hg (F.bi _ (by simp [gBi])) h
theorem W_attr (F:Facts C) {value:Expr} {f:Nat} {y:Str} {pos:Pos} {a:ME} (hf:y=fnm f) (hb:∀ {w},attributeBase value y env w=w) (ha:TE C pl n (eval value env) (evE T cf a)) :
  TE C pl n (eval (.Attribute value y pos) env) (evE T cf (.attr a f)):=by
 subst hf; rw [←F.fname]; exact T_attr (f:=f) (pos:=pos) F.G (by rw [F.fname]; exact hb) ha
theorem Q_attr (F:Facts C) {value:Expr} {f:Nat} {y:Str} {pos:Pos} {a:ME} (hf:y=fnm f) (hb:∀ {w},attributeBase value y env w=w) (ha:TEq C pl n (eval value env) (evE T cf a)) :
  TEq C pl n (eval (.Attribute value y pos) env) (evE T cf (.attr a f)):=by
 subst hf; rw [←F.fname]; exact TEq_attr (f:=f) (pos:=pos) F.G (by rw [F.fname]; exact hb) ha
theorem W_subF (F:Facts C) (H:EnvOk pl cx env) {x y:Str} {i f kk:Nat} {k:Int} {p ap kp pos:Pos} (hf:y=fnm f) (h:varK cx x i=true) :
  TE C pl n (eval (.Subscript (.Attribute (.Name x p) y ap) (.Constant (.int k) kk kp) pos) env) (evE T cf (.subF i f k)):=by
 subst hf; rw [←F.fname]; exact T_subF (n:=n) (T:=T) (cf:=cf) (p:=p) (ap:=ap) (kp:=kp) (pos:=pos) (kk:=kk) (k:=k) (f:=f) F.G H (varK_of h).1 (varK_of h).2.1 (varK_of h).2.2.1 (varK_of h).2.2.2
theorem W_slcF (F:Facts C) (H:EnvOk pl cx env) {x y:Str} {i f kk:Nat} {k:Int} {p ap kp sp pos:Pos} (hf:y=fnm f) (h:varK cx x i=true) :
  TE C pl n (eval (.Subscript (.Attribute (.Name x p) y ap) (.Slice (some (.Constant (.int k) kk kp)) none none sp) pos) env) (evE T cf (.slcF i f k)):=by
 subst hf; rw [←F.fname]; exact T_slcF (n:=n) (T:=T) (cf:=cf) (p:=p) (ap:=ap) (kp:=kp) (sp:=sp) (pos:=pos) (kk:=kk) (k:=k) (f:=f) F.G H (varK_of h).1 (varK_of h).2.1 (varK_of h).2.2.1 (varK_of h).2.2.2
theorem W_lenF (F:Facts C) (H:EnvOk pl cx env) {x y:Str} {i f:Nat} {np p ap pos:Pos} (hf:y=fnm f) (h:varK cx x i=true) (hg:isGlobal cx.scope "len"=true) :
  TE C pl n (eval (.Call (.Name "len" np) [.Attribute (.Name x p) y ap] [] pos) env) (evE T cf (.lenF i f)):=by
 subst hf; rw [←F.fname]; exact T_lenF (n:=n) (T:=T) (cf:=cf) (np:=np) (p:=p) (ap:=ap) (pos:=pos) (f:=f) F.G H (varK_of h).1 (varK_of h).2.1 (varK_of h).2.2.1 (varK_of h).2.2.2 hg (F.bi _ (by simp [gBi]))
theorem W_truF (F:Facts C) (H:EnvOk pl cx env) {x y:Str} {i f:Nat} {p ap:Pos} (hf:y=fnm f) (h:varK cx x i=true) :
  TT C pl n (isTrue (.Attribute (.Name x p) y ap) env (eval (.Attribute (.Name x p) y ap) env)) (evE T cf (.truF i f)):=by
 subst hf; rw [←F.fname]; exact TT_truF (n:=n) (T:=T) (cf:=cf) (p:=p) (ap:=ap) (f:=f) F.G H (varK_of h).1 (varK_of h).2.1 (varK_of h).2.2.1 (varK_of h).2.2.2
theorem W_setAttr (F:Facts C) {x y:Str} {i f:Nat} {p ap pos:Pos} {value:Expr} {a:ME} (H:EnvOk pl cx env) (hf:y=fnm f) (hlt:f < 9) (h:varK cx x i=true)
  (hc:isComp value=false) (ha:TE C pl n (eval value env) (evE T cf a)):TS C pl n (exec (.Assign [.Attribute (.Name x p) y ap] value pos) env) (exS T cf (.setAttr i f a)):=by
 subst hf; rw [←F.fname]; exact TS_setAttr (p:=p) (ap:=ap) (pos:=pos) (f:=f) F.G (by rw [F.nf]; decide) H (varK_of h).1 (varK_of h).2.1 (varK_of h).2.2.1 (varK_of h).2.2.2 (by rw [F.nf]; exact hlt) hc ha
theorem W_augAttr (F:Facts C) {x y:Str} {i f:Nat} {op:Operator} {p ap pos:Pos} {value:Expr} {a:ME} (H:EnvOk pl cx env) (hf:y=fnm f) (h:varK cx x i=true) (ho:augOp op=true)
  (ha:TE C pl n (eval value env) (evE T cf a)):TS C pl n (exec (.AugAssign (.Attribute (.Name x p) y ap) op value pos) env) (exS T cf (.augAttr i f op a)):=by
 subst hf; rw [←F.fname]; exact TS_augAttr (p:=p) (ap:=ap) (pos:=pos) (f:=f) F.G (by rw [F.nf]; decide) H (varK_of h).1 (varK_of h).2.1 (varK_of h).2.2.1 (varK_of h).2.2.2 ho ha
theorem W_fappend (F:Facts C) {x y:Str} {i f:Nat} {p ap mp cp pos:Pos} {arg:Expr} {a:ME} (H:EnvOk pl cx env) (hf:y=fnm f) (h:varK cx x i=true) (hp:plainE arg=true) (hline:(mp.endLine == cp.line)=true) (ha:TEq C pl n (eval arg env) (evE T cf a)) :
  TS C pl n (exec (.Expr (.Call (.Attribute (.Attribute (.Name x p) y ap) "append" mp) [arg] [] cp) pos) env) (exS T cf (.fappend i f a)):=by
 subst hf; rw [←F.fname]; exact TS_fappend (p:=p) (ap:=ap) (mp:=mp) (cp:=cp) (pos:=pos) (f:=f) F.G H (varK_of h).1 (varK_of h).2.1 (varK_of h).2.2.1 (varK_of h).2.2.2 hp hline ha
theorem W_compF (F:Facts C) {x y:Str} {i f:Nat} {p ap:Pos} {elt target:Expr} {ifs:List Expr} {scope:Scope} {pos:Pos} {ts:List (Nat×Str)} {tg:List Nat} {em cm:ME} (H:EnvOk pl cx env) (hf:y=fnm f) (h:varK cx x i=true) (hok:compOk cx scope ts=true) (htg:tg=ts.map (·.1))
  (hT:∀ {pl' env'},EnvOk pl' (compCx cx scope ts) env'→TAL C pl' n target env' (ts.map (·.1))) (hC:∀ {pl' env'},EnvOk pl' (compCx cx scope ts) env'→TT C pl' n (testsOf ifs env') (evE T cf cm)) (hE:∀ {pl' env'},EnvOk pl' (compCx cx scope ts) env'→TE C pl' n (eval elt env') (evE T cf em)) :
  TE C pl n (eval (.ListComp elt [⟨target,.Attribute (.Name x p) y ap,ifs,0⟩] scope pos) env) (evE T cf (.comp em tg (.fld i f) cm)):=by
 subst hf; rw [←F.fname]; exact T_compF (p:=p) (ap:=ap) (pos:=pos) (f:=f) F.G H (varK_of h).1 (varK_of h).2.1 (varK_of h).2.2.1 (varK_of h).2.2.2 hok htg hT hC hE
theorem W_assignC {elt target iter:Expr} {ifs:List Expr} {scope:Scope} {cpos:Pos} {y:Str} {j:Nat} {yp pos:Pos} {ts:List (Nat×Str)} {tg:List Nat} {em cm:ME} {im:IT} (H:EnvOk pl cx env) (hj:locK cx y j=true)
  (hs:∀ x,foldedSetIterable iter env x=pure x) (hok:compOk cx scope ts=true) (htg:tg=ts.map (·.1)) (hf:isFld im=false) (hi:TI C pl n (eval iter env) (evI T cf im))
  (hT:∀ {pl' env'},EnvOk pl' (compCx cx scope ts) env'→TAL C pl' n target env' (ts.map (·.1))) (hC:∀ {pl' env'},EnvOk pl' (compCx cx scope ts) env'→TT C pl' n (testsOf ifs env') (evE T cf cm)) (hE:∀ {pl' env'},EnvOk pl' (compCx cx scope ts) env'→TE C pl' n (eval elt env') (evE T cf em)) :
  TS C pl n (exec (.Assign [.Name y yp] (.ListComp elt [⟨target,iter,ifs,0⟩] scope cpos) pos) env) (exS T cf (.assign j (.comp em tg im cm))) :=
 TS_assignC H (locK_of hj).1 (locK_of hj).2 λhR I e hU=>comp_gen H hs hok htg hf hi hT hC hE hR I e hU
theorem W_assignCF (F:Facts C) {x z:Str} {i f:Nat} {p ap:Pos} {elt target:Expr} {ifs:List Expr} {scope:Scope} {cpos:Pos} {y:Str} {j:Nat} {yp pos:Pos} {ts:List (Nat×Str)} {tg:List Nat} {em cm:ME} (H:EnvOk pl cx env) (hj:locK cx y j=true) (hf:z=fnm f) (h:varK cx x i=true)
  (hok:compOk cx scope ts=true) (htg:tg=ts.map (·.1))
  (hT:∀ {pl' env'},EnvOk pl' (compCx cx scope ts) env'→TAL C pl' n target env' (ts.map (·.1))) (hC:∀ {pl' env'},EnvOk pl' (compCx cx scope ts) env'→TT C pl' n (testsOf ifs env') (evE T cf cm)) (hE:∀ {pl' env'},EnvOk pl' (compCx cx scope ts) env'→TE C pl' n (eval elt env') (evE T cf em)) :
  TS C pl n (exec (.Assign [.Name y yp] (.ListComp elt [⟨target,.Attribute (.Name x p) z ap,ifs,0⟩] scope cpos) pos) env) (exS T cf (.assign j (.comp em tg (.fld i f) cm))):=by
 subst hf
 refine TS_assignC H (locK_of hj).1 (locK_of hj).2 λhR I e hU=>?_
 have:=comp_genF (p:=p) (ap:=ap) (pos:=cpos) (f:=f) F.G H (varK_of h).1 (varK_of h).2.1 (varK_of h).2.2.1 (varK_of h).2.2.2 hok htg hT hC hE hR I e hU
 rw [F.fname] at this
 exact this
theorem W_join {pos apos p0:Pos} {k:Nat} {x0:Str} {x:Expr} {a:ME} (h0:x0=⟨#[]⟩) (hp:plainE x=true) (hline:(apos.endLine == pos.line)=true) (ha:TE C pl n (eval x env) (evE T cf a)) :
  TE C pl n (eval (.Call (.Attribute (.Constant (.str x0) k p0) "join" apos) [x] [] pos) env) (evE T cf (.join a)):=by subst h0; exact T_join hp hline ha
theorem W_rstrip {pos apos p0:Pos} {k:Nat} {x0:Str} {x:Expr} {a:ME} (h0:x0=⟨#[32]⟩) (hb:∀ {w},attributeBase x "rstrip" env w=w) (hline:(apos.endLine == pos.line)=true) (ha:TE C pl n (eval x env) (evE T cf a)) :
  TE C pl n (eval (.Call (.Attribute x "rstrip" apos) [.Constant (.str x0) k p0] [] pos) env) (evE T cf (.rstrip a)):=by subst h0; exact T_rstrip hb hline ha
end
end Mine
end
section
open PySem Mine
namespace Mine
noncomputable def b0:MSs :=
 (.cons (.assign 1 (.bi .barr0 .nil)) (.cons (.for_ [2] (.ex (.var 0)) (.cons (.assign 3 (.bi .ord (.cons (.var 2) .nil))) (.cons (.ite (.cmp .Lt (.var 3) (.const (.int 128))) (.cons (.append 1 (.var 3)) .nil) (.cons (.ite (.cmp .Lt (.var 3) (.const (.int 2048))) (.cons (.append 1 (.bin .BitOr (.const (.int 192)) (.bin .RShift (.var 3) (.const (.int 6))))) (.cons (.append 1 (.bin .BitOr (.const (.int 128)) (.bin .BitAnd (.var 3) (.const (.int 63))))) .nil)) (.cons (.ite (.cmp .Lt (.var 3) (.const (.int 65536))) (.cons (.append 1 (.bin .BitOr (.const (.int 224)) (.bin .RShift (.var 3) (.const (.int 12))))) (.cons (.append 1 (.bin .BitOr (.const (.int 128)) (.bin .BitAnd (.bin .RShift (.var 3) (.const (.int 6))) (.const (.int 63))))) (.cons (.append 1 (.bin .BitOr (.const (.int 128)) (.bin .BitAnd (.var 3) (.const (.int 63))))) .nil))) (.cons (.append 1 (.bin .BitOr (.const (.int 240)) (.bin .RShift (.var 3) (.const (.int 18))))) (.cons (.append 1 (.bin .BitOr (.const (.int 128)) (.bin .BitAnd (.bin .RShift (.var 3) (.const (.int 12))) (.const (.int 63))))) (.cons (.append 1 (.bin .BitOr (.const (.int 128)) (.bin .BitAnd (.bin .RShift (.var 3) (.const (.int 6))) (.const (.int 63))))) (.cons (.append 1 (.bin .BitOr (.const (.int 128)) (.bin .BitAnd (.var 3) (.const (.int 63))))) .nil))))) .nil)) .nil)) .nil))) (.cons (.ret (.bi .bytes (.cons (.var 1) .nil))) .nil)))
noncomputable def b1:MSs :=
 (.cons (.ite (.cmp .Lt (.var 0) (.const (.int 128))) (.cons (.ret (.tuple (.cons (.const (.int 0)) (.cons (.var 0) (.cons (.const (.int 0)) .nil))))) .nil) .nil) (.cons (.ite (.cmp2 .LtE .Lt (.const (.int 194)) (.var 0) (.const (.int 224))) (.cons (.ret (.tuple (.cons (.const (.int 1)) (.cons (.bin .BitAnd (.var 0) (.const (.int 31))) (.cons (.const (.int 128)) .nil))))) .nil) .nil) (.cons (.ite (.cmp2 .LtE .Lt (.const (.int 224)) (.var 0) (.const (.int 240))) (.cons (.ret (.tuple (.cons (.const (.int 2)) (.cons (.bin .BitAnd (.var 0) (.const (.int 15))) (.cons (.const (.int 2048)) .nil))))) .nil) .nil) (.cons (.ite (.cmp2 .LtE .Lt (.const (.int 240)) (.var 0) (.const (.int 245))) (.cons (.ret (.tuple (.cons (.const (.int 3)) (.cons (.bin .BitAnd (.var 0) (.const (.int 7))) (.cons (.const (.int 65536)) .nil))))) .nil) .nil) (.cons (.ret (.const .none)) .nil)))))
noncomputable def b2:MSs :=
 (.cons (.assign 1 (.list .nil)) (.cons (.assign 2 (.const (.int 0))) (.cons (.whl (.cmp .Lt (.var 2) (.bi .len (.cons (.var 0) .nil))) (.cons (.assign 3 (.call 1 (.cons (.sub (.var 0) (.var 2)) .nil))) (.cons (.assign 4 (.const .none)) (.cons (.ite (.cmp .IsNot (.var 3) (.const .none)) (.cons (.assign 4 (.call 3 (.cons (.var 0) (.cons (.bin .Add (.var 2) (.const (.int 1))) (.cons (.var 3) .nil))))) .nil) .nil) (.cons (.ite (.cmp .Is (.var 4) (.const .none)) (.cons (.append 1 (.const (.str [65533]))) (.cons (.aug 2 .Add (.const (.int 1))) .nil)) (.cons (.append 1 (.bi .chr (.cons (.var 4) .nil))) (.cons (.aug 2 .Add (.bin .Add (.sub (.var 3) (.const (.int 0))) (.const (.int 1)))) .nil))) .nil))))) (.cons (.ret (.join (.var 1))) .nil))))
noncomputable def b3:MSs :=
 (.cons (.assignT [3,4,5] (.var 2)) (.cons (.ite (.cmp .Gt (.bin .Add (.var 1) (.var 3)) (.bi .len (.cons (.var 0) .nil))) (.cons (.ret (.const .none)) .nil) .nil) (.cons (.for_ [6] (.rng (.cons (.var 1) (.cons (.bin .Add (.var 1) (.var 3)) .nil))) (.cons (.ite (.cmp .NotEq (.bin .BitAnd (.sub (.var 0) (.var 6)) (.const (.int 192))) (.const (.int 128))) (.cons (.ret (.const .none)) .nil) .nil) (.cons (.assign 4 (.bin .BitOr (.bin .LShift (.var 4) (.const (.int 6))) (.bin .BitAnd (.sub (.var 0) (.var 6)) (.const (.int 63))))) .nil))) (.cons (.ite (.or (.cmp .Lt (.var 4) (.var 5)) (.or (.cmp .Gt (.var 4) (.const (.int 1114111))) (.cmp2 .LtE .Lt (.const (.int 55296)) (.var 4) (.const (.int 57344))))) (.cons (.ret (.const .none)) .nil) .nil) (.cons (.ret (.var 4)) .nil)))))
noncomputable def b4:MSs :=
 (.cons (.assign 1 (.list .nil)) (.cons (.for_ [2] (.ex (.var 0)) (.cons (.ite (.cmp2 .LtE .LtE (.const (.str [65])) (.var 2) (.const (.str [90]))) (.cons (.append 1 (.bi .chr (.cons (.bin .Add (.bi .ord (.cons (.var 2) .nil)) (.const (.int 32))) .nil))) .nil) (.cons (.append 1 (.var 2)) .nil)) .nil)) (.cons (.ret (.join (.var 1))) .nil)))
noncomputable def b5:MSs :=
 (.cons (.ite (.cmp .Is (.var 0) (.const .none)) (.cons (.ret (.const (.str [110,117,108,108]))) .nil) .nil) (.cons (.ite (.bi .isInt (.cons (.var 0) .nil)) (.cons (.ret (.const (.str [105,110,116,101,103,101,114]))) .nil) .nil) (.cons (.ite (.bi .isStr (.cons (.var 0) .nil)) (.cons (.ret (.const (.str [116,101,120,116]))) .nil) .nil) (.cons (.ite (.bi .isBytes (.cons (.var 0) .nil)) (.cons (.ret (.const (.str [98,108,111,98]))) .nil) .nil) (.cons .stuck .nil)))))
noncomputable def b6:MSs :=
 (.cons (.ret (.cmp2 .LtE .LtE (.const (.int (-9223372036854775808))) (.var 0) (.const (.int 9223372036854775807)))) .nil)
noncomputable def b7:MSs :=
 (.cons (.ite (.cmp .Eq (.var 1) (.const (.str [98,105,110,97,114,121]))) (.cons (.ret (.var 0)) .nil) .nil) (.cons (.ite (.cmp .Eq (.var 1) (.const (.str [110,111,99,97,115,101]))) (.cons (.ret (.call 4 (.cons (.var 0) .nil))) .nil) .nil) (.cons (.ite (.cmp .Eq (.var 1) (.const (.str [114,116,114,105,109]))) (.cons (.assign 2 (.bi .len (.cons (.var 0) .nil))) (.cons (.whl (.and (.cmp .Gt (.var 2) (.const (.int 0))) (.cmp .Eq (.sub (.var 0) (.bin .Sub (.var 2) (.const (.int 1)))) (.const (.str [32])))) (.cons (.aug 2 .Sub (.const (.int 1))) .nil)) (.cons (.ret (.slc (.var 0) (.const .none) (.var 2))) .nil))) .nil) (.cons .stuck .nil))))
noncomputable def b8:MSs :=
 (.cons (.assign 1 (.bin .Mod (.var 0) (.const (.int 18446744073709551616)))) (.cons (.assign 2 (.list .nil)) (.cons (.ite (.cmp .GtE (.var 1) (.bin .Pow (.const (.int 2)) (.const (.int 56)))) (.cons (.append 2 (.bin .BitAnd (.var 1) (.const (.int 255)))) (.cons (.aug 1 .RShift (.const (.int 8))) (.cons (.for_ [3] (.rng (.cons (.const (.int 8)) .nil)) (.cons (.append 2 (.bin .BitOr (.bin .BitAnd (.var 1) (.const (.int 127))) (.const (.int 128)))) (.cons (.aug 1 .RShift (.const (.int 7))) .nil))) .nil))) (.cons (.append 2 (.bin .BitAnd (.var 1) (.const (.int 127)))) (.cons (.aug 1 .RShift (.const (.int 7))) (.cons (.whl (.cmp .Gt (.var 1) (.const (.int 0))) (.cons (.append 2 (.bin .BitOr (.bin .BitAnd (.var 1) (.const (.int 127))) (.const (.int 128)))) (.cons (.aug 1 .RShift (.const (.int 7))) .nil))) .nil)))) (.cons (.reverse 2) (.cons (.ret (.bi .bytes (.cons (.var 2) .nil))) .nil)))))
noncomputable def b9:MSs :=
 (.cons (.assign 2 (.const (.int 0))) (.cons (.for_ [3] (.rng (.cons (.const (.int 9)) .nil)) (.cons (.ite (.cmp .GtE (.var 1) (.bi .len (.cons (.var 0) .nil))) (.cons .stuck .nil) .nil) (.cons (.assign 4 (.sub (.var 0) (.var 1))) (.cons (.aug 1 .Add (.const (.int 1))) (.cons (.ite (.cmp .Eq (.var 3) (.const (.int 8))) (.cons (.ret (.tuple (.cons (.bin .BitOr (.bin .LShift (.var 2) (.const (.int 8))) (.var 4)) (.cons (.var 1) .nil)))) .nil) .nil) (.cons (.assign 2 (.bin .BitOr (.bin .LShift (.var 2) (.const (.int 7))) (.bin .BitAnd (.var 4) (.const (.int 127))))) (.cons (.ite (.cmp .Lt (.var 4) (.const (.int 128))) (.cons (.ret (.tuple (.cons (.var 2) (.cons (.var 1) .nil)))) .nil) .nil) .nil))))))) (.cons .stuck .nil)))
noncomputable def b10:MSs :=
 (.cons (.assign 2 (.bin .Mod (.var 0) (.bin .Pow (.const (.int 256)) (.var 1)))) (.cons (.assign 3 (.list .nil)) (.cons (.for_ [4] (.rng (.cons (.var 1) .nil)) (.cons (.append 3 (.bin .BitAnd (.var 2) (.const (.int 255)))) (.cons (.aug 2 .RShift (.const (.int 8))) .nil))) (.cons (.reverse 3) (.cons (.ret (.bi .bytes (.cons (.var 3) .nil))) .nil)))))
noncomputable def b11:MSs :=
 (.cons (.assign 3 (.const (.int 0))) (.cons (.for_ [4] (.rng (.cons (.var 1) (.cons (.bin .Add (.var 1) (.var 2)) .nil))) (.cons (.assign 3 (.bin .BitOr (.bin .LShift (.var 3) (.const (.int 8))) (.sub (.var 0) (.var 4)))) .nil)) (.cons (.ite (.and (.cmp .Gt (.var 2) (.const (.int 0))) (.cmp .GtE (.var 3) (.bin .FloorDiv (.bin .Pow (.const (.int 256)) (.var 2)) (.const (.int 2))))) (.cons (.ret (.bin .Sub (.var 3) (.bin .Pow (.const (.int 256)) (.var 2)))) .nil) .nil) (.cons (.ret (.var 3)) .nil))))
noncomputable def b12:MSs :=
 (.cons (.ite (.cmp .Eq (.var 0) (.const (.int 0))) (.cons (.ret (.const (.int 8))) .nil) .nil) (.cons (.ite (.cmp .Eq (.var 0) (.const (.int 1))) (.cons (.ret (.const (.int 9))) .nil) .nil) (.cons (.for_ [1] (.rng (.cons (.const (.int 1)) (.cons (.const (.int 7)) .nil))) (.cons (.assign 2 (.bin .FloorDiv (.bin .Pow (.const (.int 256)) (.sub (.const (.tuple [(.int 0),(.int 1),(.int 2),(.int 3),(.int 4),(.int 6),(.int 8)])) (.var 1))) (.const (.int 2)))) (.cons (.ite (.cmp2 .LtE .Lt (.neg (.var 2)) (.var 0) (.var 2)) (.cons (.ret (.var 1)) .nil) .nil) .nil))) (.cons .stuck .nil))))
noncomputable def b13:MSs :=
 (.cons (.assign 1 (.call 5 (.cons (.var 0) .nil))) (.cons (.ite (.cmp .Eq (.var 1) (.const (.str [110,117,108,108]))) (.cons (.ret (.const (.int 0))) .nil) .nil) (.cons (.ite (.cmp .Eq (.var 1) (.const (.str [105,110,116,101,103,101,114]))) (.cons (.ret (.call 12 (.cons (.var 0) .nil))) .nil) .nil) (.cons (.ite (.cmp .Eq (.var 1) (.const (.str [116,101,120,116]))) (.cons (.ret (.bin .Add (.const (.int 13)) (.bin .Mult (.const (.int 2)) (.bi .len (.cons (.call 0 (.cons (.var 0) .nil)) .nil))))) .nil) .nil) (.cons (.ret (.bin .Add (.const (.int 12)) (.bin .Mult (.const (.int 2)) (.bi .len (.cons (.var 0) .nil))))) .nil)))))
noncomputable def b14:MSs :=
 (.cons (.ite (.cmp .GtE (.var 0) (.const (.int 12))) (.cons (.ret (.bin .FloorDiv (.bin .Sub (.var 0) (.const (.int 12))) (.const (.int 2)))) .nil) .nil) (.cons (.ite (.cmp .In (.var 0) (.tuple (.cons (.const (.int 8)) (.cons (.const (.int 9)) .nil)))) (.cons (.ret (.const (.int 0))) .nil) .nil) (.cons (.ite (.cmp .Lt (.var 0) (.bi .len (.cons (.const (.tuple [(.int 0),(.int 1),(.int 2),(.int 3),(.int 4),(.int 6),(.int 8)])) .nil))) (.cons (.ret (.sub (.const (.tuple [(.int 0),(.int 1),(.int 2),(.int 3),(.int 4),(.int 6),(.int 8)])) (.var 0))) .nil) .nil) (.cons .stuck .nil))))
noncomputable def b15:MSs :=
 (.cons (.ite (.bi .isStr (.cons (.var 0) .nil)) (.cons (.ret (.call 0 (.cons (.var 0) .nil))) .nil) .nil) (.cons (.ite (.bi .isBytes (.cons (.var 0) .nil)) (.cons (.ret (.var 0)) .nil) .nil) (.cons (.ite (.or (.cmp .Is (.var 0) (.const .none)) (.cmp .In (.var 1) (.tuple (.cons (.const (.int 8)) (.cons (.const (.int 9)) .nil))))) (.cons (.ret (.const (.bytes []))) .nil) .nil) (.cons (.ret (.call 10 (.cons (.var 0) (.cons (.sub (.const (.tuple [(.int 0),(.int 1),(.int 2),(.int 3),(.int 4),(.int 6),(.int 8)])) (.var 1)) .nil)))) .nil))))
noncomputable def b16:MSs :=
 (.cons (.assign 3 (.call 14 (.cons (.var 2) .nil))) (.cons (.ite (.cmp .Gt (.bin .Add (.var 1) (.var 3)) (.bi .len (.cons (.var 0) .nil))) (.cons .stuck .nil) .nil) (.cons (.ite (.cmp .Eq (.var 2) (.const (.int 0))) (.cons (.ret (.const .none)) .nil) .nil) (.cons (.ite (.cmp .Eq (.var 2) (.const (.int 8))) (.cons (.ret (.const (.int 0))) .nil) .nil) (.cons (.ite (.cmp .Eq (.var 2) (.const (.int 9))) (.cons (.ret (.const (.int 1))) .nil) .nil) (.cons (.ite (.cmp .Lt (.var 2) (.const (.int 12))) (.cons (.ret (.call 11 (.cons (.var 0) (.cons (.var 1) (.cons (.var 3) .nil))))) .nil) .nil) (.cons (.assign 4 (.bi .bytes (.cons (.slc (.var 0) (.var 1) (.bin .Add (.var 1) (.var 3))) .nil))) (.cons (.ite (.cmp .Eq (.bin .Mod (.var 2) (.const (.int 2))) (.const (.int 1))) (.cons (.ret (.call 2 (.cons (.var 4) .nil))) .nil) .nil) (.cons (.ret (.var 4)) .nil)))))))))
noncomputable def b17:MSs :=
 (.cons (.assign 1 (.const (.int 1))) (.cons (.whl (.cmp .NotEq (.bi .len (.cons (.call 8 (.cons (.bin .Add (.var 0) (.var 1)) .nil)) .nil)) (.var 1)) (.cons (.aug 1 .Add (.const (.int 1))) .nil)) (.cons (.ret (.bin .Add (.var 0) (.var 1))) .nil)))
noncomputable def b18:MSs :=
 (.cons (.assign 1 (.bi .barr0 .nil)) (.cons (.assign 2 (.bi .barr0 .nil)) (.cons (.for_ [3] (.ex (.var 0)) (.cons (.assign 4 (.call 13 (.cons (.var 3) .nil))) (.cons (.extend 1 (.call 8 (.cons (.var 4) .nil))) (.cons (.extend 2 (.call 15 (.cons (.var 3) (.cons (.var 4) .nil)))) .nil)))) (.cons (.ret (.bin .Add (.bin .Add (.call 8 (.cons (.call 17 (.cons (.bi .len (.cons (.var 1) .nil)) .nil)) .nil)) (.bi .bytes (.cons (.var 1) .nil))) (.bi .bytes (.cons (.var 2) .nil)))) .nil))))
noncomputable def b19:MSs :=
 (.cons (.assignT [1,2] (.call 9 (.cons (.var 0) (.cons (.const (.int 0)) .nil)))) (.cons (.ite (.or (.cmp .Gt (.var 1) (.bi .len (.cons (.var 0) .nil))) (.cmp .Lt (.var 1) (.var 2))) (.cons .stuck .nil) .nil) (.cons (.assign 3 (.list .nil)) (.cons (.whl (.cmp .Lt (.var 2) (.var 1)) (.cons (.assignT [4,2] (.call 9 (.cons (.var 0) (.cons (.var 2) .nil)))) (.cons (.append 3 (.var 4)) .nil))) (.cons (.ite (.cmp .NotEq (.var 2) (.var 1)) (.cons .stuck .nil) .nil) (.cons (.ret (.tuple (.cons (.var 3) (.cons (.var 1) .nil)))) .nil))))))
noncomputable def b20:MSs :=
 (.cons (.assignT [1,2] (.call 19 (.cons (.var 0) .nil))) (.cons (.assign 3 (.list .nil)) (.cons (.for_ [4] (.ex (.var 1)) (.cons (.append 3 (.call 16 (.cons (.var 0) (.cons (.var 2) (.cons (.var 4) .nil))))) (.cons (.aug 2 .Add (.call 14 (.cons (.var 4) .nil))) .nil))) (.cons (.ite (.cmp .NotEq (.var 2) (.bi .len (.cons (.var 0) .nil))) (.cons .stuck .nil) .nil) (.cons (.ret (.var 3)) .nil)))))
noncomputable def b21:MSs :=
 (.cons (.assignT [2,3] (.call 9 (.cons (.var 0) (.cons (.const (.int 0)) .nil)))) (.cons (.ite (.or (.cmp .Gt (.var 2) (.bi .len (.cons (.var 0) .nil))) (.cmp .Lt (.var 2) (.var 3))) (.cons .stuck .nil) .nil) (.cons (.assign 4 (.var 2)) (.cons (.assign 5 (.const (.int 0))) (.cons (.whl (.cmp .Lt (.var 3) (.var 2)) (.cons (.assignT [6,3] (.call 9 (.cons (.var 0) (.cons (.var 3) .nil)))) (.cons (.ite (.cmp .Eq (.var 5) (.var 1)) (.cons (.ret (.call 16 (.cons (.var 0) (.cons (.var 4) (.cons (.var 6) .nil))))) .nil) .nil) (.cons (.aug 4 .Add (.call 14 (.cons (.var 6) .nil))) (.cons (.aug 5 .Add (.const (.int 1))) .nil))))) (.cons (.ret (.const .none)) .nil))))))
noncomputable def b22:MSs :=
 (.cons (.ite (.cmp .NotEq (.bi .len (.cons (.var 1) .nil)) (.bi .len (.cons (.var 2) .nil))) (.cons .stuck .nil) .nil) (.cons (.setAttr 0 0 (.bi .tuple (.cons (.var 1) .nil))) (.cons (.setAttr 0 1 (.bi .tuple (.cons (.var 2) .nil))) .nil)))
noncomputable def b23:MSs :=
 (.cons (.ret (.bi .len (.cons (.attr (.var 0) 0) .nil))) .nil)
noncomputable def b24:MSs :=
 (.cons (.ite (.cmp .Lt (.var 1) (.bi .len (.cons (.attr (.var 0) 0) .nil))) (.cons (.ret (.sub (.attr (.var 0) 0) (.var 1))) .nil) .nil) (.cons (.ret (.const (.str [98,105,110,97,114,121]))) .nil))
noncomputable def b25:MSs :=
 (.cons (.ret (.and (.cmp .Lt (.var 1) (.bi .len (.cons (.attr (.var 0) 1) .nil))) (.bi .bool (.cons (.sub (.attr (.var 0) 1) (.var 1)) .nil)))) .nil)
noncomputable def b26:MSs :=
 (.cons (.assign 1 (.bi .barr0 .nil)) (.cons (.for_ [2] (.ex (.var 0)) (.cons (.append 1 (.var 2)) (.cons (.ite (.cmp .Eq (.var 2) (.const (.int 0))) (.cons (.append 1 (.const (.int 255))) .nil) .nil) .nil))) (.cons (.append 1 (.const (.int 0))) (.cons (.append 1 (.const (.int 0))) (.cons (.ret (.var 1)) .nil)))))
noncomputable def b27:MSs :=
 (.cons (.assign 2 (.call 5 (.cons (.var 0) .nil))) (.cons (.assign 3 (.bi .barr0 .nil)) (.cons (.ite (.cmp .Eq (.var 2) (.const (.str [110,117,108,108]))) (.cons (.append 3 (.const (.int 1))) .nil) (.cons (.ite (.cmp .Eq (.var 2) (.const (.str [105,110,116,101,103,101,114]))) (.cons (.ite (.not (.call 6 (.cons (.var 0) .nil))) (.cons .stuck .nil) .nil) (.cons (.append 3 (.const (.int 2))) (.cons (.extend 3 (.call 10 (.cons (.bin .Add (.var 0) (.bin .FloorDiv (.const (.int 18446744073709551616)) (.const (.int 2)))) (.cons (.const (.int 8)) .nil)))) .nil))) (.cons (.ite (.cmp .Eq (.var 2) (.const (.str [116,101,120,116]))) (.cons (.append 3 (.const (.int 3))) (.cons (.extend 3 (.call 26 (.cons (.call 0 (.cons (.call 7 (.cons (.var 0) (.cons (.var 1) .nil))) .nil)) .nil))) .nil)) (.cons (.append 3 (.const (.int 4))) (.cons (.extend 3 (.call 26 (.cons (.var 0) .nil))) .nil))) .nil)) .nil)) (.cons (.ret (.var 3)) .nil))))
noncomputable def b28:MSs :=
 (.cons (.assign 2 (.bi .barr0 .nil)) (.cons (.for_ [3] (.rng (.cons (.bi .len (.cons (.var 0) .nil)) .nil)) (.cons (.assign 4 (.call 27 (.cons (.sub (.var 0) (.var 3)) (.cons (.meth (.var 1) 24 (.cons (.var 3) .nil)) .nil)))) (.cons (.ite (.meth (.var 1) 25 (.cons (.var 3) .nil)) (.cons (.for_ [5] (.ex (.var 4)) (.cons (.append 2 (.bin .Sub (.const (.int 255)) (.var 5))) .nil)) .nil) (.cons (.extend 2 (.var 4)) .nil)) .nil))) (.cons (.ret (.bi .bytes (.cons (.var 2) .nil))) .nil)))
noncomputable def b29:MSs :=
 (.cons (.assign 2 (.list .nil)) (.cons (.assign 3 (.const (.int 0))) (.cons (.assign 4 (.const (.int 0))) (.cons (.whl (.and (.cmp .Lt (.var 3) (.bi .len (.cons (.var 0) .nil))) (.cmp .Lt (.var 4) (.bi .len (.cons (.var 1) .nil)))) (.cons (.ite (.cmp .Lt (.tuple (.cons (.sub (.sub (.var 1) (.var 4)) (.const (.int 0))) (.cons (.sub (.sub (.var 1) (.var 4)) (.const (.int 1))) .nil))) (.tuple (.cons (.sub (.sub (.var 0) (.var 3)) (.const (.int 0))) (.cons (.sub (.sub (.var 0) (.var 3)) (.const (.int 1))) .nil)))) (.cons (.append 2 (.sub (.var 1) (.var 4))) (.cons (.aug 4 .Add (.const (.int 1))) .nil)) (.cons (.append 2 (.sub (.var 0) (.var 3))) (.cons (.aug 3 .Add (.const (.int 1))) .nil))) .nil)) (.cons (.ret (.bin .Add (.bin .Add (.var 2) (.slc (.var 0) (.var 3) (.const .none))) (.slc (.var 1) (.var 4) (.const .none)))) .nil)))))
noncomputable def b30:MSs :=
 (.cons (.assign 1 (.comp (.list (.cons (.var 4) .nil)) [4] (.ex (.var 0)) (.const (.bool true)))) (.cons (.whl (.cmp .Gt (.bi .len (.cons (.var 1) .nil)) (.const (.int 1))) (.cons (.assign 2 (.list .nil)) (.cons (.for_ [3] (.rng (.cons (.const (.int 0)) (.cons (.bin .Sub (.bi .len (.cons (.var 1) .nil)) (.const (.int 1))) (.cons (.const (.int 2)) .nil)))) (.cons (.append 2 (.call 29 (.cons (.sub (.var 1) (.var 3)) (.cons (.sub (.var 1) (.bin .Add (.var 3) (.const (.int 1)))) .nil)))) .nil)) (.cons (.ite (.cmp .Eq (.bin .Mod (.bi .len (.cons (.var 1) .nil)) (.const (.int 2))) (.const (.int 1))) (.cons (.append 2 (.sub (.var 1) (.neg (.const (.int 1))))) .nil) .nil) (.cons (.assign 1 (.var 2)) .nil))))) (.cons (.ret (.ite (.var 1) (.sub (.var 1) (.const (.int 0))) (.list .nil))) .nil)))
noncomputable def b31:MSs :=
 (.cons (.setAttr 0 2 (.var 1)) (.cons (.setAttr 0 3 (.var 2)) (.cons (.setAttr 0 4 (.list .nil)) (.cons (.setAttr 0 5 (.list .nil)) (.cons (.setAttr 0 6 (.const (.int 0))) (.cons (.setAttr 0 7 (.list .nil)) (.cons (.setAttr 0 8 (.const (.int 0))) .nil)))))))
noncomputable def b32:MSs :=
 (.cons (.assign 2 (.call 20 (.cons (.var 1) .nil))) (.cons (.assign 3 (.call 28 (.cons (.slc (.var 2) (.const .none) (.meth (.attr (.var 0) 2) 23 .nil)) (.cons (.attr (.var 0) 2) .nil)))) (.cons (.fappend 0 4 (.tuple (.cons (.var 3) (.cons (.attr (.var 0) 6) (.cons (.var 1) .nil))))) (.cons (.augAttr 0 6 .Add (.const (.int 1))) (.cons (.ite (.cmp .GtE (.lenF 0 4) (.attr (.var 0) 3)) (.cons (.expr (.meth (.var 0) 33 .nil)) .nil) .nil) .nil)))))
noncomputable def b33:MSs :=
 (.cons (.fappend 0 5 (.callP 30 (.cons (.attr (.var 0) 4) .nil))) (.cons (.setAttr 0 4 (.list .nil)) .nil))
noncomputable def b34:MSs :=
 (.cons (.ite (.truF 0 4) (.cons (.expr (.meth (.var 0) 33 .nil)) .nil) .nil) (.cons (.whl (.cmp .Gt (.lenF 0 5) (.const (.int 1))) (.cons (.setAttr 0 5 (.bin .Add (.list (.cons (.call 29 (.cons (.subF 0 5 0) (.cons (.subF 0 5 1) .nil))) .nil)) (.slcF 0 5 2))) .nil)) (.cons (.setAttr 0 7 (.ite (.truF 0 5) (.subF 0 5 0) (.list .nil))) (.cons (.setAttr 0 8 (.const (.int 0))) (.cons (.ret (.meth (.var 0) 36 .nil)) .nil)))))
noncomputable def b35:MSs :=
 (.cons (.augAttr 0 8 .Add (.const (.int 1))) (.cons (.ret (.meth (.var 0) 36 .nil)) .nil))
noncomputable def b36:MSs :=
 (.cons (.ret (.cmp2 .LtE .Lt (.const (.int 0)) (.attr (.var 0) 8) (.lenF 0 7))) .nil)
noncomputable def b37:MSs :=
 (.cons (.ret (.sub (.sub (.attr (.var 0) 7) (.attr (.var 0) 8)) (.const (.int 2)))) .nil)
noncomputable def b38:MSs :=
 (.cons (.ret (.call 20 (.cons (.meth (.var 0) 37 .nil) .nil))) .nil)
noncomputable def b39:MSs :=
 (.cons (.ret (.call 21 (.cons (.meth (.var 0) 37 .nil) (.cons (.var 1) .nil)))) .nil)
noncomputable def b40:MSs :=
 (.cons (.assign 2 (.const (.int 0))) (.cons (.ite (.cmp .Lt (.var 1) (.bi .len (.cons (.var 0) .nil))) (.cons (.assign 2 (.sub (.var 0) (.var 1))) .nil) .nil) (.cons (.assign 3 (.bi .max2 (.cons (.bi .int (.cons (.var 2) .nil)) (.cons (.bi .int (.cons (.bin .Sub (.neg (.const (.int 1))) (.var 2)) .nil)) .nil)))) (.cons (.assign 4 (.bin .Mod (.bi .int (.cons (.bin .Mult (.bin .Add (.bin .Add (.bin .Add (.bin .Mod (.bi .int (.cons (.var 3) .nil)) (.const (.int 2147483629))) (.bin .Mult (.bin .Mult (.const (.int 7919)) (.var 1)) (.var 1))) (.bin .Mult (.const (.int 31)) (.var 1))) (.const (.int 17))) (.const (.int 48271))) .nil)) (.const (.int 2147483647)))) (.cons (.ret (.list (.cons (.bin .Mult (.var 3) (.bi .int (.cons (.cmp .GtE (.var 3) (.bin .Pow (.const (.int 10)) (.const (.int 18)))) .nil))) (.cons (.var 4) .nil)))) .nil)))))
noncomputable def b41:MSs :=
 (.cons (.ite (.cmp .Gt (.subS 0 0) (.const (.int 0))) (.cons (.assign 2 (.bin .Mod (.bi .int (.cons (.subS 0 0) .nil)) (.var 1))) (.cons (.setItem 0 0 (.bin .FloorDiv (.subS 0 0) (.var 1))) (.cons (.ret (.var 2)) .nil))) .nil) (.cons (.setItem 0 1 (.bin .Mod (.bi .int (.cons (.bin .Add (.bin .Mult (.subS 0 1) (.const (.int 39373))) (.const (.int 7))) .nil)) (.const (.int 2147483647)))) (.cons (.ret (.bin .Mod (.bi .int (.cons (.bin .FloorDiv (.bin .Mod (.bi .int (.cons (.bin .Mult (.subS 0 1) (.subS 0 1)) .nil)) (.const (.int 2147483629))) (.const (.int 32))) .nil)) (.var 1))) .nil)))
noncomputable def b42:MSs :=
 (.cons (.ret (.sub (.var 1) (.call 41 (.cons (.var 0) (.cons (.bi .len (.cons (.var 1) .nil)) .nil))))) .nil)
noncomputable def b43:MSs :=
 (.cons (.ret (.ite (.cmp .Is (.var 0) (.const .none)) (.const (.int 0)) (.ite (.bi .isInt (.cons (.var 0) .nil)) (.const (.int 1)) (.ite (.bi .isStr (.cons (.var 0) .nil)) (.const (.int 2)) (.const (.int 3)))))) .nil)
noncomputable def b44:MSs :=
 (.cons (.ite (.or (.not (.bi .isStr (.cons (.var 0) .nil))) (.cmp .Eq (.var 1) (.const (.str [98,105,110,97,114,121])))) (.cons (.ret (.var 0)) .nil) .nil) (.cons (.ite (.cmp .Eq (.var 1) (.const (.str [114,116,114,105,109]))) (.cons (.ret (.rstrip (.var 0))) .nil) .nil) (.cons (.ret (.join (.comp (.ite (.cmp2 .LtE .LtE (.const (.str [65])) (.var 2) (.const (.str [90]))) (.bi .chr (.cons (.bin .Add (.bi .ord (.cons (.var 2) .nil)) (.const (.int 32))) .nil)) (.var 2)) [2] (.ex (.var 0)) (.const (.bool true))))) .nil)))
noncomputable def b45:MSs :=
 (.cons (.for_ [3] (.rng (.cons (.bi .min3 (.cons (.bi .len (.cons (.var 0) .nil)) (.cons (.bi .len (.cons (.var 1) .nil)) (.cons (.bi .len (.cons (.var 2) .nil)) .nil)))) .nil)) (.cons (.assignT [4,5] (.sub (.var 2) (.var 3))) (.cons (.assignT [6,7] (.tuple (.cons (.call 44 (.cons (.sub (.var 0) (.var 3)) (.cons (.var 4) .nil))) (.cons (.call 44 (.cons (.sub (.var 1) (.var 3)) (.cons (.var 4) .nil))) .nil)))) (.cons (.assign 8 (.bin .Sub (.call 43 (.cons (.var 6) .nil)) (.call 43 (.cons (.var 7) .nil)))) (.cons (.ite (.and (.cmp .Eq (.var 8) (.const (.int 0))) (.cmp .NotEq (.var 6) (.var 7))) (.cons (.assign 8 (.ite (.cmp .Lt (.var 6) (.var 7)) (.neg (.const (.int 1))) (.const (.int 1)))) .nil) .nil) (.cons (.ite (.cmp .NotEq (.var 8) (.const (.int 0))) (.cons (.ret (.ite (.var 5) (.neg (.var 8)) (.var 8))) .nil) .nil) .nil)))))) (.cons (.ret (.const (.int 0))) .nil))
noncomputable def b46:MSs :=
 (.cons (.assign 2 (.list .nil)) (.cons (.for_ [3] (.ex (.var 0)) (.cons (.assign 4 (.bi .len (.cons (.comp (.var 5) [5] (.ex (.var 2)) (.cmp .LtE (.call 45 (.cons (.var 5) (.cons (.var 3) (.cons (.var 1) .nil)))) (.const (.int 0)))) .nil))) (.cons (.assign 2 (.bin .Add (.bin .Add (.slc (.var 2) (.const .none) (.var 4)) (.list (.cons (.var 3) .nil))) (.slc (.var 2) (.var 4) (.const .none)))) .nil))) (.cons (.ret (.var 2)) .nil)))
noncomputable def b47:MSs :=
 (.cons (.ret (.call 42 (.cons (.var 0) (.cons (.list (.cons (.const .none) (.cons (.const (.int 0)) (.cons (.neg (.const (.int 7))) (.cons (.bin .Pow (.const (.int 2)) (.const (.int 40))) (.cons (.const (.str [])) (.cons (.const (.str [97])) (.cons (.const (.str [65])) (.cons (.const (.str [97,32])) (.cons (.const (.str [98])) (.cons (.const (.bytes [])) (.cons (.const (.bytes [97])) (.cons (.call 41 (.cons (.var 0) (.cons (.const (.int 3)) .nil))) .nil))))))))))))) .nil)))) .nil)
noncomputable def b48:MSs :=
 (.cons (.assign 4 (.comp (.comp (.var 8) [6,7,8] (.ex (.var 5)) (.const (.bool true))) [5] (.fld 0 5) (.const (.bool true)))) (.cons (.ite (.cmp .NotEq (.var 4) (.comp (.comp (.call 18 (.cons (.var 10) .nil)) [10] (.ex (.call 46 (.cons (.var 9) (.cons (.var 3) .nil)))) (.const (.bool true))) [9] (.ex (.var 1)) (.const (.bool true)))) (.cons (.ret (.const (.bool false))) .nil) .nil) (.cons (.ret (.cmp .Eq (.comp (.var 13) [11,12,13] (.fld 0 4) (.const (.bool true))) (.comp (.call 18 (.cons (.var 14) .nil)) [14] (.ex (.var 2)) (.const (.bool true))))) .nil)))
noncomputable def b49:MSs :=
 (.cons (.assign 3 (.call 46 (.cons (.var 1) (.cons (.var 2) .nil)))) (.cons (.assign 4 (.meth (.var 0) 34 .nil)) (.cons (.for_ [5] (.ex (.var 3)) (.cons (.ite (.or (.not (.var 4)) (.or (.cmp .NotEq (.meth (.var 0) 38 .nil) (.var 5)) (.cmp .NotEq (.meth (.var 0) 37 .nil) (.call 18 (.cons (.var 5) .nil))))) (.cons (.ret (.const (.bool false))) .nil) .nil) (.cons (.ite (.cmp .NotEq (.comp (.meth (.var 0) 39 (.cons (.var 6) .nil)) [6] (.rng (.cons (.bin .Add (.bi .len (.cons (.var 5) .nil)) (.const (.int 1))) .nil)) (.const (.bool true))) (.bin .Add (.var 5) (.list (.cons (.const .none) .nil)))) (.cons (.ret (.const (.bool false))) .nil) .nil) (.cons (.assign 4 (.meth (.var 0) 35 .nil)) .nil)))) (.cons (.ret (.and (.not (.var 4)) (.not (.meth (.var 0) 36 .nil)))) .nil))))
noncomputable def b50:MSs :=
 (.cons (.assign 1 (.list .nil)) (.cons (.for_ [2] (.rng (.cons (.bin .Add (.const (.int 1)) (.call 41 (.cons (.var 0) (.cons (.const (.int 2)) .nil)))) .nil)) (.cons (.append 1 (.tuple (.cons (.call 42 (.cons (.var 0) (.cons (.list (.cons (.const (.str [98,105,110,97,114,121])) (.cons (.const (.str [110,111,99,97,115,101])) (.cons (.const (.str [114,116,114,105,109])) .nil)))) .nil))) (.cons (.cmp .Eq (.call 41 (.cons (.var 0) (.cons (.const (.int 2)) .nil))) (.const (.int 0))) .nil)))) .nil)) (.cons (.assign 3 (.call 42 (.cons (.var 0) (.cons (.list (.cons (.const (.int 1)) (.cons (.const (.int 2)) (.cons (.const (.int 3)) (.cons (.const (.int 6)) (.cons (.const (.int 64)) .nil)))))) .nil)))) (.cons (.assign 4 (.new 1 (.cons (.new 0 (.cons (.comp (.sub (.var 10) (.const (.int 0))) [10] (.ex (.var 1)) (.const (.bool true))) (.cons (.comp (.sub (.var 11) (.const (.int 1))) [11] (.ex (.var 1)) (.const (.bool true))) .nil))) (.cons (.var 3) .nil)))) (.cons (.assignT [5,6,7] (.tuple (.cons (.list .nil) (.cons (.list .nil) (.cons (.list .nil) .nil))))) (.cons (.for_ [2] (.rng (.cons (.call 41 (.cons (.var 0) (.cons (.const (.int 9)) .nil))) .nil)) (.cons (.assign 8 (.comp (.call 47 (.cons (.var 0) .nil)) [12] (.rng (.cons (.bin .Add (.bi .len (.cons (.var 1) .nil)) (.call 41 (.cons (.var 0) (.cons (.const (.int 2)) .nil)))) .nil)) (.const (.bool true)))) (.cons (.assignT [5,7] (.tuple (.cons (.bin .Add (.var 5) (.list (.cons (.var 8) .nil))) (.cons (.bin .Add (.var 7) (.list (.cons (.var 8) .nil))) .nil)))) (.cons (.expr (.meth (.var 4) 32 (.cons (.call 18 (.cons (.var 8) .nil)) .nil))) (.cons (.ite (.cmp .Eq (.bi .len (.cons (.var 7) .nil)) (.var 3)) (.cons (.assignT [6,7] (.tuple (.cons (.bin .Add (.var 6) (.list (.cons (.var 7) .nil))) (.cons (.list .nil) .nil)))) .nil) .nil) (.cons (.ite (.cmp .Eq (.call 41 (.cons (.var 0) (.cons (.const (.int 4)) .nil))) (.const (.int 0))) (.cons (.expr (.meth (.var 4) 33 .nil)) (.cons (.assignT [6,7] (.tuple (.cons (.bin .Add (.var 6) (.list (.cons (.var 7) .nil))) (.cons (.list .nil) .nil)))) .nil)) .nil) .nil)))))) (.cons (.ite (.or (.not (.call 48 (.cons (.var 4) (.cons (.var 6) (.cons (.var 7) (.cons (.var 1) .nil)))))) (.not (.call 49 (.cons (.var 4) (.cons (.var 5) (.cons (.var 1) .nil)))))) (.cons (.ret (.const (.bool false))) .nil) .nil) (.cons (.assign 9 (.comp (.call 47 (.cons (.var 0) .nil)) [13] (.ex (.var 1)) (.const (.bool true)))) (.cons (.expr (.meth (.var 4) 32 (.cons (.call 18 (.cons (.var 9) .nil)) .nil))) (.cons (.ret (.call 49 (.cons (.var 4) (.cons (.bin .Add (.var 5) (.list (.cons (.var 9) .nil))) (.cons (.var 1) .nil))))) .nil))))))))))
noncomputable def b51:MSs :=
 (.cons (.assign 1 (.new 1 (.cons (.new 0 (.cons (.list (.cons (.const (.str [98,105,110,97,114,121])) .nil)) (.cons (.list (.cons (.const (.bool false)) .nil)) .nil))) .nil))) (.cons (.expr (.meth (.var 1) 32 (.cons (.call 18 (.cons (.list (.cons (.const (.int 1)) .nil)) .nil)) .nil))) (.cons (.expr (.meth (.var 1) 33 .nil)) (.cons (.ite (.or (.not (.call 49 (.cons (.var 1) (.cons (.list (.cons (.list (.cons (.const (.int 1)) .nil)) .nil)) (.cons (.list (.cons (.tuple (.cons (.const (.str [98,105,110,97,114,121])) (.cons (.const (.bool false)) .nil))) .nil)) .nil))))) (.not (.call 48 (.cons (.var 1) (.cons (.list (.cons (.list (.cons (.list (.cons (.const (.int 1)) .nil)) .nil)) .nil)) (.cons (.list .nil) (.cons (.list (.cons (.tuple (.cons (.const (.str [98,105,110,97,114,121])) (.cons (.const (.bool false)) .nil))) .nil)) .nil))))))) (.cons (.ret (.const (.bool false))) .nil) .nil) (.cons (.assignT [2,3] (.tuple (.cons (.list (.cons (.tuple (.cons (.const (.str [110,111,99,97,115,101])) (.cons (.const (.bool true)) .nil))) .nil)) (.cons (.list (.cons (.list (.cons (.const (.str [98])) (.cons (.const (.int 1)) .nil))) (.cons (.list (.cons (.const (.str [65])) (.cons (.const (.int 2)) .nil))) (.cons (.list (.cons (.const (.str [97])) (.cons (.const (.int 3)) .nil))) (.cons (.list (.cons (.const (.str [99])) (.cons (.const (.int 4)) .nil))) .nil))))) .nil)))) (.cons (.assign 1 (.new 1 (.cons (.new 0 (.cons (.list (.cons (.const (.str [110,111,99,97,115,101])) .nil)) (.cons (.list (.cons (.const (.bool true)) .nil)) .nil))) (.cons (.const (.int 2)) .nil)))) (.cons (.for_ [4] (.ex (.var 3)) (.cons (.expr (.meth (.var 1) 32 (.cons (.call 18 (.cons (.var 4) .nil)) .nil))) (.cons (.ite (.cmp .Eq (.var 4) (.list (.cons (.const (.str [97])) (.cons (.const (.int 3)) .nil)))) (.cons (.expr (.meth (.var 1) 33 .nil)) .nil) .nil) .nil))) (.cons (.ite (.or (.not (.call 48 (.cons (.var 1) (.cons (.list (.cons (.slc (.var 3) (.const .none) (.const (.int 2))) (.cons (.slc (.var 3) (.const (.int 2)) (.const (.int 3))) .nil))) (.cons (.slc (.var 3) (.const (.int 3)) (.const .none)) (.cons (.var 2) .nil)))))) (.not (.call 49 (.cons (.var 1) (.cons (.var 3) (.cons (.var 2) .nil)))))) (.cons (.ret (.const (.bool false))) .nil) .nil) (.cons (.ret (.call 50 (.cons (.share (.call 40 (.cons (.var 0) (.cons (.const (.int 0)) .nil)))) .nil))) .nil)))))))))
noncomputable def fl:List Fn:=[⟨none,1,4,[],b0⟩,
 ⟨none,1,1,[],b1⟩,
 ⟨none,1,5,[],b2⟩,
 ⟨none,3,7,[],b3⟩,
 ⟨none,1,3,[],b4⟩,
 ⟨none,1,1,[],b5⟩,
 ⟨none,1,1,[],b6⟩,
 ⟨none,2,3,[],b7⟩,
 ⟨none,1,4,[],b8⟩,
 ⟨none,2,5,[],b9⟩,
 ⟨none,2,5,[],b10⟩,
 ⟨none,3,5,[],b11⟩,
 ⟨none,1,3,[],b12⟩,
 ⟨none,1,2,[],b13⟩,
 ⟨none,1,1,[],b14⟩,
 ⟨none,2,2,[],b15⟩,
 ⟨none,3,5,[],b16⟩,
 ⟨none,1,2,[],b17⟩,
 ⟨none,1,5,[],b18⟩,
 ⟨none,1,5,[],b19⟩,
 ⟨none,1,5,[],b20⟩,
 ⟨none,2,7,[],b21⟩,
 ⟨some 0,3,3,[],b22⟩,
 ⟨some 0,1,1,[],b23⟩,
 ⟨some 0,2,2,[],b24⟩,
 ⟨some 0,2,2,[],b25⟩,
 ⟨none,1,3,[],b26⟩,
 ⟨none,2,4,[],b27⟩,
 ⟨none,2,6,[],b28⟩,
 ⟨none,2,5,[],b29⟩,
 ⟨none,1,5,[],b30⟩,
 ⟨some 1,3,3,[(.int 64)],b31⟩,
 ⟨some 1,2,4,[],b32⟩,
 ⟨some 1,1,1,[],b33⟩,
 ⟨some 1,1,1,[],b34⟩,
 ⟨some 1,1,1,[],b35⟩,
 ⟨some 1,1,1,[],b36⟩,
 ⟨some 1,1,1,[],b37⟩,
 ⟨some 1,1,1,[],b38⟩,
 ⟨some 1,2,2,[],b39⟩,
 ⟨none,2,5,[],b40⟩,
 ⟨none,2,3,[],b41⟩,
 ⟨none,2,2,[],b42⟩,
 ⟨none,1,1,[],b43⟩,
 ⟨none,2,3,[],b44⟩,
 ⟨none,3,9,[],b45⟩,
 ⟨none,2,6,[],b46⟩,
 ⟨none,1,1,[],b47⟩,
 ⟨none,4,15,[],b48⟩,
 ⟨none,3,7,[],b49⟩,
 ⟨none,1,14,[],b50⟩,
 ⟨none,1,5,[],b51⟩]
noncomputable def fns (j:Nat):Option Fn:=fl[j]?
noncomputable def tabs:Tabs:=⟨λj=>(fns j).bind (·.cls),λc=>match c with | 0=>some 22 | 1=>some 31 | _=>none⟩
end Mine
end
section
open PySem PySem.W PyProof.Rows PySem.Calls
namespace Mine
noncomputable def stm (i:Nat):Stmt:=(PySem.Challenge.pw_xw0237_01.main.body[i]?).getD (.Pass ⟨0,0,0,0⟩)
noncomputable def clsBody:Stmt→List Stmt
 | .ClassDef _ _ _ b _ _ _ _ _ _ _=>b
 | _=>[]
noncomputable def mth (i k:Nat):Stmt:=((clsBody (stm i))[k]?).getD (.Pass ⟨0,0,0,0⟩)
noncomputable def fnBody:Stmt→List Stmt
 | .FunctionDef _ _ b _ _ _ _ _ _ _=>b
 | _=>[]
noncomputable def noScope:Scope:={ kind:=.function,names:=[],isGenerator:=false,isCoroutine:=false }
noncomputable def fnScope:Stmt→Scope
 | .FunctionDef _ _ _ _ _ _ s _ _ _=>s
 | _=>noScope
theorem nofalse {p:Prop} (h:false=true):p:=Bool.noConfusion h
noncomputable def sameI:List Val→List Val→Bool
 | [],m=>m.isEmpty
 | x :: l,m=>(match m with
  | []=>false
  | y :: m=>(match intO x with
   | some i=>intO y == some i && sameI l m
   | none=>false))
noncomputable def sameV (x y:Val):Bool:=match x with
 | .int i=>intO y == some i
 | .str l=>(match y with
  | .str m=>decide (l=m)
  | _=>false)
 | .tuple l=>(match y with
  | .tuple m=>sameI l m
  | _=>false)
 | _=>false
theorem sameI_eq:∀ {l m:List Val},sameI l m=true→l=m
 | [],[],_=>rfl
 | x :: l,y :: m,h=>by
  have h:(match intO x with
   | some i=>intO y == some i && sameI l m
   | none=>false)=true:=h
  cases hx:intO x with
  | none=>rw [hx] at h; cases h
  | some i =>
   rw [hx] at h
   have h:=Bool.and_eq_true_iff.mp h
   rw [intO_inv hx,intO_inv (eq_of_beq h.1),sameI_eq h.2]
theorem sameV_eq {x y:Val} (h:sameV x y=true):x=y:=by
 cases x with
 | int i=>exact (intO_inv (eq_of_beq (h:(intO y == some i)=true))).symm
 | str l=>cases y with
  | str m=>exact congrArg _ (of_decide_eq_true h)
  | _=>exact nofalse h
 | tuple l=>cases y with
  | tuple m=>exact congrArg _ (sameI_eq h)
  | _=>exact nofalse h
 | _=>exact nofalse h
theorem dB {c:Prop} [Decidable c] {g:c→Bool} {P:Prop} (h:(if h:c then g h else false)=true) (k:∀ hc:c,g hc=true→P):P:=by
 by_cases hc:c
 ·rw [dif_pos hc] at h; exact k hc h
 ·rw [dif_neg hc] at h; exact nofalse h
theorem andE {a b:Bool} {P:Prop} (h:(a && b)=true) (k:a=true→b=true→P):P:=k (Bool.and_eq_true_iff.mp h).1 (Bool.and_eq_true_iff.mp h).2
theorem orE {a b:Bool} {P:Prop} (h:(a || b)=true) (k:a=true→P) (l:b=true→P):P:=(Bool.or_eq_true_iff.mp h).elim k l
theorem decE {α:Type} {a b:α} [Decidable (a=b)] {P:α→Prop} (h:decide (a=b)=true) (k:P b):P a:=(of_decide_eq_true h) ▸ k
theorem beqE {α:Type} [BEq α] [LawfulBEq α] {a b:α} {P:α→Prop} (h:(a == b)=true) (k:P b):P a:=(eq_of_beq h) ▸ k
theorem nott {t:Bool} (h:(!t)=true):t=false:=by cases t with
 | false=>rfl
 | true=>exact nofalse h
theorem notE {t:Bool} {P:Bool→Prop} (h:(!t)=true) (k:P false):P t:=(nott h) ▸ k
noncomputable def nameB (e:Expr) (ff:Str→Bool):Bool:=if h:e.ctorIdx=23 then Expr.Name.elim (motive_1:=λ_=>Bool) e h (λx _=>ff x) else false
theorem nameB_e {e:Expr} {ff} {P:Expr→Prop} (h:nameB e ff=true) (kt:∀ x p,ff x=true→P (.Name x p)):P e :=
 dB h λhi=>Expr.Name.elim (motive_1:=λe=>(hi:e.ctorIdx=23)→Expr.Name.elim (motive_1:=λ_=>Bool) e hi (λx _=>ff x)=true→P e) e hi (λx p _=>kt x p) hi
noncomputable def constB (e:Expr) (ff:Const→Bool):Bool:=if h:e.ctorIdx=19 then Expr.Constant.elim (motive_1:=λ_=>Bool) e h (λc _ _=>ff c) else false
theorem constB_e {e:Expr} {ff} {P:Expr→Prop} (h:constB e ff=true) (kt:∀ c k p,ff c=true→P (.Constant c k p)):P e :=
 dB h λhi=>Expr.Constant.elim (motive_1:=λe=>(hi:e.ctorIdx=19)→Expr.Constant.elim (motive_1:=λ_=>Bool) e hi (λc _ _=>ff c)=true→P e) e hi (λc k p _=>kt c k p) hi
noncomputable def attrB (e:Expr) (ff:Expr→Str→Pos→Bool):Bool:=if h:e.ctorIdx=20 then Expr.Attribute.elim (motive_1:=λ_=>Bool) e h (λv y p=>ff v y p) else false
theorem attrB_e {e:Expr} {ff} {P:Expr→Prop} (h:attrB e ff=true) (kt:∀ v y p,ff v y p=true→P (.Attribute v y p)):P e :=
 dB h λhi=>Expr.Attribute.elim (motive_1:=λe=>(hi:e.ctorIdx=20)→Expr.Attribute.elim (motive_1:=λ_=>Bool) e hi (λv y p=>ff v y p)=true→P e) e hi (λv y p _=>kt v y p) hi
noncomputable def callB (e:Expr) (ff:Expr→List Expr→List Keyword→Pos→Bool):Bool:=if h:e.ctorIdx=16 then Expr.Call.elim (motive_1:=λ_=>Bool) e h (λf a k p=>ff f a k p) else false
theorem callB_e {e:Expr} {ff} {P:Expr→Prop} (h:callB e ff=true) (kt:∀ f a k p,ff f a k p=true→P (.Call f a k p)):P e :=
 dB h λhi=>Expr.Call.elim (motive_1:=λe=>(hi:e.ctorIdx=16)→Expr.Call.elim (motive_1:=λ_=>Bool) e hi (λf a k p=>ff f a k p)=true→P e) e hi (λf a k p _=>kt f a k p) hi
noncomputable def subB (e:Expr) (ff:Expr→Expr→Bool):Bool:=if h:e.ctorIdx=21 then Expr.Subscript.elim (motive_1:=λ_=>Bool) e h (λv s _=>ff v s) else false
theorem subB_e {e:Expr} {ff} {P:Expr→Prop} (h:subB e ff=true) (kt:∀ v s p,ff v s=true→P (.Subscript v s p)):P e :=
 dB h λhi=>Expr.Subscript.elim (motive_1:=λe=>(hi:e.ctorIdx=21)→Expr.Subscript.elim (motive_1:=λ_=>Bool) e hi (λv s _=>ff v s)=true→P e) e hi (λv s p _=>kt v s p) hi
noncomputable def binB (e:Expr) (ff:Expr→Operator→Expr→Bool):Bool:=if h:e.ctorIdx=2 then Expr.BinOp.elim (motive_1:=λ_=>Bool) e h (λl o r _=>ff l o r) else false
theorem binB_e {e:Expr} {ff} {P:Expr→Prop} (h:binB e ff=true) (kt:∀ l o r p,ff l o r=true→P (.BinOp l o r p)):P e :=
 dB h λhi=>Expr.BinOp.elim (motive_1:=λe=>(hi:e.ctorIdx=2)→Expr.BinOp.elim (motive_1:=λ_=>Bool) e hi (λl o r _=>ff l o r)=true→P e) e hi (λl o r p _=>kt l o r p) hi
noncomputable def unB (e:Expr) (ff:UnaryOp→Expr→Bool):Bool:=if h:e.ctorIdx=3 then Expr.UnaryOp.elim (motive_1:=λ_=>Bool) e h (λo x _=>ff o x) else false
theorem unB_e {e:Expr} {ff} {P:Expr→Prop} (h:unB e ff=true) (kt:∀ o x p,ff o x=true→P (.UnaryOp o x p)):P e :=
 dB h λhi=>Expr.UnaryOp.elim (motive_1:=λe=>(hi:e.ctorIdx=3)→Expr.UnaryOp.elim (motive_1:=λ_=>Bool) e hi (λo x _=>ff o x)=true→P e) e hi (λo x p _=>kt o x p) hi
noncomputable def boolB (e:Expr) (ff:BoolOp→List Expr→Pos→Bool):Bool:=if h:e.ctorIdx=0 then Expr.BoolOp.elim (motive_1:=λ_=>Bool) e h (λo vs p=>ff o vs p) else false
theorem boolB_e {e:Expr} {ff} {P:Expr→Prop} (h:boolB e ff=true) (kt:∀ o vs p,ff o vs p=true→P (.BoolOp o vs p)):P e :=
 dB h λhi=>Expr.BoolOp.elim (motive_1:=λe=>(hi:e.ctorIdx=0)→Expr.BoolOp.elim (motive_1:=λ_=>Bool) e hi (λo vs p=>ff o vs p)=true→P e) e hi (λo vs p _=>kt o vs p) hi
noncomputable def cmpB (e:Expr) (ff:Expr→List CmpOp→List Expr→Bool):Bool:=if h:e.ctorIdx=15 then Expr.Compare.elim (motive_1:=λ_=>Bool) e h (λl os rs _=>ff l os rs) else false
theorem cmpB_e {e:Expr} {ff} {P:Expr→Prop} (h:cmpB e ff=true) (kt:∀ l os rs p,ff l os rs=true→P (.Compare l os rs p)):P e :=
 dB h λhi=>Expr.Compare.elim (motive_1:=λe=>(hi:e.ctorIdx=15)→Expr.Compare.elim (motive_1:=λ_=>Bool) e hi (λl os rs _=>ff l os rs)=true→P e) e hi (λl os rs p _=>kt l os rs p) hi
noncomputable def ifeB (e:Expr) (ff:Expr→Expr→Expr→Bool):Bool:=if h:e.ctorIdx=5 then Expr.IfExp.elim (motive_1:=λ_=>Bool) e h (λq x y _=>ff q x y) else false
theorem ifeB_e {e:Expr} {ff} {P:Expr→Prop} (h:ifeB e ff=true) (kt:∀ q x y p,ff q x y=true→P (.IfExp q x y p)):P e :=
 dB h λhi=>Expr.IfExp.elim (motive_1:=λe=>(hi:e.ctorIdx=5)→Expr.IfExp.elim (motive_1:=λ_=>Bool) e hi (λq x y _=>ff q x y)=true→P e) e hi (λq x y p _=>kt q x y p) hi
noncomputable def listB (e:Expr) (ff:List Expr→Bool):Bool:=if h:e.ctorIdx=24 then Expr.List.elim (motive_1:=λ_=>Bool) e h (λes _=>ff es) else false
theorem listB_e {e:Expr} {ff} {P:Expr→Prop} (h:listB e ff=true) (kt:∀ es p,ff es=true→P (.List es p)):P e :=
 dB h λhi=>Expr.List.elim (motive_1:=λe=>(hi:e.ctorIdx=24)→Expr.List.elim (motive_1:=λ_=>Bool) e hi (λes _=>ff es)=true→P e) e hi (λes p _=>kt es p) hi
noncomputable def sliceB (e:Expr) (ff:Option Expr→Option Expr→Option Expr→Bool):Bool:=if h:e.ctorIdx=26 then Expr.Slice.elim (motive_1:=λ_=>Bool) e h (λa b c _=>ff a b c) else false
theorem sliceB_e {e:Expr} {ff} {P:Expr→Prop} (h:sliceB e ff=true) (kt:∀ a b c p,ff a b c=true→P (.Slice a b c p)):P e :=
 dB h λhi=>Expr.Slice.elim (motive_1:=λe=>(hi:e.ctorIdx=26)→Expr.Slice.elim (motive_1:=λ_=>Bool) e hi (λa b c _=>ff a b c)=true→P e) e hi (λa b c p _=>kt a b c p) hi
noncomputable def tupB (e:Expr) (ff:List Expr→Bool):Bool:=if h:e.ctorIdx=25 then Expr.Tuple.elim (motive_1:=λ_=>Bool) e h (λes _ _=>ff es) else false
theorem tupB_e {e:Expr} {ff} {P:Expr→Prop} (h:tupB e ff=true) (kt:∀ es k p,ff es=true→P (.Tuple es k p)):P e :=
 dB h λhi=>Expr.Tuple.elim (motive_1:=λe=>(hi:e.ctorIdx=25)→Expr.Tuple.elim (motive_1:=λ_=>Bool) e hi (λes _ _=>ff es)=true→P e) e hi (λes k p _=>kt es k p) hi
noncomputable def lcB (e:Expr) (ff:Expr→List Comprehension→Scope→Pos→Bool):Bool:=if h:e.ctorIdx=8 then Expr.ListComp.elim (motive_1:=λ_=>Bool) e h (λa g s p=>ff a g s p) else false
theorem lcB_e {e:Expr} {ff} {P:Expr→Prop} (h:lcB e ff=true) (kt:∀ a g s p,ff a g s p=true→P (.ListComp a g s p)):P e :=
 dB h λhi=>Expr.ListComp.elim (motive_1:=λe=>(hi:e.ctorIdx=8)→Expr.ListComp.elim (motive_1:=λ_=>Bool) e hi (λa g s p=>ff a g s p)=true→P e) e hi (λa g s p _=>kt a g s p) hi
noncomputable def asgS (e:Stmt) (ff:List Expr→Expr→Bool):Bool:=if h:e.ctorIdx=5 then Stmt.Assign.elim (motive_2:=λ_=>Bool) e h (λt v _=>ff t v) else false
theorem asgS_e {e:Stmt} {ff} {P:Stmt→Prop} (h:asgS e ff=true) (kt:∀ t v p,ff t v=true→P (.Assign t v p)):P e :=
 dB h λhi=>Stmt.Assign.elim (motive_2:=λe=>(hi:e.ctorIdx=5)→Stmt.Assign.elim (motive_2:=λ_=>Bool) e hi (λt v _=>ff t v)=true→P e) e hi (λt v p _=>kt t v p) hi
noncomputable def expS (e:Stmt) (ff:PySem.Expr→Bool):Bool:=if h:e.ctorIdx=24 then Stmt.Expr.elim (motive_2:=λ_=>Bool) e h (λx _=>ff x) else false
theorem expS_e {e:Stmt} {ff} {P:Stmt→Prop} (h:expS e ff=true) (kt:∀ x p,ff x=true→P (.Expr x p)):P e :=
 dB h λhi=>Stmt.Expr.elim (motive_2:=λe=>(hi:e.ctorIdx=24)→Stmt.Expr.elim (motive_2:=λ_=>Bool) e hi (λx _=>ff x)=true→P e) e hi (λx p _=>kt x p) hi
noncomputable def augS (e:Stmt) (ff:Expr→Operator→Expr→Bool):Bool:=if h:e.ctorIdx=7 then Stmt.AugAssign.elim (motive_2:=λ_=>Bool) e h (λt o v _=>ff t o v) else false
theorem augS_e {e:Stmt} {ff} {P:Stmt→Prop} (h:augS e ff=true) (kt:∀ t o v p,ff t o v=true→P (.AugAssign t o v p)):P e :=
 dB h λhi=>Stmt.AugAssign.elim (motive_2:=λe=>(hi:e.ctorIdx=7)→Stmt.AugAssign.elim (motive_2:=λ_=>Bool) e hi (λt o v _=>ff t o v)=true→P e) e hi (λt o v p _=>kt t o v p) hi
noncomputable def retS (e:Stmt) (ff:Option Expr→Bool):Bool:=if h:e.ctorIdx=3 then Stmt.Return.elim (motive_2:=λ_=>Bool) e h (λv _=>ff v) else false
theorem retS_e {e:Stmt} {ff} {P:Stmt→Prop} (h:retS e ff=true) (kt:∀ v p,ff v=true→P (.Return v p)):P e :=
 dB h λhi=>Stmt.Return.elim (motive_2:=λe=>(hi:e.ctorIdx=3)→Stmt.Return.elim (motive_2:=λ_=>Bool) e hi (λv _=>ff v)=true→P e) e hi (λv p _=>kt v p) hi
noncomputable def ifsS (e:Stmt) (ff:Expr→List Stmt→List Stmt→Bool):Bool:=if h:e.ctorIdx=12 then Stmt.If.elim (motive_2:=λ_=>Bool) e h (λt b c _=>ff t b c) else false
theorem ifsS_e {e:Stmt} {ff} {P:Stmt→Prop} (h:ifsS e ff=true) (kt:∀ t b c p,ff t b c=true→P (.If t b c p)):P e :=
 dB h λhi=>Stmt.If.elim (motive_2:=λe=>(hi:e.ctorIdx=12)→Stmt.If.elim (motive_2:=λ_=>Bool) e hi (λt b c _=>ff t b c)=true→P e) e hi (λt b c p _=>kt t b c p) hi
noncomputable def whlS (e:Stmt) (ff:Expr→List Stmt→List Stmt→Bool):Bool:=if h:e.ctorIdx=11 then Stmt.While.elim (motive_2:=λ_=>Bool) e h (λt b c _=>ff t b c) else false
theorem whlS_e {e:Stmt} {ff} {P:Stmt→Prop} (h:whlS e ff=true) (kt:∀ t b c p,ff t b c=true→P (.While t b c p)):P e :=
 dB h λhi=>Stmt.While.elim (motive_2:=λe=>(hi:e.ctorIdx=11)→Stmt.While.elim (motive_2:=λ_=>Bool) e hi (λt b c _=>ff t b c)=true→P e) e hi (λt b c p _=>kt t b c p) hi
noncomputable def for_S (e:Stmt) (ff:Expr→Expr→List Stmt→List Stmt→Bool):Bool:=if h:e.ctorIdx=9 then Stmt.For.elim (motive_2:=λ_=>Bool) e h (λt i b c _=>ff t i b c) else false
theorem for_S_e {e:Stmt} {ff} {P:Stmt→Prop} (h:for_S e ff=true) (kt:∀ t i b c p,ff t i b c=true→P (.For t i b c p)):P e :=
 dB h λhi=>Stmt.For.elim (motive_2:=λe=>(hi:e.ctorIdx=9)→Stmt.For.elim (motive_2:=λ_=>Bool) e hi (λt i b c _=>ff t i b c)=true→P e) e hi (λt i b c p _=>kt t i b c p) hi
noncomputable def anyB (e:Expr):Bool:=nameB e (λ_=>true) || constB e (λ_=>true) || attrB e (λ_ _ _=>true) || subB e (λ_ _=>true) || callB e (λ_ _ _ _=>true)
theorem anyB_e {e:Expr} {P:Expr→Prop} (h:anyB e=true) (k1:∀ x p,P (.Name x p)) (k2:∀ c k p,P (.Constant c k p)) (k3:∀ v y p,P (.Attribute v y p)) (k4:∀ v s p,P (.Subscript v s p)) (k5:∀ f a k p,P (.Call f a k p)):P e :=
 orE h (λh=>orE h (λh=>orE h (λh=>orE h (λh=>nameB_e h λ_ _ _=>k1 _ _) λh=>constB_e h λ_ _ _ _=>k2 _ _ _) λh=>attrB_e h λ_ _ _ _=>k3 _ _ _) λh=>subB_e h λ_ _ _ _=>k4 _ _ _) λh=>callB_e h λ_ _ _ _ _=>k5 _ _ _ _
noncomputable def okBase (e:Expr):Bool:=nameB e (λ_=>true) || attrB e (λ_ _ _=>true) || subB e (λ_ _=>true)
theorem okBase_of {e:Expr} (h:okBase e=true) {y:Str} {env:Env} {w:Sem Value}:attributeBase e y env w=w :=
 orE h (λh=>orE h (λh=>nameB_e (P:=λe=>attributeBase e y env w=w) h λ_ _ _=>rfl) λh=>attrB_e (P:=λe=>attributeBase e y env w=w) h λ_ _ _ _=>rfl) λh=>subB_e (P:=λe=>attributeBase e y env w=w) h λ_ _ _ _=>rfl
theorem okIter_of {e:Expr} (h:anyB e=true) {env:Env} (x:Value):foldedSetIterable e env x=pure x :=
 anyB_e (P:=λe=>foldedSetIterable e env x=pure x) h (λ_ _=>rfl) (λ_ _ _=>rfl) (λ_ _ _=>rfl) (λ_ _ _=>rfl) (λ_ _ _ _=>rfl)
noncomputable abbrev tE (e:Expr) (env:Env):Prop:=isTrue e env (eval e env)=(do let v ←eval e env; standAt e.pos; holding [v] (truthy v))
theorem okTest_of {e:Expr} (h:anyB e=true) {env:Env}:isTrue e env (eval e env)=(do let v ←eval e env; standAt e.pos; holding [v] (truthy v)) :=
 anyB_e (P:=λe=>tE e env) h (λ_ _=>rfl) (λ_ _ _=>rfl) (λ_ _ _=>rfl) (λ_ _ _=>rfl) (λ_ _ _ _=>rfl)
noncomputable def okSub (e:Expr):Bool:=!(e.ctorIdx == 26)
theorem okSub_of {e:Expr} (h:okSub e=true):∀ a b p,e≠.Slice a b none p:=λa b p q=>by subst q; exact nofalse h
noncomputable def biPlain:BI→Bool
 | .isInt=>false
 | .isStr=>false
 | .isBytes=>false
 | _=>true
noncomputable def biTy:BI→Str
 | .isInt=>"int"
 | .isStr=>"str"
 | _=>"bytes"
theorem biTy_of {b:BI} (h:biPlain b=false):∃ tv,biMoreV b=[tv]∧bootBuiltins (biTy b)=some tv∧(biTy b == ("__name__":Str))=false:=by
 cases b with
 | isInt=>exact ⟨_,rfl,biBootMore.1,by decide +kernel⟩
 | isStr=>exact ⟨_,rfl,biBootMore.2.1,by decide +kernel⟩
 | isBytes=>exact ⟨_,rfl,biBootMore.2.2.1,by decide +kernel⟩
 | _=>exact nofalse h.symm
theorem biPlain_of {b:BI} (h:biPlain b=true):biMoreV b=[]:=by
 cases b with
 | isInt=>cases h
 | isStr=>cases h
 | isBytes=>cases h
 | _=>rfl
abbrev CE:=Cx→Expr→Bool
noncomputable def withO {α:Type} (o:Option α) (f:α→Bool):Bool:=match o with
 | some a=>f a
 | none=>false
theorem withO_e {α:Type} {o:Option α} {f:α→Bool} {P:Prop} (h:withO o f=true) (k:∀ a,o=some a→f a=true→P):P:=by
 cases o with
 | none=>exact nofalse h
 | some a=>exact k a rfl h
theorem withO_p {α:Type} {o:Option α} {f:α→Bool} {P:Option α→Prop} (h:withO o f=true) (k:∀ a,f a=true→P (some a)):P o:=by
 cases o with
 | none=>exact nofalse h
 | some a=>exact k a h
noncomputable def withC {α:Type} (l:List α) (f:α→List α→Bool):Bool:=match l with
 | []=>false
 | a :: r=>f a r
theorem withC_e {α:Type} {l:List α} {f:α→List α→Bool} {P:List α→Prop} (h:withC l f=true) (k:∀ a r,f a r=true→P (a :: r)):P l:=by
 cases l with
 | nil=>exact nofalse h
 | cons a r=>exact k a r h
noncomputable def withL {α:Type} (l:List α) (f:α→Bool):Bool:=withC l λa r=>r.isEmpty && f a
theorem emE {α:Type} {l:List α} {P:List α→Prop} (h:l.isEmpty=true) (k:P []):P l:=by
 cases l with
 | nil=>exact k
 | cons=>exact nofalse h
theorem noE {α:Type} {l:Option α} {P:Option α→Prop} (h:l.isNone=true) (k:P none):P l:=by
 cases l with
 | none=>exact k
 | some=>exact nofalse h
theorem withL_e {α:Type} {l:List α} {f:α→Bool} {P:List α→Prop} (h:withL l f=true) (k:∀ a,f a=true→P [a]):P l :=
 withC_e h λa r h=>andE h λh1 h2=>emE (P:=λr=>P (a :: r)) h1 (k a h2)
noncomputable def andC (op:BoolOp) (p:Pos) (fa fb:Expr→Bool) (vs:List Expr):Bool:=withC vs λx r=>fa x && withC r λy s=>(match s with
 | []=>fb y
 | _ :: _=>fb (.BoolOp op (y :: s) p))
noncomputable def nmV (cx:Cx) (e:Expr) (i:Nat):Bool:=nameB e λx=>varK cx x i
theorem nmV_e {cx:Cx} {e:Expr} {i:Nat} {P:Expr→Prop} (h:nmV cx e i=true) (k:∀ x p,varK cx x i=true→P (.Name x p)):P e:=nameB_e h k
noncomputable def isI (e:Expr) (k:Int):Bool:=constB e λc=>c == .int k
theorem isI_e {e:Expr} {k:Int} {P:Expr→Prop} (h:isI e k=true) (kk:∀ q p,P (.Constant (.int k) q p)):P e :=
 constB_e h λc q p h=>beqE (P:=λc=>P (.Constant c q p)) h (kk q p)
noncomputable def fldV (cx:Cx) (e:Expr) (i f:Nat):Bool:=attrB e λv y _=>y == fnm f && nmV cx v i
theorem fldV_e {cx:Cx} {e:Expr} {i f:Nat} {P:Expr→Prop} (h:fldV cx e i f=true) (k:∀ x p ap,varK cx x i=true→P (.Attribute (.Name x p) (fnm f) ap)):P e :=
 attrB_e h λv y ap h=>andE h λh1 h2=>beqE (P:=λy=>P (.Attribute v y ap)) h1 (nmV_e (P:=λv=>P (.Attribute v (fnm f) ap)) h2 λx p h=>k x p ap h)
noncomputable def cEq (v:Val) (c:Const):Bool:=match c with
 | .none=>(match v with
  | .none=>true
  | _=>false)
 | .bool b=>(match v with
  | .bool a=>a == b
  | _=>false)
 | .int i=>intO v == some i
 | .str x=>(match v with
  | .str l=>decide (x.cps.toList=l)
  | _=>false)
 | .bytes l=>bytesO v == some l
 | _=>false
noncomputable def chkC (v:Val) (cx:Cx) (e:Expr):Bool:=(constB e λc=>cEq v c) || (nameB e λx=>isGlobal cx.scope x && withO (gCo.lookup x) λc=>sameV c v)
noncomputable def cal (e:Expr) (f:Expr→List Expr→Pos→Bool):Bool:=callB e λg a k p=>k.isEmpty && f g a p
theorem cal_e {e:Expr} {f} {P:Expr→Prop} (h:cal e f=true) (k:∀ g a p,f g a p=true→P (.Call g a [] p)):P e :=
 callB_e h λg a l p h=>andE h λh1 h2=>emE (P:=λl=>P (.Call g a l p)) h1 (k g a p h2)
noncomputable def callN (j:Nat) (ch:Cx→List Expr→Bool) (cx:Cx) (e:Expr):Bool:=cal e λg a _=>nameB g λx=>isGlobal cx.scope x && (gFn.lookup x == some j && (a.all plainE && ch cx a))
theorem callN_e {j:Nat} {ch} {cx:Cx} {e:Expr} {P:Expr→Prop} (h:callN j ch cx e=true) (k:∀ x np args pos,isGlobal cx.scope x=true→gFn.lookup x=some j→args.all plainE=true→ch cx args=true→P (.Call (.Name x np) args [] pos)):P e :=
 cal_e h λg a p h=>nameB_e (P:=λg=>P (.Call g a [] p)) h λx np h=>andE h λh1 h=>andE h λh2 h=>andE h λh3 h4=>k x np a p h1 (eq_of_beq h2) h3 h4
noncomputable def biN (nm:Str) (ch:List Expr→Bool) (cx:Cx) (e:Expr):Bool:=cal e λg a _=>nameB g λx=>x == nm && (isGlobal cx.scope nm && (gBi.contains nm && ch a))
theorem biN_e {nm:Str} {ch} {cx:Cx} {e:Expr} {P:Expr→Prop} (h:biN nm ch cx e=true) (k:∀ np args pos,isGlobal cx.scope nm=true→gBi.contains nm=true→ch args=true→P (.Call (.Name nm np) args [] pos)):P e :=
 cal_e h λg a p h=>nameB_e (P:=λg=>P (.Call g a [] p)) h λx np h=>andE h λh1 h=>andE h λh2 h=>andE h λh3 h4=>beqE (P:=λx=>P (.Call (.Name x np) a [] p)) h1 (k np a p h2 h3 h4)
noncomputable def metN (nm:Str) (cx:Cx) (fo:Expr→Bool) (ch:List Expr→Bool) (e:Expr):Bool:=cal e λg a p=>attrB g λo y ap=>y == nm && (ap.endLine == p.line && (fo o && ch a))
theorem metN_e {nm:Str} {fo ch} {cx:Cx} {e:Expr} {P:Expr→Prop} (h:metN nm cx fo ch e=true) (k:∀ o ap args pos,(ap.endLine == pos.line)=true→fo o=true→ch args=true→P (.Call (.Attribute o nm ap) args [] pos)):P e :=
 cal_e h λg a p h=>attrB_e (P:=λg=>P (.Call g a [] p)) h λo y ap h=>andE h λh1 h=>andE h λh2 h=>andE h λh3 h4=>beqE (P:=λy=>P (.Call (.Attribute o y ap) a [] p)) h1 (k o ap a p h2 h3 h4)
noncomputable def meOf (j:Nat) (nm:Str):Bool:=withO (tabs.cls j) λc=>gMe.lookup nm == some (j,c)
noncomputable def constM:ME→Option Val
 | .const v=>some v
 | _=>none
theorem constM_inv {m:ME} {v} (h:constM m=some v):m=.const v:=by
 cases m with
 | const=>obtain rfl:=sj h; rfl
 | _=>exact nsm h
noncomputable def isNoneC (m:ME):Bool:=withO (constM m) λv=>(match v with
 | .none=>true
 | _=>false)
noncomputable def chkP (m:ME) (ch:Expr→Bool) (o:Option Expr):Bool:=match o with
 | some e=>ch e
 | none=>isNoneC m
noncomputable def namesT (e:Expr):List (Option Str):=match e with
 | .Name x _=>[some x]
 | .Tuple es _ _=>es.map nameOf
 | _=>[]
noncomputable def chkTg (cx:Cx) (e:Expr) (ts:List (Nat×Str)):Bool:=(nameB e λx=>withL ts λp=>p.2 == x && locK cx x p.1) ||
 (tupB e λes=>es.map nameOf == (ts.map (·.2)).map some && (decide (2≤ts.length) && locKs cx (ts.map (·.2)) (ts.map (·.1))))
noncomputable def isTrueC (m:ME):Bool:=withO (constM m) λv=>(match v with
 | .bool b=>b
 | _=>false)
noncomputable def chkIfs (cm:ME) (fc:CE) (cx:Cx) (ifs:List Expr):Bool:=match ifs with
 | []=>isTrueC cm
 | c :: r=>r.isEmpty && fc cx c
noncomputable def tsOf (tg:List Nat) (t:Expr):List (Nat×Str):=tg.zip ((namesT t).map λo=>o.getD ⟨#[]⟩)
noncomputable def compChk (fe fc:CE) (fi:CE) (tg:List Nat) (im:IT) (cm:ME) (cx:Cx) (e:Expr):Bool:=lcB e λelt gs sc _=>withL gs λg=>decide (g.is_async=0) && (decide ((tsOf tg g.target).map (·.1)=tg) && (compOk cx sc (tsOf tg g.target) && (chkTg (compCx cx sc (tsOf tg g.target)) g.target (tsOf tg g.target) && (chkIfs cm fc (compCx cx sc (tsOf tg g.target)) g.ifs && (fe (compCx cx sc (tsOf tg g.target)) elt && (match im with
    | .fld i f=>fldV cx g.iter i f
    | _=>anyB g.iter && fi cx g.iter))))))
mutual
noncomputable def chk:ME→Bool→CE
 | .const v,t,cx,e=>(!t || anyB e) && chkC v cx e
 | .var i,t,cx,e=>(!t || anyB e) && nmV cx e i
 | .bin op a b,t,cx,e=>!t && binB e λl o r=>decide (o=op) && (chk a false cx l && chk b false cx r)
 | .neg a,t,cx,e=>!t && unB e λo x=>decide (o=.USub) && chk a false cx x
 | .not a,t,cx,e=>unB e λo x=>decide (o=.Not) && chk a t cx x
 | .and a b,t,cx,e=>boolB e λo vs p=>decide (o=.And) && andC .And p (chk a t cx) (chk b t cx) vs
 | .or a b,t,cx,e=>t && boolB e λo vs p=>decide (o=.Or) && andC .Or p (chk a t cx) (chk b t cx) vs
 | .cmp op a b,_,cx,e=>cmpB e λl os rs=>withL os λo=>withL rs λr=>decide (o=op) && (!behindInMarks o r && (chk a false cx l && chk b false cx r))
 | .cmp2 op1 op2 a b c,_,cx,e=>cmpB e λl os rs=>decide (os=[op1,op2]) && withC rs λx rs=>withL rs λy=>!lastMarks [op1,op2] [x,y] && (chk a false cx l && (chk b false cx x && chk c false cx y))
 | .ite c a b,t,cx,e=>!t && ifeB e λq x y=>chk c true cx q && (chk a false cx x && chk b false cx y)
 | .sub a i,t,cx,e=>(!t || anyB e) && subB e λv s=>okSub s && (chk a false cx v && chk i false cx s)
 | .slc a lo hi,t,cx,e=>!t && subB e λv s=>sliceB s λx y z=>z.isNone && (chk a false cx v && (chkP lo (chk lo false cx) x && chkP hi (chk hi false cx) y))
 | .subF i f k,t,cx,e=>!t && subB e λv s=>fldV cx v i f && isI s k
 | .subS i k,t,cx,e=>!t && subB e λv s=>nmV cx v i && isI s k
 | .slcF i f k,t,cx,e=>!t && subB e λv s=>fldV cx v i f && sliceB s λx y z=>z.isNone && (y.isNone && withO x λx=>isI x k)
 | .lenF i f,t,cx,e=>!t && biN "len" (λas=>withL as λx=>fldV cx x i f) cx e
 | .truF i f,t,cx,e=>t && fldV cx e i f
 | .attr a f,t,cx,e=>(!t || anyB e) && attrB e λv y _=>y == fnm f && (okBase v && chk a false cx v)
 | .call j es,t,cx,e=>(!t || anyB e) && callN j (chks es) cx e
 | .callP _ _,_,_,_=>false
 | .meth a j es,t,cx,e=>(!t || anyB e) && cal e λg as p=>attrB g λo y ap=>ap.endLine == p.line && (meOf j y && (okBase o && (as.all plainE && (decide (as.length < 30) && (chk a false cx o && chks es cx as)))))
 | .new c es,t,cx,e=>!t && cal e λg as _=>nameB g λx=>isGlobal cx.scope x && (as.all plainE && (((decide (c=0) && decide (x=("KeyInfo":Str))) || (decide (c=1) && decide (x=("Sorter":Str)))) && chks es cx as))
 | .bi b es,t,cx,e=>(!t || anyB e) && biN (biName b) (λas=>(match biPlain b with
  | true=>as.all plainE && chks es cx as
  | false=>withC as λx r=>plainE x && ((withL r λy=>nameB y λz=>z == biTy b) && (isGlobal cx.scope (biTy b) && (gBi.contains (biTy b) && chks es cx [x]))))) cx e
 | .join a,t,cx,e=>!t && metN "join" cx (λo=>constB o λc=>c == .str ⟨#[]⟩) (λas=>withL as λx=>plainE x && chk a false cx x) e
 | .rstrip a,t,cx,e=>!t && metN "rstrip" cx (λo=>okBase o && chk a false cx o) (λas=>withL as λx=>constB x λc=>c == .str ⟨#[32]⟩) e
 | .list es,t,cx,e=>!t && listB e λas=>as.all plainE && chks es cx as
 | .tuple es,t,cx,e=>!t && tupB e λas=>as.all plainE && chks es cx as
 | .comp elt tg im cm,t,cx,e=>!t && compChk (chk elt false) (chk cm true) (chkI im) tg im cm cx e
 | .share a,t,cx,e=>!t && chk a false cx e
noncomputable def chks:MEs→Cx→List Expr→Bool
 | .nil,_,as=>as.isEmpty
 | .cons m ms,cx,as=>withC as λx r=>plainE x && (chk m false cx x && chks ms cx r)
noncomputable def chkI:IT→CE
 | .rng es,cx,e=>biN "range" (λas=>as.all plainE && chks es cx as) cx e
 | .ex a,cx,e=>chk a false cx e
 | .fld _ _,_,_=>false
end
mutual
noncomputable def chkQ:ME→CE
 | .var i,cx,e=>nmV cx e i
 | .attr a f,cx,e=>attrB e λv y _=>y == fnm f && (okBase v && chkQ a cx v)
 | .callP j es,cx,e=>callN j (chkQs es) cx e
 | .tuple es,cx,e=>tupB e λas=>as.all plainE && chkQs es cx as
 | _,_,_=>false
noncomputable def chkQs:MEs→Cx→List Expr→Bool
 | .nil,_,as=>as.isEmpty
 | .cons m ms,cx,as=>withC as λx r=>plainE x && (chkQ m cx x && chkQs ms cx r)
end
section
variable {C:Cfg} {n:Nat}
noncomputable def TX (C:Cfg) (n:Nat) (pl:Nat→Option Place) (t:Bool) (e:Expr) (env:Env) (m:ME):Prop:=match t with
 | false=>TE C pl n (eval e env) (evE tabs (callF tabs fns n) m)
 | true=>TT C pl n (isTrue e env (eval e env)) (evE tabs (callF tabs fns n) m)
noncomputable def OKE (C:Cfg) (n:Nat) (m:ME):Prop:=∀ {t cx pl env e},EnvOk pl cx env→chk m t cx e=true→TX C n pl t e env m
noncomputable def OKEs (C:Cfg) (n:Nat) (ms:MEs):Prop:=∀ {cx pl env es},EnvOk pl cx env→chks ms cx es=true→TEs C pl n (starEach es env) (evEs tabs (callF tabs fns n) ms)∧(∀ x,es=[x]→∃ m,ms=.cons m .nil∧TE C pl n (eval x env) (evE tabs (callF tabs fns n) m))
noncomputable def OKI (C:Cfg) (n:Nat) (im:IT):Prop:=∀ {cx pl env e},EnvOk pl cx env→chkI im cx e=true→TI C pl n (eval e env) (evI tabs (callF tabs fns n) im)
noncomputable abbrev VE (C:Cfg) (n:Nat) (pl:Nat→Option Place) (env:Env) (m:ME) (e:Expr):Prop:=TE C pl n (eval e env) (evE tabs (callF tabs fns n) m)
theorem TX.val {t pl e env m} (h0:(!t || anyB e)=true) (h:TE C pl n (eval e env) (evE tabs (callF tabs fns n) m)):TX C n pl t e env m:=by
 cases t with
 | false=>exact h
 | true=>exact TT_value h (okTest_of h0)
theorem okv {m:ME} {p:Cx→Expr→Bool} (hq:∀ {t cx e},chk m t cx e=((!t || anyB e) && p cx e)) (hv:∀ {cx pl env e},EnvOk pl cx env→p cx e=true→VE C n pl env m e):OKE C n m :=
 λH h=>andE (hq ▸ h) λh0 h=>TX.val h0 (hv H h)
theorem okn {m:ME} {p:Cx→Expr→Bool} (hq:∀ {t cx e},chk m t cx e=(!t && p cx e)) (hv:∀ {cx pl env e},EnvOk pl cx env→p cx e=true→VE C n pl env m e):OKE C n m :=
 λH h=>andE (hq ▸ h) λh0 h=>notE (P:=λt=>TX C n _ t _ _ m) h0 (hv H h)
theorem cEq_e {v:Val} {c:Const} {k p pl env} (h:cEq v c=true):VE C n pl env (.const v) (.Constant c k p):=by
 cases c with
 | none=>cases v with
  | none=>exact W_none
  | _=>exact nofalse h
 | bool b=>cases v with
  | bool=>obtain rfl:=eq_of_beq h; exact W_bool
  | _=>exact nofalse h
 | int i=>obtain rfl:=intO_inv (eq_of_beq (h:(intO v == some i)=true)); exact W_int
 | str=>cases v with
  | str=>exact W_str (of_decide_eq_true h)
  | _=>exact nofalse h
 | bytes l=>obtain rfl:=bytesO_inv (eq_of_beq (h:(bytesO v == some l)=true)); exact W_bytes
 | _=>exact nofalse h
theorem ok_const (F:Facts C) {v}:OKE C n (.const v) :=
 okv (p:=chkC v) rfl λH h=>orE h (λh=>constB_e (P:=VE C n _ _ _) h λc k p h=>cEq_e h)
  λh=>nameB_e (P:=VE C n _ _ _) h λx p h=>andE h λh1 h=>withO_e h λc h3 h4=>W_const F H h1 (h3.trans (congrArg some (sameV_eq h4)))
theorem ok_var {i}:OKE C n (.var i):=okv (p:=λcx e=>nmV cx e i) rfl λH h=>nmV_e (P:=VE C n _ _ _) h λx p h=>W_var H h
theorem ok_bin {op a b} (ha:OKE C n a) (hb:OKE C n b):OKE C n (.bin op a b) :=
 okn (p:=λcx e=>binB e λl o r=>decide (o=op) && (chk a false cx l && chk b false cx r)) rfl λH h=>binB_e (P:=VE C n _ _ _) h λl o r p h=>andE h λh1 h=>andE h λh2 h3 =>
  decE (P:=λo=>VE C n _ _ _ (.BinOp l o r p)) h1 (T_bin (ha (t:=false) H h2) (hb (t:=false) H h3))
theorem ok_neg {a} (ha:OKE C n a):OKE C n (.neg a) :=
 okn (p:=λcx e=>unB e λo x=>decide (o=.USub) && chk a false cx x) rfl λH h=>unB_e (P:=VE C n _ _ _) h λo x p h=>andE h λh1 h2 =>
  decE (P:=λo=>VE C n _ _ _ (.UnaryOp o x p)) h1 (T_neg (ha (t:=false) H h2))
theorem ok_not {a} (ha:OKE C n a):OKE C n (.not a):=λ {t cx pl env e} H h=>unB_e (P:=λe=>TX C n pl t e env (.not a)) h λo x p h=>andE h λh1 h2 =>
 decE (P:=λo=>TX C n pl t (.UnaryOp o x p) env (.not a)) h1 (by
  cases t with
  | false=>exact T_not (ha (t:=false) H h2)
  | true=>exact TT_not (ha (t:=true) H h2))
theorem isTrue_w {op vs p env} {w:Sem Value}:PySem.isTrue (.BoolOp op vs p) env w=PySem.isTrue (.BoolOp op vs p) env (eval (.BoolOp op vs p) env):=rfl
theorem andC_e {op p fa fb vs} {P:List Expr→Prop} (h:andC op p fa fb vs=true) (k:∀ x y s,fa x=true→(match s with
 | []=>fb y
 | _ :: _=>fb (.BoolOp op (y :: s) p))=true→P (x :: y :: s)):P vs :=
 withC_e h λx r h=>andE h λh1 h=>withC_e (P:=λr=>P (x :: r)) h λy s h2=>k x y s h1 h2
theorem ok_and {a b} (ha:OKE C n a) (hb:OKE C n b):OKE C n (.and a b):=λ {t cx pl env e} H h=>boolB_e (P:=λe=>TX C n pl t e env (.and a b)) h λo vs p h=>andE h λh1 h =>
 decE (P:=λo=>TX C n pl t (.BoolOp o vs p) env (.and a b)) h1 (andC_e (P:=λvs=>TX C n pl t (.BoolOp .And vs p) env (.and a b)) h λx y s h3 h4=>by
  have hb':TX C n pl t (.BoolOp .And (y :: s) p) env b:=by
   cases s with
   | nil=>cases t with
    | false=>exact T_one (hb (t:=false) H h4)
    | true=>exact TT_one (hb (t:=true) H h4)
   | cons=>exact hb H h4
  cases t with
  | false =>
   have hb2:TE C pl n (eval (.BoolOp .And (y :: s) p) env) (evE tabs (callF tabs fns n) b):=hb'
   show TE C pl n (eval (.BoolOp .And (x :: y :: s) p) env) (evE tabs (callF tabs fns n) (.and a b))
   exact T_and (ha (t:=false) H h3) hb2
  | true =>
   have hb2:TT C pl n (PySem.isTrue (.BoolOp .And (y :: s) p) env (eval (.BoolOp .And (x :: y :: s) p) env)) (evE tabs (callF tabs fns n) b):=by rw [isTrue_w]; exact hb'
   show TT C pl n (PySem.isTrue (.BoolOp .And (x :: y :: s) p) env (eval (.BoolOp .And (x :: y :: s) p) env)) (evE tabs (callF tabs fns n) (.and a b))
   exact TT_and (ha (t:=true) H h3) hb2)
theorem ok_or {a b} (ha:OKE C n a) (hb:OKE C n b):OKE C n (.or a b):=λ {t cx pl env e} H h=>andE h λh0 h=>boolB_e (P:=λe=>TX C n pl t e env (.or a b)) h λo vs p h=>andE h λh1 h =>
 decE (P:=λo=>TX C n pl t (.BoolOp o vs p) env (.or a b)) h1 (andC_e (P:=λvs=>TX C n pl t (.BoolOp .Or vs p) env (.or a b)) h λx y s h3 h4=>by
  subst h0
  have hb':TX C n pl true (.BoolOp .Or (y :: s) p) env b:=by
   cases s with
   | nil=>exact TT_one (hb (t:=true) H h4)
   | cons=>exact hb H h4
  have hb2:TT C pl n (PySem.isTrue (.BoolOp .Or (y :: s) p) env (eval (.BoolOp .Or (x :: y :: s) p) env)) (evE tabs (callF tabs fns n) b):=by rw [isTrue_w]; exact hb'
  show TT C pl n (PySem.isTrue (.BoolOp .Or (x :: y :: s) p) env (eval (.BoolOp .Or (x :: y :: s) p) env)) (evE tabs (callF tabs fns n) (.or a b))
  exact TT_or (ha (t:=true) H h3) hb2)
theorem notb {b:Bool} (h:(!b)=true):b=false:=nott h
theorem ok_cmp {op a b} (ha:OKE C n a) (hb:OKE C n b):OKE C n (.cmp op a b):=λ {t cx pl env e} H h=>cmpB_e (P:=λe=>TX C n pl t e env (.cmp op a b)) h λl os rs p h =>
 withL_e (P:=λos=>TX C n pl t (.Compare l os rs p) env (.cmp op a b)) h λo h=>withL_e (P:=λrs=>TX C n pl t (.Compare l [o] rs p) env (.cmp op a b)) h λr h=>andE h λh1 h=>andE h λh2 h=>andE h λh3 h4=>by
  obtain rfl:=of_decide_eq_true h1
  cases t with
  | false=>exact T_cmp (notb h2) (ha (t:=false) H h3) (hb (t:=false) H h4)
  | true=>exact TT_cmp (notb h2) (ha (t:=false) H h3) (hb (t:=false) H h4)
theorem ok_cmp2 {op1 op2 a b c} (ha:OKE C n a) (hb:OKE C n b) (hc:OKE C n c):OKE C n (.cmp2 op1 op2 a b c):=λ {t cx pl env e} H h=>cmpB_e (P:=λe=>TX C n pl t e env (.cmp2 op1 op2 a b c)) h λl os rs p h=>andE h λh1 h =>
 decE (P:=λos=>TX C n pl t (.Compare l os rs p) env (.cmp2 op1 op2 a b c)) h1 (withC_e (P:=λrs=>TX C n pl t (.Compare l [op1,op2] rs p) env (.cmp2 op1 op2 a b c)) h λx r h =>
 withL_e (P:=λr=>TX C n pl t (.Compare l [op1,op2] (x :: r) p) env (.cmp2 op1 op2 a b c)) h λy h=>andE h λh1 h=>andE h λh2 h=>andE h λh3 h4=>by
  cases t with
  | false=>exact T_cmp2 (notb h1) (ha (t:=false) H h2) (hb (t:=false) H h3) (hc (t:=false) H h4)
  | true=>exact TT_cmp2 (notb h1) (ha (t:=false) H h2) (hb (t:=false) H h3) (hc (t:=false) H h4))
theorem ok_ite {a b c} (hc:OKE C n c) (ha:OKE C n a) (hb:OKE C n b):OKE C n (.ite c a b) :=
 okn (p:=λcx e=>ifeB e λq x y=>chk c true cx q && (chk a false cx x && chk b false cx y)) rfl λH h=>ifeB_e (P:=VE C n _ _ _) h λq x y p h=>andE h λh1 h=>andE h λh2 h3 =>
  T_ite (hc (t:=true) H h1) (ha (t:=false) H h2) (hb (t:=false) H h3)
theorem ok_sub {a i} (ha:OKE C n a) (hi:OKE C n i):OKE C n (.sub a i) :=
 okv (p:=λcx e=>subB e λv s=>okSub s && (chk a false cx v && chk i false cx s)) rfl λH h=>subB_e (P:=VE C n _ _ _) h λv s p h=>andE h λh1 h=>andE h λh2 h3 =>
  T_sub (okSub_of h1) (ha (t:=false) H h2) (hi (t:=false) H h3)
theorem isNoneC_of {m:ME} (h:isNoneC m=true):m=.const .none:=withO_e h λv h1 h2=>by
 obtain rfl:=constM_inv h1
 cases v with
 | none=>rfl
 | _=>exact nofalse h2
theorem chkP_of {m:ME} {o:Option Expr} {cx pl env} (hm:OKE C n m) (H:EnvOk pl cx env) (h:chkP m (chk m false cx) o=true):TP C pl n o env (evE tabs (callF tabs fns n) m):=by
 cases o with
 | some x=>exact TP_some (hm (t:=false) H h)
 | none =>
  obtain rfl:=isNoneC_of h
  exact TP_none
theorem ok_slc {a lo hi} (ha:OKE C n a) (hl:OKE C n lo) (hi':OKE C n hi):OKE C n (.slc a lo hi) :=
 okn (p:=λcx e=>subB e λv s=>sliceB s λx y z=>z.isNone && (chk a false cx v && (chkP lo (chk lo false cx) x && chkP hi (chk hi false cx) y))) rfl λH h=>subB_e (P:=VE C n _ _ _) h λv s p h =>
  sliceB_e (P:=λs=>VE C n _ _ _ (.Subscript v s p)) h λx y z q h=>andE h λh1 h=>andE h λh2 h=>andE h λh3 h4=>noE (P:=λz=>VE C n _ _ _ (.Subscript v (.Slice x y z q) p)) h1
   (T_slc (ha (t:=false) H h2) (chkP_of hl H h3) (chkP_of hi' H h4))
theorem ok_subF (F:Facts C) {i f k}:OKE C n (.subF i f k) :=
 okn (p:=λcx e=>subB e λv s=>fldV cx v i f && isI s k) rfl λH h=>subB_e (P:=VE C n _ _ _) h λv s p h=>andE h λh1 h2 =>
  fldV_e (P:=λv=>VE C n _ _ _ (.Subscript v s p)) h1 λx xp ap h1=>isI_e (P:=λs=>VE C n _ _ _ (.Subscript _ s p)) h2 λq r=>W_subF F H rfl h1
theorem ok_subS {i k}:OKE C n (.subS i k) :=
 okn (p:=λcx e=>subB e λv s=>nmV cx v i && isI s k) rfl λH h=>subB_e (P:=VE C n _ _ _) h λv s p h=>andE h λh1 h2 =>
  nmV_e (P:=λv=>VE C n _ _ _ (.Subscript v s p)) h1 λx xp h1=>isI_e (P:=λs=>VE C n _ _ _ (.Subscript _ s p)) h2 λq r=>W_subS H h1
theorem ok_slcF (F:Facts C) {i f k}:OKE C n (.slcF i f k) :=
 okn (p:=λcx e=>subB e λv s=>fldV cx v i f && sliceB s λx y z=>z.isNone && (y.isNone && withO x λx=>isI x k)) rfl λH h=>subB_e (P:=VE C n _ _ _) h λv s p h=>andE h λh1 h =>
  fldV_e (P:=λv=>VE C n _ _ _ (.Subscript v s p)) h1 λx xp ap h1=>sliceB_e (P:=λs=>VE C n _ _ _ (.Subscript _ s p)) h λu y z q h=>andE h λh2 h=>andE h λh3 h =>
  noE (P:=λz=>VE C n _ _ _ (.Subscript _ (.Slice u y z q) p)) h2 (noE (P:=λy=>VE C n _ _ _ (.Subscript _ (.Slice u y none q) p)) h3 (withO_p (P:=λu=>VE C n _ _ _ (.Subscript _ (.Slice u none none q) p)) h λw h =>
  isI_e (P:=λw=>VE C n _ _ _ (.Subscript _ (.Slice (some w) none none q) p)) h λ_ _=>W_slcF F H rfl h1))
theorem ok_lenF (F:Facts C) {i f}:OKE C n (.lenF i f) :=
 okn (p:=λcx e=>biN "len" (λas=>withL as λx=>fldV cx x i f) cx e) rfl λH h=>biN_e (P:=VE C n _ _ _) h λnp args pos h1 _ h=>withL_e (P:=λargs=>VE C n _ _ _ (.Call (.Name "len" np) args [] pos)) h λx h =>
  fldV_e (P:=λx=>VE C n _ _ _ (.Call (.Name "len" np) [x] [] pos)) h λx xp ap h=>W_lenF F H rfl h h1
theorem ok_truF (F:Facts C) {i f}:OKE C n (.truF i f):=λ {t cx pl env e} H h=>andE h λh0 h=>by
 subst h0
 exact fldV_e (P:=λe=>TX C n pl true e env (.truF i f)) h λx xp ap h=>W_truF F H rfl h
theorem ok_attr (F:Facts C) {a f} (ha:OKE C n a):OKE C n (.attr a f) :=
 okv (p:=λcx e=>attrB e λv y _=>y == fnm f && (okBase v && chk a false cx v)) rfl λH h=>attrB_e (P:=VE C n _ _ _) h λv y p h=>andE h λh1 h=>andE h λh2 h3 =>
  W_attr F (eq_of_beq h1) (okBase_of h2) (ha (t:=false) H h3)
theorem ok_call (F:Facts C) (K:CallsOk C tabs fns n) {j es} (hs:OKEs C n es):OKE C n (.call j es) :=
 okv (p:=callN j (chks es)) rfl λH h=>callN_e (P:=VE C n _ _ _) h λx np args pos h1 h2 h3 h4=>W_call F H K h1 h2 h3 (hs H h4).1
theorem ok_meth (F:Facts C) (K:CallsOk C tabs fns n) {a j es} (ha:OKE C n a) (hs:OKEs C n es):OKE C n (.meth a j es) :=
 okv (p:=λcx e=>cal e λg as p=>attrB g λo y ap=>ap.endLine == p.line && (meOf j y && (okBase o && (as.all plainE && (decide (as.length < 30) && (chk a false cx o && chks es cx as)))))) rfl λH h =>
  cal_e (P:=VE C n _ _ _) h λg as p h=>attrB_e (P:=λg=>VE C n _ _ _ (.Call g as [] p)) h λo y ap h=>andE h λq1 h=>andE h λq2 h=>andE h λq3 h=>andE h λq4 h=>andE h λq5 h=>andE h λq6 q7 =>
  withO_e q2 λc q8 q9=>W_meth F H K (okBase_of q3) q4 (of_decide_eq_true q5) q1 q8 (eq_of_beq q9) (ha (t:=false) H q6) (hs H q7).1
theorem ok_new (F:Facts C) (K:CallsOk C tabs fns n) {c es} (hs:OKEs C n es):OKE C n (.new c es) :=
 okn (p:=λcx e=>cal e λg as _=>nameB g λx=>isGlobal cx.scope x && (as.all plainE && (((decide (c=0) && decide (x=("KeyInfo":Str))) || (decide (c=1) && decide (x=("Sorter":Str)))) && chks es cx as))) rfl λH h =>
  cal_e (P:=VE C n _ _ _) h λg as p h=>nameB_e (P:=λg=>VE C n _ _ _ (.Call g as [] p)) h λx np h=>andE h λq1 h=>andE h λq2 h=>andE h λq3 q4=>orE q3
   (λh=>andE h λh1 h2=>decE (P:=λc=>VE C n _ _ (.new c es) _) h1 (by obtain rfl:=of_decide_eq_true h2; exact W_new0 F H K q1 rfl q2 (hs H q4).1))
   (λh=>andE h λh1 h2=>decE (P:=λc=>VE C n _ _ (.new c es) _) h1 (by obtain rfl:=of_decide_eq_true h2; exact W_new1 F H K q1 rfl q2 (hs H q4).1))
theorem ok_bi (F:Facts C) {b es} (hs:OKEs C n es):OKE C n (.bi b es) :=
 okv (p:=λcx e=>biN (biName b) (λas=>(match biPlain b with
  | true=>as.all plainE && chks es cx as
  | false=>withC as λx r=>plainE x && ((withL r λy=>nameB y λz=>z == biTy b) && (isGlobal cx.scope (biTy b) && (gBi.contains (biTy b) && chks es cx [x]))))) cx e) rfl λ {cx pl env e} H h =>
  biN_e (P:=VE C n _ _ _) h λnp args pos h1 h2 h=>by
 cases hp:biPlain b with
 | true =>
  rw [hp] at h
  exact andE h λh4 h5=>W_bi F H rfl (biPlain_of hp) h4 h1 h2 (hs H h5).1
 | false =>
  rw [hp] at h
  exact withC_e (P:=λargs=>VE C n _ _ _ (.Call (.Name (biName b) np) args [] pos)) h λx r h=>andE h λh3 h=>andE h λh4 h=>andE h λh5 h=>andE h λh6 h7 =>
   withL_e (P:=λr=>VE C n _ _ _ (.Call (.Name (biName b) np) (x :: r) [] pos)) h4 λy h4=>nameB_e (P:=λy=>VE C n _ _ _ (.Call (.Name (biName b) np) [x,y] [] pos)) h4 λz p h4 =>
   beqE (P:=λz=>VE C n _ _ _ (.Call (.Name (biName b) np) [x,.Name z p] [] pos)) h4 (by
    obtain ⟨m,rfl,hm⟩:=(hs H h7).2 x rfl
    obtain ⟨tv,b1,b2,b3⟩:=biTy_of hp
    exact W_isi F H rfl b1 b2 b3 h3 h1 h2 h5 h6 hm)
theorem ok_join {a} (ha:OKE C n a):OKE C n (.join a) :=
 okn (p:=λcx e=>metN "join" cx (λo=>constB o λc=>c == .str ⟨#[]⟩) (λas=>withL as λx=>plainE x && chk a false cx x) e) rfl λH h=>metN_e (P:=VE C n _ _ _) h λo ap args pos h1 h2 h =>
  constB_e (P:=λo=>VE C n _ _ _ (.Call (.Attribute o "join" ap) args [] pos)) h2 λc k p h2=>withL_e (P:=λargs=>VE C n _ _ _ (.Call (.Attribute (.Constant c k p) "join" ap) args [] pos)) h λx h=>andE h λh3 h4 =>
  beqE (P:=λc=>VE C n _ _ _ (.Call (.Attribute (.Constant c k p) "join" ap) [x] [] pos)) h2 (W_join rfl h3 h1 (ha (t:=false) H h4))
theorem ok_rstrip {a} (ha:OKE C n a):OKE C n (.rstrip a) :=
 okn (p:=λcx e=>metN "rstrip" cx (λo=>okBase o && chk a false cx o) (λas=>withL as λx=>constB x λc=>c == .str ⟨#[32]⟩) e) rfl λH h=>metN_e (P:=VE C n _ _ _) h λo ap args pos h1 h2 h=>andE h2 λh2 h3 =>
  withL_e (P:=λargs=>VE C n _ _ _ (.Call (.Attribute o "rstrip" ap) args [] pos)) h λx h=>constB_e (P:=λx=>VE C n _ _ _ (.Call (.Attribute o "rstrip" ap) [x] [] pos)) h λc k p h =>
  beqE (P:=λc=>VE C n _ _ _ (.Call (.Attribute o "rstrip" ap) [.Constant c k p] [] pos)) h (W_rstrip rfl (okBase_of h2) h1 (ha (t:=false) H h3))
theorem ok_list {es} (hs:OKEs C n es):OKE C n (.list es) :=
 okn (p:=λcx e=>listB e λas=>as.all plainE && chks es cx as) rfl λH h=>listB_e (P:=VE C n _ _ _) h λas p h=>andE h λh1 h2=>W_list h1 (hs H h2).1
theorem ok_tuple {es} (hs:OKEs C n es):OKE C n (.tuple es) :=
 okn (p:=λcx e=>tupB e λas=>as.all plainE && chks es cx as) rfl λH h=>tupB_e (P:=VE C n _ _ _) h λas k p h=>andE h λh1 h2=>W_tuple h1 (hs H h2).1
theorem ok_share {a} (ha:OKE C n a):OKE C n (.share a):=okn (p:=λcx e=>chk a false cx e) rfl λH h=>T_share (ha (t:=false) H h)
theorem chkTg_of {cx:Cx} {e:Expr} {ts:List (Nat×Str)} (h:chkTg cx e ts=true) {pl env} (H:EnvOk pl cx env):TAL C pl n e env (ts.map (·.1)) :=
 orE h (λh=>nameB_e (P:=λe=>TAL C pl n e env (ts.map (·.1))) h λx p h=>withL_e (P:=λts=>TAL C pl n (.Name x p) env (ts.map (·.1))) h λq h=>andE h λh1 h2=>W_nameL H h2)
  λh=>tupB_e (P:=λe=>TAL C pl n e env (ts.map (·.1))) h λes k p h=>andE h λh1 h=>andE h λh2 h3=>W_tupleL (xs:=ts.map (·.2)) H (eq_of_beq h1) (by rw [List.length_map]; exact of_decide_eq_true h2) h3
theorem chkIfs_of {cm:ME} (hc:OKE C n cm) {cx:Cx} {ifs} (h:chkIfs cm (chk cm true) cx ifs=true) {pl env} (H:EnvOk pl cx env):TT C pl n (testsOf ifs env) (evE tabs (callF tabs fns n) cm):=by
 cases ifs with
 | nil =>
  refine withO_e (P:=TT C pl n (testsOf [] env) (evE tabs (callF tabs fns n) cm)) h λv h1 h2=>?_
  obtain rfl:=constM_inv h1
  cases v with
  | bool b=>obtain rfl:b=true:=h2; exact TT_nil
  | _=>exact nofalse h2
 | cons c r=>exact andE h λh1 h2=>emE (P:=λr=>TT C pl n (testsOf (c :: r) env) _) h1 (TT_cond (hc (t:=true) H h2))
structure CK (C:Cfg) (n:Nat) (cx:Cx) (elt cm:ME) (elt' target:Expr) (ifs:List Expr) (scope:Scope) (ts:List (Nat×Str)):Prop where
 ok:compOk cx scope ts=true
 tg:∀ {pl' env'},EnvOk pl' (compCx cx scope ts) env'→TAL C pl' n target env' (ts.map (·.1))
 ifs:∀ {pl' env'},EnvOk pl' (compCx cx scope ts) env'→TT C pl' n (testsOf ifs env') (evE tabs (callF tabs fns n) cm)
 elt:∀ {pl' env'},EnvOk pl' (compCx cx scope ts) env'→TE C pl' n (eval elt' env') (evE tabs (callF tabs fns n) elt)
theorem asyE {g:Comprehension} {P:Comprehension→Prop} (h:decide (g.is_async=0)=true) (k:P ⟨g.target,g.iter,g.ifs,0⟩):P g:=by
 obtain ⟨a,b,c,d⟩:=g
 obtain rfl:d=0:=of_decide_eq_true h
 exact k
theorem comp_e {elt tg im cm} (he:OKE C n elt) (hc:OKE C n cm) (hi:OKI C n im) {cx:Cx} {e:Expr} (h:compChk (chk elt false) (chk cm true) (chkI im) tg im cm cx e=true) {pl env} (H:EnvOk pl cx env) {P:Expr→List Nat→IT→Prop}
  (k1:∀ elt' target ifs scope pos ts i f x p ap,CK C n cx elt cm elt' target ifs scope ts→varK cx x i=true→P (.ListComp elt' [⟨target,.Attribute (.Name x p) (fnm f) ap,ifs,0⟩] scope pos) (ts.map (·.1)) (.fld i f))
  (k2:∀ elt' target iter ifs scope pos ts,CK C n cx elt cm elt' target ifs scope ts→isFld im=false→anyB iter=true→TI C pl n (eval iter env) (evI tabs (callF tabs fns n) im)→P (.ListComp elt' [⟨target,iter,ifs,0⟩] scope pos) (ts.map (·.1)) im):P e tg im :=
 lcB_e (P:=λe=>P e tg im) h λelt' gs sc pos h=>withL_e (P:=λgs=>P (.ListComp elt' gs sc pos) tg im) h λg h=>andE h λh1 h=>andE h λh2 h=>andE h λh3 h=>andE h λh4 h=>andE h λh5 h=>andE h λh6 h =>
  asyE (P:=λg=>P (.ListComp elt' [g] sc pos) tg im) h1 (decE (P:=λtg=>P _ tg im) (decide_eq_true (of_decide_eq_true h2).symm) (by
   have ck:CK C n cx elt cm elt' g.target g.ifs sc (tsOf tg g.target):=⟨h3,chkTg_of h4,chkIfs_of hc h5,λH'=>he (t:=false) H' h6⟩
   clear h1 h2 h3 h4 h5 h6
   cases im with
   | fld i f=>exact fldV_e (P:=λit=>P (.ListComp elt' [⟨g.target,it,g.ifs,0⟩] sc pos) _ _) h λx p ap h=>k1 _ _ _ _ _ _ _ _ _ _ _ ck h
   | rng es=>exact andE h λh1 h2=>k2 _ _ _ _ _ _ _ ck rfl h1 (hi H h2)
   | ex a=>exact andE h λh1 h2=>k2 _ _ _ _ _ _ _ ck rfl h1 (hi H h2)))
theorem ok_comp (F:Facts C) {elt tg im cm} (he:OKE C n elt) (hc:OKE C n cm) (hi:OKI C n im):OKE C n (.comp elt tg im cm) :=
 okn (p:=λcx e=>compChk (chk elt false) (chk cm true) (chkI im) tg im cm cx e) rfl λ {cx pl env e} H h=>comp_e he hc hi h H (P:=λe tg im=>VE C n pl env (.comp elt tg im cm) e)
  (λ_ _ _ _ _ _ _ _ _ _ _ ck h=>W_compF F H rfl h ck.ok rfl ck.tg ck.ifs ck.elt) (λ_ _ _ _ _ _ _ ck h1 h2 h3=>T_comp H (okIter_of h2) ck.ok rfl h1 h3 ck.tg ck.ifs ck.elt)
noncomputable def OKQ (C:Cfg) (n:Nat) (m:ME):Prop:=∀ {cx pl env e},EnvOk pl cx env→chkQ m cx e=true→TEq C pl n (eval e env) (evE tabs (callF tabs fns n) m)
noncomputable def OKQs (C:Cfg) (n:Nat) (m:MEs):Prop:=∀ {cx pl env es},EnvOk pl cx env→chkQs m cx es=true→TEqs C pl n (starEach es env) (evEs tabs (callF tabs fns n) m)
noncomputable abbrev VQ (C:Cfg) (n:Nat) (pl:Nat→Option Place) (env:Env) (m:ME) (e:Expr):Prop:=TEq C pl n (eval e env) (evE tabs (callF tabs fns n) m)
theorem okQ_attr (F:Facts C) {a f} (ha:OKQ C n a):OKQ C n (.attr a f) :=
 λH h=>attrB_e (P:=VQ C n _ _ _) h λv y p h=>andE h λh1 h=>andE h λh2 h3=>Q_attr F (eq_of_beq h1) (okBase_of h2) (ha H h3)
theorem okQ_call (F:Facts C) (K:CallsOk C tabs fns n) {j es} (hs:OKQs C n es):OKQ C n (.callP j es) :=
 λH h=>callN_e (P:=VQ C n _ _ _) h λx np args pos h1 h2 h3 h4=>Q_callP F H K h1 h2 h3 (hs H h4)
theorem okQ_tuple {es} (hs:OKQs C n es):OKQ C n (.tuple es):=λH h=>tupB_e (P:=VQ C n _ _ _) h λas k p h=>andE h λh1 h2=>TEq_tuple h1 (hs H h2)
theorem okQ_var {i}:OKQ C n (.var i):=λH h=>nmV_e (P:=VQ C n _ _ _) h λx p h=>Q_var H h
theorem okQs_cons {m ms} (hm:OKQ C n m) (hs:OKQs C n ms):OKQs C n (.cons m ms) :=
 λ {cx pl env es} H h=>withC_e (P:=λes=>TEqs C pl n (starEach es env) (evEs tabs (callF tabs fns n) (.cons m ms))) h λx r h=>andE h λh1 h=>andE h λh2 h3=>TEqs_cons h1 (hm H h2) (hs H h3)
theorem okQs_nil:OKQs C n .nil:=λ {cx pl env es} H h=>emE (P:=λes=>TEqs C pl n (starEach es env) (evEs tabs (callF tabs fns n) .nil)) h TEqs_nil
theorem oks_nil:OKEs C n .nil:=by
 intro cx pl env es H h
 obtain rfl:=List.isEmpty_iff.mp h
 exact ⟨Ws_nil,λx e=>nomatch e⟩
theorem oks_cons {m ms} (hm:OKE C n m) (hs:OKEs C n ms):OKEs C n (.cons m ms):=by
 intro cx pl env es H h
 refine withC_e (P:=λes=>TEs C pl n (starEach es env) (evEs tabs (callF tabs fns n) (.cons m ms))∧(∀ x,es=[x]→∃ m',MEs.cons m ms=.cons m' .nil∧TE C pl n (eval x env) (evE tabs (callF tabs fns n) m'))) h λx r h=>andE h λh1 h=>andE h λh2 h3 =>
  ⟨Ws_cons h1 (hm (t:=false) H h2) (hs H h3).1,λy e=>?_⟩
 injection e with e1 e2
 subst e1 e2
 cases ms with
 | nil=>exact ⟨m,rfl,hm (t:=false) H h2⟩
 | cons=>exact nofalse h3
theorem okI_rng (F:Facts C) {es} (hs:OKEs C n es):OKI C n (.rng es):=by
 intro cx pl env e H h
 refine biN_e (P:=λe=>TI C pl n (eval e env) (evI tabs (callF tabs fns n) (.rng es))) (nm:="range") (ch:=λas=>as.all plainE && chks es cx as) h λnp args pos h1 _ h=>andE (P:=TI C pl n (eval (.Call (.Name "range" np) args [] pos) env) (evI tabs (callF tabs fns n) (.rng es))) h λh2 h3=>?_
 intro A E Q γ sg σ s r σ' hR I e' hQ
 exact W_rng F H h2 h1 (hs H h3).1 hR I e' hQ
theorem okI_ex {a} (ha:OKE C n a):OKI C n (.ex a):=by
 intro cx pl env e H h
 exact TI_ex (ha (t:=false) H h)
theorem noQ {m} (h:∀ cx e,chkQ m cx e=false):OKQ C n m:=by
 intro cx pl env e H h'
 rw [h] at h'; cases h'
section
variable (F:Facts C) (K:CallsOk C tabs fns n)
include F K
mutual
theorem chk_ok:∀ m,OKE C n m
 | .const _=>ok_const F
 | .var _=>ok_var
 | .bin _ a b=>ok_bin (chk_ok a) (chk_ok b)
 | .neg a=>ok_neg (chk_ok a)
 | .not a=>ok_not (chk_ok a)
 | .and a b=>ok_and (chk_ok a) (chk_ok b)
 | .or a b=>ok_or (chk_ok a) (chk_ok b)
 | .cmp _ a b=>ok_cmp (chk_ok a) (chk_ok b)
 | .cmp2 _ _ a b c=>ok_cmp2 (chk_ok a) (chk_ok b) (chk_ok c)
 | .ite c a b=>ok_ite (chk_ok c) (chk_ok a) (chk_ok b)
 | .sub a b=>ok_sub (chk_ok a) (chk_ok b)
 | .slc a b c=>ok_slc (chk_ok a) (chk_ok b) (chk_ok c)
 | .subF _ _ _=>ok_subF F
 | .subS _ _=>ok_subS
 | .slcF _ _ _=>ok_slcF F
 | .lenF _ _=>ok_lenF F
 | .truF _ _=>ok_truF F
 | .attr a _=>ok_attr F (chk_ok a)
 | .call _ es=>ok_call F K (chks_ok es)
 | .callP _ _=>λ_ h=>Bool.noConfusion h
 | .meth a _ es=>ok_meth F K (chk_ok a) (chks_ok es)
 | .new _ es=>ok_new F K (chks_ok es)
 | .bi _ es=>ok_bi F (chks_ok es)
 | .join a=>ok_join (chk_ok a)
 | .rstrip a=>ok_rstrip (chk_ok a)
 | .list es=>ok_list (chks_ok es)
 | .tuple es=>ok_tuple (chks_ok es)
 | .comp a _ im c=>ok_comp F (chk_ok a) (chk_ok c) (chkI_ok im)
 | .share a=>ok_share (chk_ok a)
theorem chks_ok:∀ ms,OKEs C n ms
 | .nil=>oks_nil
 | .cons m ms=>oks_cons (chk_ok m) (chks_ok ms)
theorem chkI_ok:∀ im,OKI C n im
 | .rng es=>okI_rng F (chks_ok es)
 | .ex a=>okI_ex (chk_ok a)
 | .fld _ _=>λ_ h=>Bool.noConfusion h
end
theorem chkQ_ok (m:ME):OKQ C n m :=
 ME.rec (motive_1:=λm=>OKQ C n m) (motive_2:=λms=>OKQs C n ms) (motive_3:=λ_=>True) (λ_=>noQ λ_ _=>rfl) (λ_=>okQ_var) (λ_ _ _ _ _=>noQ λ_ _=>rfl) (λ_ _=>noQ λ_ _=>rfl) (λ_ _=>noQ λ_ _=>rfl) (λ_ _ _ _=>noQ λ_ _=>rfl) (λ_ _ _ _=>noQ λ_ _=>rfl)
  (λ_ _ _ _ _=>noQ λ_ _=>rfl) (λ_ _ _ _ _ _ _ _=>noQ λ_ _=>rfl) (λ_ _ _ _ _ _=>noQ λ_ _=>rfl) (λ_ _ _ _=>noQ λ_ _=>rfl) (λ_ _ _ _ _ _=>noQ λ_ _=>rfl) (λ_ _ _=>noQ λ_ _=>rfl) (λ_ _=>noQ λ_ _=>rfl) (λ_ _ _=>noQ λ_ _=>rfl) (λ_ _=>noQ λ_ _=>rfl) (λ_ _=>noQ λ_ _=>rfl)
  (λ_ _ ih=>okQ_attr F ih) (λ_ _ _=>noQ λ_ _=>rfl) (λ_ _ ih=>okQ_call F K ih) (λ_ _ _ _ _=>noQ λ_ _=>rfl) (λ_ _ _=>noQ λ_ _=>rfl) (λ_ _ _=>noQ λ_ _=>rfl) (λ_ _=>noQ λ_ _=>rfl) (λ_ _=>noQ λ_ _=>rfl) (λ_ _=>noQ λ_ _=>rfl) (λ_ ih=>okQ_tuple ih) (λ_ _ _ _ _ _ _=>noQ λ_ _=>rfl) (λ_ _=>noQ λ_ _=>rfl)
  okQs_nil (λ_ _ a b=>okQs_cons a b) (λ_ _=>trivial) (λ_ _=>trivial) (λ_ _=>trivial) m
end
end
noncomputable def tupChk (cx:Cx) (t:Expr) (is:List Nat) (r:Option (List Str)):Bool:=tupB t λes=>es.map nameOf == (es.map λe=>(nameOf e).getD ⟨#[]⟩).map some && (stoKs cx (es.map λe=>(nameOf e).getD ⟨#[]⟩) is && (match r with
   | none=>true
   | some ys=>decide (ys=es.map λe=>(nameOf e).getD ⟨#[]⟩) && (decide is.Nodup && (is.length == 2 || is.length == 3))))
@[irreducible] noncomputable def asE (f:Expr→Expr→Bool) (st:Stmt):Bool:=asgS st λts v=>withL ts λt=>f t v
theorem asE_e {f st} {P:Stmt→Prop} (h:asE f st=true) (k:∀ t v p,f t v=true→P (.Assign [t] v p)):P st:=by
 unfold asE at h
 exact asgS_e h λts v p h=>withL_e (P:=λts=>P (.Assign ts v p)) h λt h=>k t v p h
@[irreducible] noncomputable def exE (f:Expr→Bool) (st:Stmt):Bool:=expS st f
theorem exE_e {f st} {P:Stmt→Prop} (h:exE f st=true) (k:∀ x p,f x=true→P (.Expr x p)):P st:=by
 unfold exE at h
 exact expS_e h k
@[irreducible] noncomputable def auE (f:Expr→Operator→Expr→Bool) (st:Stmt):Bool:=augS st f
theorem auE_e {f st} {P:Stmt→Prop} (h:auE f st=true) (k:∀ t o v p,f t o v=true→P (.AugAssign t o v p)):P st:=by
 unfold auE at h
 exact augS_e h k
noncomputable def compM:ME→Option (ME×List Nat×IT×ME)
 | .comp a b c d=>some (a,b,c,d)
 | _=>none
theorem compM_inv {m:ME} {q} (h:compM m=some q):m=.comp q.1 q.2.1 q.2.2.1 q.2.2.2:=by
 cases m with
 | comp=>obtain rfl:=sj h; rfl
 | _=>exact nsm h
noncomputable def chkA (a:ME) (i:Nat) (cx:Cx) (x:Str) (v:Expr):Bool:=match isComp v with
 | false=>stoK cx x i && chk a false cx v
 | true=>withO (compM a) λq=>locK cx x i && compChk (chk q.1 false) (chk q.2.2.2 true) (chkI q.2.2.1) q.2.1 q.2.2.1 q.2.2.2 cx v
mutual
noncomputable def chkS:MS→Cx→Stmt→Bool
 | .assign i a,cx,st=>asE (λt v=>nameB t λx=>chkA a i cx x v) st
 | .assignT is a,cx,st=>asE (λt v=>!isComp v && (chk a false cx v && withO (swapOf cx.scope [t] v) λr=>tupChk cx t is r)) st
 | .setAttr i f a,cx,st=>asE (λt v=>fldV cx t i f && (decide (f < 9) && (!isComp v && chk a false cx v))) st
 | .setItem i k a,cx,st=>asE (λt v=>subB t λw s=>nmV cx w i && (isI s k && (decide (0≤k) && (!isComp v && chk a false cx v)))) st
 | .aug i op a,cx,st=>auE (λt o v=>decide (o=op) && (augOp op && ((nameB t λx=>varK cx x i && stoK cx x i) && chk a false cx v))) st
 | .augAttr i f op a,cx,st=>auE (λt o v=>decide (o=op) && (augOp op && (fldV cx t i f && chk a false cx v))) st
 | .append i a,cx,st=>exE (metN "append" cx (λo=>nmV cx o i) λas=>withL as λy=>plainE y && chk a false cx y) st
 | .extend i a,cx,st=>exE (metN "extend" cx (λo=>nmV cx o i) λas=>withL as λy=>plainE y && chk a false cx y) st
 | .reverse i,cx,st=>exE (metN "reverse" cx (λo=>nmV cx o i) λas=>as.isEmpty) st
 | .fappend i f a,cx,st=>exE (metN "append" cx (λo=>fldV cx o i f) λas=>withL as λy=>plainE y && chkQ a cx y) st
 | .expr a,cx,st=>exE (λx=>!isComp x && chk a false cx x) st
 | .ret a,cx,st=>retS st λv=>withO v λx=>chk a false cx x
 | .ite c a b,cx,st=>ifsS st λt p q=>chk c true cx t && (chkSs a cx p && chkSs b cx q)
 | .whl c b,cx,st=>whlS st λt p q=>q.isEmpty && (chk c true cx t && chkSs b cx p)
 | .for_ tg im b,cx,st=>for_S st λt it p q=>q.isEmpty && (anyB it && ((withL tg λi=>nameB t λx=>stoK cx x i) && (chkI im cx it && chkSs b cx p)))
 | .stuck,_,_=>true
noncomputable def chkSs:MSs→Cx→List Stmt→Bool
 | .nil,_,l=>l.isEmpty
 | .cons s r,cx,l=>withC l λx t=>chkS s cx x && chkSs r cx t
end
section
variable {C:Cfg} {n:Nat}
noncomputable def OKS (C:Cfg) (n:Nat) (m:MS):Prop:=∀ {cx pl env st},EnvOk pl cx env→chkS m cx st=true→TS C pl n (exec st env) (exS tabs (callF tabs fns n) m)
noncomputable def OKSs (C:Cfg) (n:Nat) (m:MSs):Prop:=∀ {cx pl env l},EnvOk pl cx env→chkSs m cx l=true→TS C pl n (execs l env) (exSs tabs (callF tabs fns n) m)
noncomputable abbrev VS (C:Cfg) (n:Nat) (pl:Nat→Option Place) (env:Env) (m:MS) (st:Stmt):Prop:=TS C pl n (exec st env) (exS tabs (callF tabs fns n) m)
theorem okS_assign (F:Facts C) (K:CallsOk C tabs fns n) {i a}:OKS C n (.assign i a):=λ {cx pl env st} H h=>asE_e (P:=VS C n pl env _) h λt v p h=>nameB_e (P:=λt=>VS C n pl env _ (.Assign [t] v p)) h λx q h=>by
 unfold chkA at h
 cases hv:isComp v with
 | false =>
  rw [hv] at h
  exact andE h λh4 h5=>W_assign H h4 hv (chk_ok F K a (t:=false) H h5)
 | true =>
  rw [hv] at h
  refine withO_e h λc k1 h=>andE h λh4 h5=>?_
  obtain rfl:=compM_inv k1
  exact comp_e (chk_ok F K c.1) (chk_ok F K c.2.2.2) (chkI_ok F K c.2.2.1) h5 H (P:=λv tg im=>VS C n pl env (.assign i (.comp c.1 tg im c.2.2.2)) (.Assign [.Name x q] v p))
   (λ_ _ _ _ _ _ _ _ _ _ _ ck h=>W_assignCF F H h4 rfl h ck.ok rfl ck.tg ck.ifs ck.elt) (λ_ _ _ _ _ _ _ ck h1 h2 h3=>W_assignC H h4 (okIter_of h2) ck.ok rfl h1 h3 ck.tg ck.ifs ck.elt)
theorem okS_assignT (F:Facts C) (K:CallsOk C tabs fns n) {is a}:OKS C n (.assignT is a):=λ {cx pl env st} H h=>asE_e (P:=VS C n pl env _) h λt v p h=>andE h λh1 h=>andE h λh2 h=>withO_e h λr h5 h =>
 tupB_e (P:=λt=>swapOf cx.scope [t] v=some r→VS C n pl env _ (.Assign [t] v p)) h (λes k q h=>andE h λh3 h=>andE h λh4 h h5=>W_assignT (r:=r) H (eq_of_beq h3) h4 (notb h1) h5 (by
 cases r with
 | none=>exact .inl rfl
 | some ys=>exact andE h λg1 h=>andE h λg2 h=>.inr ⟨congrArg some (of_decide_eq_true g1),of_decide_eq_true g2,orE h (λh=>.inl (eq_of_beq h)) (λh=>.inr (eq_of_beq h))⟩) (chk_ok F K a (t:=false) H h2)) h5
theorem okS_setAttr (F:Facts C) (K:CallsOk C tabs fns n) {i f a}:OKS C n (.setAttr i f a):=λ {cx pl env st} H h=>asE_e (P:=VS C n pl env _) h λt v p h=>andE h λh1 h=>andE h λh2 h=>andE h λh3 h4 =>
 fldV_e (P:=λt=>VS C n pl env _ (.Assign [t] v p)) h1 λx xp ap h1=>W_setAttr F H rfl (of_decide_eq_true h2) h1 (notb h3) (chk_ok F K a (t:=false) H h4)
theorem okS_setItem (F:Facts C) (K:CallsOk C tabs fns n) {i k a}:OKS C n (.setItem i k a):=λ {cx pl env st} H h=>asE_e (P:=VS C n pl env _) h λt v p h=>subB_e (P:=λt=>VS C n pl env _ (.Assign [t] v p)) h λw s q h =>
 andE h λh1 h=>andE h λh2 h=>andE h λh3 h=>andE h λh4 h5=>nmV_e (P:=λw=>VS C n pl env _ (.Assign [.Subscript w s q] v p)) h1 λx xp h1=>isI_e (P:=λs=>VS C n pl env _ (.Assign [.Subscript _ s q] v p)) h2 λr u =>
 W_setItem H h1 (of_decide_eq_true h3) (notb h4) (chk_ok F K a (t:=false) H h5)
theorem okS_aug (F:Facts C) (K:CallsOk C tabs fns n) {i op a}:OKS C n (.aug i op a):=λ {cx pl env st} H h=>auE_e (P:=VS C n pl env _) h λt o v p h=>andE h λh1 h=>andE h λh2 h=>andE h λh3 h4 =>
 decE (P:=λo=>VS C n pl env _ (.AugAssign t o v p)) h1 (nameB_e (P:=λt=>VS C n pl env _ (.AugAssign t op v p)) h3 λx q h=>andE h λg1 g2=>W_aug H g1 g2 h2 (chk_ok F K a (t:=false) H h4))
theorem okS_augAttr (F:Facts C) (K:CallsOk C tabs fns n) {i f op a}:OKS C n (.augAttr i f op a):=λ {cx pl env st} H h=>auE_e (P:=VS C n pl env _) h λt o v p h=>andE h λh1 h=>andE h λh2 h=>andE h λh3 h4 =>
 decE (P:=λo=>VS C n pl env _ (.AugAssign t o v p)) h1 (fldV_e (P:=λt=>VS C n pl env _ (.AugAssign t op v p)) h3 λx xp ap h=>W_augAttr F H rfl h h2 (chk_ok F K a (t:=false) H h4))
theorem okS_append (F:Facts C) (K:CallsOk C tabs fns n) {i a}:OKS C n (.append i a):=λ {cx pl env st} H h=>exE_e (P:=VS C n pl env _) h λe p h=>metN_e (P:=λe=>VS C n pl env _ (.Expr e p)) h λo ap args pos h1 h2 h =>
 nmV_e (P:=λo=>VS C n pl env _ (.Expr (.Call (.Attribute o _ ap) args [] pos) p)) h2 λx xp h2=>withL_e (P:=λargs=>VS C n pl env _ (.Expr (.Call _ args [] pos) p)) h λy h=>andE h λh3 h4=>W_append H h2 h3 h1 (chk_ok F K a (t:=false) H h4)
theorem okS_extend (F:Facts C) (K:CallsOk C tabs fns n) {i a}:OKS C n (.extend i a):=λ {cx pl env st} H h=>exE_e (P:=VS C n pl env _) h λe p h=>metN_e (P:=λe=>VS C n pl env _ (.Expr e p)) h λo ap args pos h1 h2 h =>
 nmV_e (P:=λo=>VS C n pl env _ (.Expr (.Call (.Attribute o _ ap) args [] pos) p)) h2 λx xp h2=>withL_e (P:=λargs=>VS C n pl env _ (.Expr (.Call _ args [] pos) p)) h λy h=>andE h λh3 h4=>W_extend H h2 h3 h1 (chk_ok F K a (t:=false) H h4)
theorem okS_reverse {i}:OKS C n (.reverse i):=λ {cx pl env st} H h=>exE_e (P:=VS C n pl env _) h λe p h=>metN_e (P:=λe=>VS C n pl env _ (.Expr e p)) h λo ap args pos h1 h2 h =>
 nmV_e (P:=λo=>VS C n pl env _ (.Expr (.Call (.Attribute o _ ap) args [] pos) p)) h2 λx xp h2=>emE (P:=λargs=>VS C n pl env _ (.Expr (.Call _ args [] pos) p)) h (W_reverse H h2 h1)
theorem okS_fappend (F:Facts C) (K:CallsOk C tabs fns n) {i f a}:OKS C n (.fappend i f a):=λ {cx pl env st} H h=>exE_e (P:=VS C n pl env _) h λe p h=>metN_e (P:=λe=>VS C n pl env _ (.Expr e p)) h λo ap args pos h1 h2 h =>
 fldV_e (P:=λo=>VS C n pl env _ (.Expr (.Call (.Attribute o _ ap) args [] pos) p)) h2 λx xp bp h2=>withL_e (P:=λargs=>VS C n pl env _ (.Expr (.Call _ args [] pos) p)) h λy h=>andE h λh3 h4=>W_fappend F H rfl h2 h3 h1 (chkQ_ok F K a H h4)
theorem okS_expr (F:Facts C) (K:CallsOk C tabs fns n) {a}:OKS C n (.expr a):=λ {cx pl env st} H h=>exE_e (P:=VS C n pl env _) h λe p h=>andE h λh1 h2=>TS_expr H (notb h1) (chk_ok F K a (t:=false) H h2)
theorem okS_ret (F:Facts C) (K:CallsOk C tabs fns n) {a}:OKS C n (.ret a):=λ {cx pl env st} H h=>retS_e (P:=VS C n pl env _) h λv p h=>withO_p (P:=λv=>VS C n pl env _ (.Return v p)) h λx h=>TS_ret (chk_ok F K a (t:=false) H h)
theorem okS_ite (F:Facts C) (K:CallsOk C tabs fns n) {c a b} (ha:OKSs C n a) (hb:OKSs C n b):OKS C n (.ite c a b):=λ {cx pl env st} H h=>ifsS_e (P:=VS C n pl env _) h λt p q u h=>andE h λh1 h=>andE h λh2 h3 =>
 TS_ite (chk_ok F K c (t:=true) H h1) (ha H h2) (hb H h3)
theorem okS_whl (F:Facts C) (K:CallsOk C tabs fns n) {c b} (hb:OKSs C n b):OKS C n (.whl c b):=λ {cx pl env st} H h=>whlS_e (P:=VS C n pl env _) h λt p q u h=>andE h λh1 h=>andE h λh2 h3 =>
 emE (P:=λq=>VS C n pl env _ (.While t p q u)) h1 (TS_whl (chk_ok F K c (t:=true) H h2) (hb H h3))
theorem okS_for (F:Facts C) (K:CallsOk C tabs fns n) {tg im b} (hb:OKSs C n b):OKS C n (.for_ tg im b):=λ {cx pl env st} H h=>for_S_e (P:=VS C n pl env _) h λt it p q u h=>andE h λh1 h=>andE h λh2 h=>andE h λh3 h=>andE h λh4 h5 =>
 emE (P:=λq=>VS C n pl env _ (.For t it p q u)) h1 (withL_e (P:=λtg=>VS C n pl env (.for_ tg im b) _) h3 λi h3=>nameB_e (P:=λt=>VS C n pl env _ (.For t it p [] u)) h3 λx xp h3 =>
  TS_for (okIter_of h2) (W_name H h3) (chkI_ok F K im H h4) (hb H h5))
theorem okSs_cons {s r} (h1:OKS C n s) (h2:OKSs C n r):OKSs C n (.cons s r):=λ {cx pl env l} H h=>withC_e (P:=λl=>TS C pl n (execs l env) (exSs tabs (callF tabs fns n) (.cons s r))) h λx t h=>andE h λh3 h4=>TSs_cons (h1 H h3) (h2 H h4)
theorem okSs_nil:OKSs C n .nil:=by
 intro cx pl env l H h
 obtain rfl:=List.isEmpty_iff.mp h
 exact TSs_nil
theorem chkSs_ok (F:Facts C) (K:CallsOk C tabs fns n) (m:MSs):OKSs C n m :=
 MSs.rec (motive_1:=λs=>OKS C n s) (motive_2:=λs=>OKSs C n s) (λ_ _=>okS_assign F K) (λ_ _=>okS_assignT F K) (λ_ _ _=>okS_setAttr F K) (λ_ _ _=>okS_setItem F K) (λ_ _ _=>okS_aug F K) (λ_ _ _ _=>okS_augAttr F K)
  (λ_ _=>okS_append F K) (λ_ _=>okS_extend F K) (λ_=>okS_reverse) (λ_ _ _=>okS_fappend F K) (λ_=>okS_expr F K) (λ_=>okS_ret F K) (λ_ _ _ a b=>okS_ite F K a b) (λ_ _ b=>okS_whl F K b) (λ_ _ _ b=>okS_for F K b) (λ_ _=>TS_stuck) okSs_nil (λ_ _ a b=>okSs_cons a b) m
end
noncomputable def srcTab:List Stmt:=[stm 10,stm 11,stm 12,stm 13,stm 14,stm 15,stm 16,stm 17,stm 28,stm 29,stm 30,stm 31,stm 32,stm 33,stm 34,stm 35,stm 36,stm 37,stm 38,stm 39,stm 40,stm 41,mth 42 0,mth 42 1,mth 42 2,mth 42 3,stm 43,stm 44,stm 45,stm 47,stm 48,mth 49 0,mth 49 1,mth 49 2,mth 49 3,mth 49 4,mth 49 5,mth 49 6,mth 49 7,mth 49 8,stm 51,stm 52,stm 53,stm 54,stm 55,stm 56,stm 57,stm 58,stm 59,stm 60,stm 61,stm 62]
noncomputable def xsTab:List (List String):=[["text","found","sign","code"],
 ["octet"],
 ["octets","signs","at","lead","code"],
 ["octets","at","lead","follow","code","least","place"],
 ["text","signs","sign"],
 ["v"],
 ["n"],
 ["text","collation","end"],
 ["n","rest","found","turn"],
 ["octets","at","number","turn","octet"],
 ["n","size","rest","found","turn"],
 ["octets","at","size","number","place"],
 ["n","kind","half"],
 ["v","kind"],
 ["t"],
 ["v","kind"],
 ["octets","at","kind","size","body"],
 ["many","own"],
 ["values","types","bodies","v","kind"],
 ["octets","end","at","types","kind"],
 ["octets","types","at","values","kind"],
 ["octets","i","end","place","at","column","kind"],
 ["self","collations","descending"],
 ["self"],
 ["self","place"],
 ["self","place"],
 ["octets","found","octet"],
 ["v","collation","kind","found"],
 ["values","info","found","place","part","octet"],
 ["left","right","found","at","to"],
 ["rows","runs","paired","index"],
 ["self","info","run_size"],
 ["self","record","values","key"],
 ["self"],
 ["self"],
 ["self"],
 ["self"],
 ["self"],
 ["self"],
 ["self","index"],
 ["script","k","cell","big","mixed"],
 ["source","top","digit"],
 ["source","things"],
 ["value"],
 ["value","collation"],
 ["one","other","info","at","collation","is_down","a","b","sign"],
 ["rows","info","found","row","at"],
 ["source"],
 ["sorter","runs","gathered","info","told"],
 ["sorter","rows","info","due","is_there","row"],
 ["source","info","turn","size","sorter","rows","runs","gathered","row","more"],
 ["script","told","info","rows","row"]]
noncomputable def srcOf (j:Nat):Stmt:=(srcTab[j]?).getD (.Pass ⟨0,0,0,0⟩)
noncomputable def xsOf (j:Nat):List Str:=((xsTab[j]?).getD []).map Str.ofString
noncomputable def isOk (j:Nat):Bool:=withO (fns j) λfn=>chkSs fn.body ⟨fnScope (srcOf j),(xsOf j).zipIdx⟩ (fnBody (srcOf j))
theorem allOk:(List.range 52).all isOk=true:=by kernel_rfl
theorem fns_lt {j:Nat} {fn:Fn} (h:fns j=some fn):j < 52:=by
 rcases Nat.lt_or_ge j 52 with q | q
 ·exact q
 ·obtain ⟨k,rfl⟩:=Nat.exists_eq_add_of_le' q
  exact nsm h
theorem tsAll {C:Cfg} {n:Nat} (F:Facts C) (K:CallsOk C tabs fns n) (j:Nat) {fn:Fn} (h:fns j=some fn) {pl env} (H:EnvOk pl ⟨fnScope (srcOf j),(xsOf j).zipIdx⟩ env):TS C pl n (execs (fnBody (srcOf j)) env) (exSs tabs (callF tabs fns n) fn.body):=by
 refine withO_e (P:=TS C pl n (execs (fnBody (srcOf j)) env) (exSs tabs (callF tabs fns n) fn.body)) (List.all_eq_true.mp allOk j (List.mem_range.mpr (fns_lt h))) λfn' h2 h3=>?_
 obtain rfl:=sj (h.symm.trans h2)
 intro A E Q γ sg σ s r σ' hR I e hQ
 exact chkSs_ok F K _ H h3 hR I e hQ
end Mine
end
section
open PySem PySem.W PyProof.Rows PySem.Calls
open Sem (wp)
namespace Mine
noncomputable abbrev callerΓ:Ctx:=⟨.builtin "claim.caller" {},none,none,[],none⟩
theorem caller_nobad:NoBad callerΓ:=⟨by decide +kernel,λc h=>nomatch h⟩
theorem ends_N {prog:Program} {w:World} {t:Sem Fin} {s:Shared} {R:Result→Shared→Prop} (hreg:s.asleep)
  (h:wpN (model prog w) callerA t (λfin s'=>∃ f,fin=.done f∧R (.ok f) s'∧leftWithCleanup s'.gens=false) (λe s'=>R (.error e) s'∧leftWithCleanup s'.gens=false) s) :
  ∃ n r s' s'',runN (denote table) prog w n s ⟨t,.builtin "claim.caller" {},default,[]⟩=.halted (outcomeOf r) s' ∧
   schedN (denote table) prog w n (.single s ⟨t,.builtin "claim.caller" {},default,[]⟩)=.halted (outcomeOf r) s'∧s'.forget=s''.forget∧R r s'':=by
 have key:wp (model prog w) callerΓ t (Sem.finPost (model prog w) callerΓ λr s'=>R r s'∧leftWithCleanup s'.gens=false) (λe _ s'=>R (.error e) s'∧leftWithCleanup s'.gens=false) default s:=by
  refine Sem.wp_mono _ _ _ (λfin p' s' q=>?_) (λ_ _ _ q=>q) _ _ (h callerΓ default caller_in caller_nobad)
  obtain ⟨f,rfl,hf⟩:=q
  exact hf
 obtain ⟨n,r,s₁,s₂,hs,hn,hfo,hR⟩:=wp_halts_full (M:=model prog w) (R:=R) hreg key
 exact ⟨n,r,s₂,s₁,hn,hs,hfo,hR⟩
theorem callFrom_N {c:ClaimW} {tree:List Value→Sem Fin} {w:World} {s:Shared} {free:Addr→Prop} {gens:Prop} {kept:Heap→Prop} (hz:s.asleep) (hgens:s.gens=#[])
  (hspec:∀ args,c.pre args=true→WData.layableAll args=true→∀ ord:List DictEntry→List DictEntry,(∀ l,(ord l).Perm l) →
   ∃ vs s₁,layAllW c.records (classAt s.heap) w.params ord args s=some (vs,s₁) ∧
    wpN (model c.prog w) callerA (tree vs) (λfin s'=>∃ f,fin=.done f∧(c.Ends s args vs s₁ (.ok f) s'∧s'.os=s.os∧AllBare s'.gens∧kept s'.heap))
     (λe s'=>c.Ends s args vs s₁ (.error e) s'∧s'.os=s.os∧AllBare s'.gens∧kept s'.heap) s₁) :
  c.CallFrom (λvs=>⟨tree vs,.builtin "claim.caller" {},default,[]⟩) w free gens kept s:=by
 intro args hpre hlay ord hord
 refine (hspec args hpre hlay ord hord).elim λvs z=>z.elim λs₁ z=>?_
 have hl:s₁.heap.life=s.heap.life:=(layAllW_rest _ _ _ z.1).2.2.2
 refine (ends_N (prog:=c.prog) (w:=w) (t:=tree vs) (s:=s₁) (R:=λr s'=>c.Ends s args vs s₁ r s'∧s'.os=s.os∧kept s'.heap) (Shared.asleep_of_life hl hz)
  (wpN_mono z.2 (λfin s' q=>q.imp λf q=>⟨q.1,⟨q.2.1,q.2.2.1,q.2.2.2.2⟩,leftWithCleanup_false_of_bare q.2.2.2.1⟩) λe s' q=>⟨⟨q.1,q.2.1,q.2.2.2⟩,leftWithCleanup_false_of_bare q.2.2.1⟩)).elim λk q=>q.elim λr q=>q.elim λsa q=>q.elim λsb q=>?_
 have eq:=Shared.forget_eq q.2.2.1
 have hlife:sa.heap.life=s.heap.life:=(runN_life _ _ _ q.1).trans hl
 refine ⟨vs,s₁,z.1,k,_,sa,q.2.1,?_,(λ_ i x hx=>by rw [hgens] at hx; simp at hx),eq.1 ▸ q.2.2.2.2.2,by rw [hlife],Shared.rest_eq (eq.2.2.2.1.trans q.2.2.2.2.1)⟩
 have ends:=q.2.2.2.1.congr eq.1
 clear eq hlife q
 exact ends.elim (λh=>h.elim λv d=>.inl ⟨v,by rw [d.1]; rfl,d.2.1,d.2.2.1,d.2.2.2.1,λb o y _=>d.2.2.2.2.1 b o y,d.2.2.2.2.2⟩)
  λh=>h.elim λe h=>h.elim λob h=>h.elim λcls d=>.inr ⟨e,ob,cls,by rw [d.1]; rfl,d.2.1,d.2.2.1,d.2.2.2.1,d.2.2.2.2.1,λb o y _=>d.2.2.2.2.2 b o y⟩
noncomputable abbrev WalkON (q:Program) (loose:List Str) (XP:(Str→Option Value)→Heap→Prop) (YP:World→Heap→Prop) (r:RowW) (d:DefRec) (kwd:List (Str×Expr)):Prop :=
 ∀ (w:World) (s₀ s₁:Shared) (mg mb:Str→Option Value),Ground q loose r.records XP w s₀ mg mb s₁.heap→YP w s₁.heap→∀ (a:Addr),mg d.name=some (.ref a)→s₁.gens=#[] →
  ∀ (args:List WData) (vals:List Value) (as:List Addr),r.claim.pre args=true→WData.layableAll args=true→ReadsAllW r.records (classAt s₀.heap) s₁.heap vals args as→WellAll w.params s₁.heap vals args→(∀ a∈as,(a == sysModules)=false) →
   wpN (model r.prog w) callerA (PySem.call (.ref a) vals) (λv s'=>GoodWG r.claim (classAt s₀.heap) (ExcName.means s₀.heap) args s₁ (.ok (.ret v)) s')
    (λe s'=>GoodWG r.claim (classAt s₀.heap) (ExcName.means s₀.heap) args s₁ (.error e) s') s₁
theorem PySem.W.holds_open {r:OpenRow} {q:Program} {loose:List Str} {Xt:Shared→Bool} {XP:(Str→Option Value)→Heap→Prop} {α:Type} {Yf:Shared→α} {Ya:World→α} {YP:World→Heap→Prop} {d:DefRec} {kwd:List (Str×Expr)} {N:Nat}
  (left:LeftO r.prog q loose Xt Yf Ya N) (hY:∀ w s,Yf s=Ya w→YP w s.heap) (hYk:∀ w h h',YP w h→(∀ b o,h.get? b=some o→h'.get? b=some o)→YP w h')
  (hX:∀ s,Xt s=true→XP (s.heap.nsMap mainGlobals) s.heap) (hXk:∀ mg h h',XP mg h→(∀ b o,h.get? b=some o→h'.get? b=some o)→XP mg h')
  (hdef:defOf q r.name=some (d,kwd)) (hp:r.prog.theDef r.name=some (d.params,d.body,d.scope)) (hk:kwWritten? d.params.kwonlyargs d.params.kw_defaults=some kwd) (hRf:∀ s,Xt s=true→RecFacts r.records s.heap) (hwr:(!r.writes || r.records.isEmpty)=true)
  (k1:r.wellSaid=true) (ok:(chainsOk q && opensWell r.prog && (frees r.toRowW && r.within.isEmpty))=true) (hb:r.prog.bare) (hw:r.toRowW.promised)
  (call:WalkON q loose XP YP r.toRowW d kwd):r.Holds:=by
 refine ⟨k1,hw,?_⟩
 have okk:=Bool.and_eq_true_iff.mp ok
 have hch:=(Bool.and_eq_true_iff.mp okk.1).1
 have o1:=(Bool.and_eq_true_iff.mp okk.1).2
 have k56:=Bool.and_eq_true_iff.mp okk.2
 have fp:=frees_parts k56.1
 refine ⟨⟨hb,o1,by show r.toRowW.makers.map _=[]; rw [fp.2.2.2.2]; rfl⟩,hw.witness,λw=>⟨(left.behind hX hch w).1,λs' hs'=>?_⟩⟩
 refine ((left.behind (XP:=λmg h=>XP mg h∧RecFacts r.records h) (λs hs=>⟨hX s hs,hRf s hs⟩) hch w).2 s' hs').elim λs₀ z=>z.2.2.elim λs y=>?_
 have G00:=y.2.2.2.2.1
 have G0:Ground q loose [] XP w s (s.heap.nsMap mainGlobals) (s.heap.nsMap builtinsNs) s.heap:=⟨G00.T,G00.B,G00.D,G00.TE,G00.TD,G00.W,G00.X.1,G00.cls,G00.has,G00.apart,G00.once,G00.K⟩
 have RF:=G00.X.2
 refine ⟨s₀,z.1,z.2.1,s,y.1,λn hn=>?_,RF.1,RF.2.1,?_⟩
 ·obtain rfl:n=r.name:=by split at hn <;> simp_all
  exact pinned_of_view y.2.2.2.1 G0 hdef hp hk
 have hgens:s.gens=#[]:=Array.eq_empty_of_size_eq_zero (beq_iff_eq.mp y.2.2.1)
 have G:Ground q loose r.records XP w s _ _ s.heap:=RF.ground G0
 refine callFrom_N (c:=r.toRowW.claim) y.2.1 hgens λargs hpre hlay ord hord=>?_
 refine (Option.isSome_iff_exists.mp (layAllW_isSome (P:=w.params) (ord:=ord) G.has args r.args s (pre_splitW hpre).1)).elim λvs1 hlaid=>?_
 have keeps:=layAllW_keeps _ _ _ hlaid
 have hal:=layAllW_rest _ _ _ hlaid
 refine (reads_layAllW hord _ _ _ hlaid hlay vs1.2.heap (λ_ _ e=>e)).elim λas u=>?_
 have L:Laid r.records w s vs1.2 args vs1.1 as:=⟨⟨ord,hord,hlaid⟩,u.1,u.2.1,u.2.2,keeps,hal.1.trans hgens,hal.2.2.1⟩
 have G₁:=G.keeps hXk keeps
 refine (G₁.fn hdef).elim λa f=>?_
 have hi:=ident_freeW fp.2.1 fp.2.2.1 fp.2.2.2.1
 have hwi:r.toRowW.claim.within=[]:=List.isEmpty_iff.mp k56.2
 have hmn:=defOf_name hdef
 refine ⟨vs1.1,vs1.2,hlaid,?_⟩
 have h1:s.heap.nsMap mainGlobals r.name=some (.ref a):=f.elim λo f=>f.elim λpm f=>f.elim λcd f=>f.elim λdoc f=>f.elim λdV f=>f.elim λkV f=>f.1
 have h:=call w s vs1.2 _ _ G₁ (hYk _ _ _ (hY w s y.2.2.2.2.2) keeps) a (hmn ▸ h1) L.gens args vs1.1 as hpre hlay L.reads L.well (L.low G.low)
 refine wpN_step (wpAny_nsGet G₁.T.g ?_)
 rw [h1]
 have lst:=λ {r' s'} (g:GoodWG r.toRowW.claim (classAt s.heap) (ExcName.means s.heap) args vs1.2 r' s')=>g.laid (c:=r.toRowW.claim) fp.1 hwi hi L
 exact wpN_bind (wpN_mono h (λv s' g=>wpN_pure ⟨_,rfl,(lst g).1,(lst g).2.1,(lst g).2.2,λq=>⟨namesKept_of y.1 y.2.2.2.1 _ keeps g.2.1.old,noTable hwr q⟩⟩) λe s' g =>
  ⟨(lst g).1,(lst g).2.1,(lst g).2.2,λq=>⟨namesKept_of y.1 y.2.2.2.1 _ keeps g.2.1.old,noTable hwr q⟩⟩)
end Mine
end
section
open PySem PySem.W PyProof.Rows PySem.Calls
namespace Mine
noncomputable def fnA:Nat→Addr
 | 0=>77
 | 1=>84
 | 2=>91
 | 3=>98
 | 4=>105
 | 5=>112
 | 6=>119
 | 7=>126
 | 8=>134
 | 9=>141
 | 10=>148
 | 11=>155
 | 12=>162
 | 13=>169
 | 14=>176
 | 15=>183
 | 16=>190
 | 17=>197
 | 18=>204
 | 19=>211
 | 20=>218
 | 21=>225
 | 22=>239
 | 23=>246
 | 24=>253
 | 25=>260
 | 26=>274
 | 27=>281
 | 28=>288
 | 29=>295
 | 30=>300
 | 31=>315
 | 32=>322
 | 33=>329
 | 34=>336
 | 35=>343
 | 36=>350
 | 37=>357
 | 38=>364
 | 39=>371
 | 40=>385
 | 41=>392
 | 42=>399
 | 43=>406
 | 44=>411
 | 45=>418
 | 46=>423
 | 47=>430
 | 48=>435
 | 49=>440
 | 50=>445
 | 51=>452
 | _=>0
noncomputable def clsA:Nat→Addr
 | 0=>263
 | _=>374
section
variable {C:Cfg} {n:Nat}
end
noncomputable def noFd:FuncData:=fnOf "" "" { posonlyargs:=[],args:=[],vararg:=none,kwonlyargs:=[],kw_defaults:=[],kwarg:=none,defaults:=[] } [] noScope .none .none .none .none none .none .none
noncomputable def fdAt (K:Frag) (a:Addr):FuncData:=match K.lookup a with
 | some ⟨_,_,.func fd,_⟩=>fd
 | _=>noFd
noncomputable def fdOk (K:Frag) (fd:FuncData) (xs:List Str) (np nv:Nat):Bool :=
 codeIn K fd.code fd.qualname && !fd.scope.isCoroutine && !fd.scope.isGenerator && fd.scope.kind == .function && namesOk fd.scope xs np && Nat.ble xs.length nv
structure TieK (K:Frag) (j:Nat) (fn:Fn):Prop where
 eqs:(fnAt K (fnA j),(fdAt K (fnA j)).body,(fdAt K (fnA j)).scope,(fdAt K (fnA j)).globals,(fdAt K (fnA j)).builtins,(fdAt K (fnA j)).closure,fdOk K (fdAt K (fnA j)) (xsOf j) fn.np fn.nv)=(true,.stmts (fnBody (srcOf j)),fnScope (srcOf j),mainGlobals,builtinsNs,[],true)
 bind:∀ {γ sg} {s:Shared} {vs us},K.In s.heap→Reps γ sg s.heap vs us→(padArgs fn vs).length=fn.np→∃ ws,Reps γ sg s.heap (padArgs fn vs) ws∧BindsTo s (fdAt K (fnA j)) ⟨us,[]⟩ (((xsOf j).take fn.np).zip ws)
theorem fdAt_of {K:Frag} {a:Addr} (h:fnAt K a=true):∃ oc od osl,K.lookup a=some ⟨oc,od,.func (fdAt K a),osl⟩:=by
 unfold fnAt at h
 unfold fdAt
 split at h
 ·rename_i oc od fd osl e
  rw [e]
  exact ⟨oc,od,osl,rfl⟩
 ·cases h
theorem TieK.scope {K j fn} (t:TieK K j fn):(fdAt K (fnA j)).scope=fnScope (srcOf j):=congrArg (·.2.2.1) t.eqs
theorem TieK.tie {C:Cfg} {j:Nat} {fn:Fn} (t:TieK C.K j fn) (hA:C.fnA=fnA):FnTie C (C.fnA j) fn (xsOf j) (fdAt C.K (fnA j)) (fnBody (srcOf j)):=by
 have q:=t.eqs
 have q1:=congrArg (·.2) q
 have q2:=congrArg (·.2) q1
 have q3:=congrArg (·.2) q2
 have q4:=congrArg (·.2) q3
 have q5:=congrArg (·.2) q4
 have r:fdOk C.K (fdAt C.K (fnA j)) (xsOf j) fn.np fn.nv=true:=congrArg (·.2) q5
 unfold fdOk at r
 simp only [Bool.and_eq_true,Bool.not_eq_true'] at r
 obtain ⟨⟨⟨⟨⟨r1,r2⟩,r3⟩,r4⟩,r5⟩,r6⟩:=r
 rw [hA]
 exact ⟨fdAt_of (congrArg (·.1) q),congrArg (·.1) q1,congrArg (·.1) q3,congrArg (·.1) q4,congrArg (·.1) q5,r1,r2,r3,eq_of_beq r4,r5,Nat.le_of_ble_eq_true r6,t.bind⟩
theorem pad_nil {fn:Fn} (h:fn.dflt=[]) (vs:List Val):padArgs fn vs=vs:=by unfold padArgs; rw [h]; simp
theorem bind0 {K:Frag} {fn:Fn} {fd:FuncData} {xs:List Str} (hd:fn.dflt=[]) (h:∀ us:List Value,us.length=fn.np→bindArgs fd ⟨us,[]⟩=pure ((xs.take fn.np).zip us)) {γ sg} {s:Shared} {vs us} (_:K.In s.heap) (R:Reps γ sg s.heap vs us) (hl:(padArgs fn vs).length=fn.np) :
  ∃ ws,Reps γ sg s.heap (padArgs fn vs) ws∧BindsTo s fd ⟨us,[]⟩ ((xs.take fn.np).zip ws):=by
 rw [pad_nil hd] at hl ⊢
 exact ⟨us,R,.of_eq (h us (R.length.trans hl))⟩
theorem len_cons {α:Type} {l:List α} {n:Nat} (h:l.length=n + 1):∃ a r,l=a :: r∧r.length=n:=by
 cases l with
 | nil=>cases h
 | cons a r=>exact ⟨a,r,rfl,Nat.succ.inj h⟩
theorem all1 {P:List Value→Prop} (h:∀ a,P [a]) (us:List Value) (e:us.length=1):P us:=by
 obtain ⟨a,r,rfl,e1⟩:=len_cons e
 obtain rfl:=List.length_eq_zero_iff.mp e1
 exact h a
theorem all2 {P:List Value→Prop} (h:∀ a b,P [a,b]) (us:List Value) (e:us.length=2):P us:=by
 obtain ⟨a,r,rfl,e1⟩:=len_cons e
 exact all1 (P:=λr=>P (a :: r)) (h a) r e1
theorem all3 {P:List Value→Prop} (h:∀ a b c,P [a,b,c]) (us:List Value) (e:us.length=3):P us:=by
 obtain ⟨a,r,rfl,e1⟩:=len_cons e
 exact all2 (P:=λr=>P (a :: r)) (h a) r e1
theorem all4 {P:List Value→Prop} (h:∀ a b c d,P [a,b,c,d]) (us:List Value) (e:us.length=4):P us:=by
 obtain ⟨a,r,rfl,e1⟩:=len_cons e
 exact all3 (P:=λr=>P (a :: r)) (h a) r e1
structure KFacts (K:Frag):Prop where
 cls:(clsK K 263 && clsK K 374)=true
 fld:((List.range 9).all λf=>findIn K (.ref 263) (fnm f) == some none && findIn K (.ref 374) (fnm f) == some none)=true
 fn:(gFn.all λp=>nsIn K mainGlobals p.1 == some (some (.ref (fnA p.2))) && fnAt K (fnA p.2))=true
 cls0:nsIn K mainGlobals "KeyInfo"=some (some (.ref 263))
 cls1:nsIn K mainGlobals "Sorter"=some (some (.ref 374))
 co:(gCo.all λp=>match nsIn K mainGlobals p.1 with | some (some v)=>constK K p.2 v | _=>false)=true
 bi:(gBi.all λx=>nsIn K mainGlobals x == some none)=true
 me:(gMe.all λp=>plainGet K (clsA p.2.2) p.1 && findIn K (.ref (clsA p.2.2)) p.1 == some (some (.ref (fnA p.2.1))) && isFn K (.ref (fnA p.2.1)) && fnAt K (fnA p.2.1) && (List.range 9).all λf=>fnm f != p.1)=true
 new:((makesIn K 263 && findIn K (.ref 263) "__init__" == some (some (.ref 239)) && isFn K (.ref 239) && (match K.lookup 263 with | some ⟨_,_,.cls _,_⟩=>true | _=>false)) &&
  (makesIn K 374 && findIn K (.ref 374) "__init__" == some (some (.ref 315)) && isFn K (.ref 315) && (match K.lookup 374 with | some ⟨_,_,.cls _,_⟩=>true | _=>false)))=true
theorem fnm_all:((List.range 9).all λf=>(List.range 9).all λg=>fnm f != fnm g || f == g)=true:=by decide +kernel
theorem fnm_inj:∀ f g,f < 9→g < 9→fnm f=fnm g→f=g:=by
 intro f g hf hg e
 have h:=List.all_eq_true.mp (List.all_eq_true.mp fnm_all f (List.mem_range.mpr hf)) g (List.mem_range.mpr hg)
 rw [e] at h
 simpa using h
noncomputable abbrev mkC (prog:Program) (w:World) (K:Frag) (s:Shared):Cfg:=⟨prog,w,K,s.heap,s.gens,s.os,clsA,fnA,fnm,9⟩
theorem facts_of {prog:Program} {w:World} {K:Frag} {s:Shared} {mb:Str→Option Value} (X:K.In s.heap) (k:KFacts K) (lim:s.heap.NoLimit) (hb:s.heap.Ns builtinsNs mb) (hbo:∀ x:Str,x≠"__name__"→mb x=bootBuiltins x):Facts (mkC prog w K s):=by
 have c:=k.cls
 rw [Bool.and_eq_true] at c
 have f:=List.all_eq_true.mp k.fld
 have fn:=List.all_eq_true.mp k.fn
 have co:=List.all_eq_true.mp k.co
 have bi:=List.all_eq_true.mp k.bi
 have nw:=k.new
 rw [Bool.and_eq_true] at nw
 have G:CfgOk (mkC prog w K s):=by
  refine ⟨X,⟨mb,hb,λx hx=>hbo x (by rintro rfl; simp at hx)⟩,lim,λc'=>?_,λc' f' hf=>?_,fnm_inj⟩
  ·cases c' with
   | zero=>exact c.1
   | succ n=>exact c.2
  ·have:=f f' (List.mem_range.mpr hf)
   rw [Bool.and_eq_true] at this
   cases c' with
   | zero=>exact beq_iff_eq.mp this.1
   | succ n=>exact beq_iff_eq.mp this.2
 refine ⟨G,rfl,rfl,λp hp=>?_,λp hp=>?_,k.cls0,k.cls1,λp hp=>?_,λx hx=>beq_iff_eq.mp (bi x hx),λp hp=>List.all_eq_true.mp k.me p hp,nw.1,nw.2⟩
 ·have:=fn p hp
  rw [Bool.and_eq_true] at this
  exact beq_iff_eq.mp this.1
 ·have:=fn p hp
  rw [Bool.and_eq_true] at this
  exact this.2
 ·have:=co p hp
  split at this
  ·rename_i v e
   exact ⟨v,e,this⟩
  ·cases this
theorem calls_ok {C:Cfg} (F:Facts C) (hA:C.fnA=fnA) (ties:∀ j fn,fns j=some fn→TieK C.K j fn):∀ n,CallsOk C tabs fns n:=by
 intro n
 induction n with
 | zero =>
  intro A γ sg σ s pl j vs us r st' RR _ _ _ e
  cases e
 | succ n ih =>
  intro A γ sg σ s pl j vs us r st' RR hR I R e hQ
  cases hj:fns j with
  | none =>
   have e:callFn tabs (callF tabs fns n) (fns j) vs _ _=some (r,st'):=e
   rw [hj] at e
   exact nsm e
  | some fn =>
   have t:=ties j fn hj
   refine fn_call F.G (t.tie hA) hj (λH=>?_) hR I R e hQ
   rw [t.scope] at H
   exact tsAll F ih j hj H
theorem law_walk {prog:Program} {w:World} {K:Frag} {s:Shared} {mb:Str→Option Value} (X:K.In s.heap) (k:KFacts K) (ties:∀ j fn,fns j=some fn→TieK K j fn) (lim:s.heap.NoLimit) (hb:s.heap.Ns builtinsNs mb) (hbo:∀ x:Str,x≠"__name__"→mb x=bootBuiltins x)
  {l:Addr} {vs:List Value} {ns:List Int} (hL:s.heap.IsList l vs.toArray) (hI:IntsAre vs ns) {st} (e:callF tabs fns 20 51 [.list (ns.map .int)] false []=some (.val (.bool true),st)) {Q:Value→Shared→Prop} {E:Value→Shared→Prop}
  (hQ:∀ s',s'.gens=s.gens→s'.os=s.os→(∀ b o,s.heap.get? b=some o→s'.heap.get? b=some o)→Q (.bool true) s') :
  wpN (model prog w) callerA (PySem.call (.ref 452) [.ref l]) Q E s:=by
 have F:=facts_of (prog:=prog) (w:=w) X k lim hb hbo
 have I:Inv (mkC prog w K s) (λ_=>none) (λ_=>none) [] ⟨[],[],false⟩ s:=by
  refine ⟨rfl,rfl,λ_ _ e=>e,λa t e=>(nomatch e),λi p e=>(nomatch e),λi j p e=>(nomatch e),λi x e=>?_,rfl,λk o a e1 e2=>?_⟩
  ·exact nsm e
  ·simp at e2
 have R:Reps (λ_=>none) [] s.heap (ns.map Val.int) vs:=by
  clear hL e hQ I F
  induction hI with
  | nil=>exact .nil
  | cons n t h ih=>exact .cons (.int n t) ih
 refine wpN_call (calls_ok F rfl ties 20 (j:=51) ⟨rfl,by decide +kernel,by decide +kernel⟩ I (.cons (.list rfl hL R) .nil) e λγ' sg' v s' I' A' R' N'=>?_)
 obtain rfl:v=.bool true:=Rep.inv R'
 exact hQ s' I'.gens I'.os I'.keep
end Mine
end
section
open PySem
namespace Mine.B
@[simp] theorem pr_some {z σ}:pr (some z) σ=some (z,σ):=rfl
@[simp] theorem rv_val {v i σ}:rv (some (.val v)) i σ=some (.val v,σ):=rfl
@[simp] theorem rv_olist {l i σ}:rv (some (.olist l)) i σ=some (.val (.list l),σ.set i (.val (.list l))):=rfl
@[simp] theorem rv_obarr {l i σ}:rv (some (.obarr l)) i σ=some (.val (.barr l),σ.set i (.val (.barr l))):=rfl
@[simp] theorem k1_some {x σ f}:k1 (some (x,σ)) f=pr (f x) σ:=rfl
@[simp] theorem k2b_some {x y σ f}:k2b x (some (y,σ)) f=pr (f x.frz y.frz) σ:=rfl
@[simp] theorem k2_some {x σ e f}:k2 (some (x,σ)) e f=k2b x (e σ) f:=rfl
@[simp] theorem frz_val {v}:(LV.val v).frz=v:=rfl
@[simp] theorem frz_olist {l}:(LV.olist l).frz=.list l:=rfl
@[simp] theorem frz_obarr {l}:(LV.obarr l).frz=.barr l:=rfl
@[simp] theorem ng_int {i}:ng (.val (.int i))=some (.val (.int (-i))):=rfl
@[simp] theorem ntB_some {b}:ntB (some b)=some (.val (.bool (!b))):=rfl
@[simp] theorem nt_def {x}:nt x=ntB (truth x.frz):=rfl
@[simp] theorem bB_some {b}:bB (some b)=some (.val (.bool b)):=rfl
@[simp] theorem vV_some {b}:vV (some b)=some (.val b):=rfl
@[simp] theorem co_def {op x y}:co op x y=bB (cmpop op x y):=rfl
@[simp] theorem sbv_def {x y}:sbv x y=vV (subv x y):=rfl
@[simp] theorem kandB_t {x σ e}:kandB (some true) x σ e=e σ:=rfl
@[simp] theorem kandB_f {x σ e}:kandB (some false) x σ e=some (.val x.frz,σ):=rfl
@[simp] theorem kand_some {x σ e}:kand (some (x,σ)) e=kandB (truth x.frz) x σ e:=rfl
@[simp] theorem korB_t {x σ e}:korB (some true) x σ e=some (.val x.frz,σ):=rfl
@[simp] theorem korB_f {x σ e}:korB (some false) x σ e=e σ:=rfl
@[simp] theorem kor_some {x σ e}:kor (some (x,σ)) e=korB (truth x.frz) x σ e:=rfl
@[simp] theorem kiteB_t {α σ} {a b:St→Option α}:kiteB (some true) σ a b=a σ:=rfl
@[simp] theorem kiteB_f {α σ} {a b:St→Option α}:kiteB (some false) σ a b=b σ:=rfl
@[simp] theorem kite_some {α x σ} {a b:St→Option α}:kite (some (x,σ)) a b=kiteB (truth x.frz) σ a b:=rfl
@[simp] theorem kc2c_t {y σ e op}:kc2c (some true) y σ e op=k2b y (e σ) (co op):=rfl
@[simp] theorem kc2c_f {y σ e op}:kc2c (some false) y σ e op=some (.val (.bool false),σ):=rfl
@[simp] theorem kc2b_some {x y σ e op1 op2}:kc2b x (some (y,σ)) e op1 op2=kc2c (cmpop op1 x.frz y.frz) y σ e op2:=rfl
@[simp] theorem kc2_some {x σ b c op1 op2}:kc2 (some (x,σ)) b c op1 op2=kc2b x (b σ) c op1 op2:=rfl
@[simp] theorem k3c_some {x y z σ}:k3c x y (some (z,σ))=pr (slcv x.frz y.frz z.frz) σ:=rfl
@[simp] theorem k3b_some {x y σ c}:k3b x (some (y,σ)) c=k3c x y (c σ):=rfl
@[simp] theorem k3_some {x σ b c}:k3 (some (x,σ)) b c=k3b x (b σ) c:=rfl
@[simp] theorem kl_some {l σ f}:kl (some l) σ f=pr (f l) σ:=rfl
@[simp] theorem sfF_def {k l}:sfF k l=vV (subv (.list l) (.int k)):=rfl
@[simp] theorem slF_def {k l}:slF k l=slcv (.list l) (.int k) .none:=rfl
@[simp] theorem sl?_some {l}:sl? (some (.slist l))=some l:=rfl
@[simp] theorem ksub_obj {o σ k}:ksub (some (.val (.obj o))) σ k=kl (sl? (σ.sto o)) σ (sfF k):=rfl
@[simp] theorem mkv_some {x σ}:mkv x (some σ)=some (x,σ):=rfl
@[simp] theorem rf_val {v k f σ}:rf (some (.val v)) k f σ=some (.val v,σ):=rfl
@[simp] theorem rf_olist {l k f σ}:rf (some (.olist l)) k f σ=mkv (.val (.list l)) (σ.putField k f (.val (.list l))):=rfl
@[simp] theorem kattr_obj {k σ f}:kattr (some (.val (.obj k),σ)) f=rf (σ.field k f) k f σ:=rfl
@[simp] theorem kcf_some {r st σ}:kcf (some (r,st)) σ=some (r,⟨σ.vars,st,σ.ro⟩):=rfl
@[simp] theorem kcall_some {vs σ cf j}:kcall (some (vs,σ)) cf j none=kcf (cf j vs σ.ro σ.store) σ:=rfl
@[simp] theorem kcp_some {r st σ}:kcp (some (r,st)) σ=if st.length=σ.store.length then some (r,σ) else none:=rfl
@[simp] theorem kcallP_some {vs σ cf j}:kcallP (some (vs,σ)) cf j none=kcp (cf j vs true σ.store) σ:=rfl
@[simp] theorem kmethC_some {k vs σ cf j}:kmethC k (some (vs,σ)) cf j=kcf (cf j (.obj k :: vs) σ.ro σ.store) σ:=rfl
@[simp] theorem kmethB_some {k c fs σ es cf j}:kmethB k (some (.inst c fs)) (some c) σ es cf j=kmethC k (es σ) cf j:=if_pos rfl
@[simp] theorem kmeth_obj {k σ es cf j c}:kmeth (some (.val (.obj k),σ)) es cf j c=kmethB k (σ.sto k) c σ es cf j:=rfl
@[simp] theorem knewB_some {σ st}:knewB σ (some (.val .none,st))=some (.val (.obj σ.store.length),⟨σ.vars,st,σ.ro⟩):=rfl
@[simp] theorem knew_some {vs vars st c j cf}:knew (some (vs,⟨vars,st,false⟩)) c (some j) cf=knewB ⟨vars,st,false⟩ (cf j (.obj st.length :: vs) false (st ++ [.inst c []])):=rfl
@[simp] theorem kes_some {vs σ f}:kes (some (vs,σ)) f=pr (f vs) σ:=rfl
@[simp] theorem kcompB_some {tg ys σ}:kcompB tg (some (ys,σ))=some (.olist ys,⟨unset tg σ.vars,σ.store,σ.ro⟩):=rfl
@[simp] theorem kcomp_some {xs σ tg f}:kcomp (some (xs,σ)) tg f=if okLen xs.length then kcompB tg (compGo f xs σ) else none:=rfl
@[simp] theorem kcompFB_some {tg ys σ σ2}:kcompFB tg σ (some (ys,σ2))=if σ2.store.length=σ.store.length then some (.olist ys,⟨unset tg σ2.vars,σ.store,σ.ro⟩) else none:=rfl
@[simp] theorem kcompF_some {xs σ tg f}:kcompF (some xs) σ tg f=if okLen xs.length then kcompFB tg σ (compGo f xs ⟨σ.vars,σ.store,true⟩) else none:=rfl
@[simp] theorem kshare_some {l vars st}:kshare (some (.olist l,⟨vars,st,false⟩))=some (.val (.obj st.length),⟨vars,st ++ [.slist l],false⟩):=rfl
@[simp] theorem kconsB_some {x xs σ}:kconsB x (some (xs,σ))=some (x.frz :: xs,σ):=rfl
@[simp] theorem kcons_some {x σ es}:kcons (some (x,σ)) es=kconsB x (es σ):=rfl
theorem it_l {l}:items? (.list l)=some l:=rfl
theorem it_t {l}:items? (.tuple l)=some l:=rfl
theorem it_s {l:List Nat}:items? (.str l)=some (l.map λc=>.str [c]):=rfl
theorem it_b {l:List UInt8}:items? (.bytes l)=some (l.map λb=>.int (b.toNat:Int)):=rfl
theorem it_r {l:List UInt8}:items? (.barr l)=some (l.map λb=>.int (b.toNat:Int)):=rfl
theorem truth_l {l}:truth (.list l)=if okLen l.length then some (!l.isEmpty) else none:=rfl
@[simp] theorem lI_some {l σ}:lI (some l) σ=some (l,σ):=rfl
@[simp] theorem kit_some {x σ}:kit (some (x,σ))=lI (items? x.frz) σ:=rfl
@[simp] theorem krng_some {vs σ}:krng (some (vs,σ))=lI (range? vs) σ:=rfl
@[simp] theorem st_set {vars st ro i x}:St.set ⟨vars,st,ro⟩ i x=⟨vars.set i (some x),st,ro⟩:=rfl
@[simp] theorem st_get {vars st ro i}:St.get ⟨vars,st,ro⟩ i=gv vars i:=rfl
@[simp] theorem dni_lt {a b:Nat}:decide ((a:Int) < (b:Int))=decide (a < b):=by rw [decide_eq_decide]; exact Int.ofNat_lt
@[simp] theorem dni_le {a b:Nat}:decide ((a:Int)≤(b:Int))=decide (a≤b):=by rw [decide_eq_decide]; exact Int.ofNat_le
@[simp] theorem dni_eq {a b:Nat}:decide ((a:Int)=(b:Int))=decide (a=b):=by rw [decide_eq_decide]; omega
@[simp] theorem gv_zero {x l}:gv (x :: l) 0=x:=rfl
@[simp] theorem gv_succ {x l i}:gv (x :: l) (i + 1)=gv l i:=rfl
@[simp] theorem st_sto {vars st k}:St.sto ⟨vars,st,false⟩ k=st[k]?:=rfl
@[simp] theorem st_stoT {vars st k}:St.sto ⟨vars,st,true⟩ k=none:=rfl
@[simp] theorem fieldB_some {c fs f}:fieldB (some (.inst c fs)) f=fget fs f:=rfl
@[simp] theorem fieldB_none {f}:fieldB none f=none:=rfl
@[simp] theorem st_field {σ:St} {k f}:σ.field k f=fieldB (σ.sto k) f:=rfl
@[simp] theorem putB_some {σ k c fs f x}:putB σ k (some (.inst c fs)) f x=some ⟨σ.vars,σ.store.set k (.inst c (fset fs f x)),σ.ro⟩:=rfl
@[simp] theorem st_putField {σ:St} {k f x}:σ.putField k f x=putB σ k (σ.sto k) f x:=rfl
@[simp] theorem lookB_some {k f σ}:lookB (some (.val (.obj k))) f σ=σ.field k f:=rfl
@[simp] theorem st_look {i f σ}:lookField i f σ=lookB (σ.get i) f σ:=rfl
@[simp] theorem lo_list {l}:listOf? (.val (.list l))=some l:=rfl
@[simp] theorem lo_olist {l}:listOf? (.olist l)=some l:=rfl
@[simp] theorem sq_next {σ k}:sq (some (.next,σ)) k=k σ:=rfl
@[simp] theorem sq_ret {r σ k}:sq (some (.ret r,σ)) k=some (.ret r,σ):=rfl
@[simp] theorem sq_none {k}:sq none k=none:=rfl
@[simp] theorem ka_some {x σ f}:ka (some (x,σ)) f=f x σ:=rfl
@[simp] theorem nx_some {σ}:nx (some σ)=some (.next,σ):=rfl
@[simp] theorem sA_def {i x σ}:sA i x σ=some (.next,σ.set i x):=rfl
@[simp] theorem sT_def {is l σ}:sT is (.val (.tuple l)) σ=if l.length=is.length then nx (bindT is l σ) else none:=rfl
@[simp] theorem bindT_nil {σ}:bindT [] [] σ=some σ:=rfl
@[simp] theorem bindT_cons {i is v vs σ}:bindT (i :: is) (v :: vs) σ=bindT is vs (σ.set i (.val v)):=rfl
@[simp] theorem sFB_some {k f x σ}:sFB (some (.val (.obj k))) f x σ=nx (σ.putField k f x):=rfl
@[simp] theorem sF_def {i f x σ}:sF i f x σ=sFB (σ.get i) f x σ:=rfl
@[simp] theorem sIC_some {p o l x σ}:sIC (some p) o l x σ=some (.next,⟨σ.vars,σ.store.set o (.slist (l.set p x.frz)),σ.ro⟩):=rfl
@[simp] theorem sI_def {i k x σ}:sI i k x σ=sIB (σ.get i) k x σ:=rfl
@[simp] theorem kb_some {x i σ}:kb (some x) i σ=some (.next,σ.set i x):=rfl
@[simp] theorem sU_def {i op a b σ}:sU i op (.val (.int a)) (.val (.int b)) σ=kb (binop op (.int a) (.int b)) i σ:=rfl
@[simp] theorem kaug_some {x σ e i op}:kaug (some (x,σ)) e i op=ka (e σ) (sU i op x):=rfl
@[simp] theorem kpf_some {r k f σ}:kpf (some r) k f σ=nx (σ.putField k f r):=rfl
@[simp] theorem sUA_def {k f op a b σ}:sUA k f op a (.val (.int b)) σ=kpf (binop op (.int a) (.int b)) k f σ:=rfl
@[simp] theorem kaugAB_some {a k f op e σ}:kaugAB (some (.val (.int a))) k f op e σ=ka (e σ) (sUA k f op a):=rfl
@[simp] theorem kaugA_some {k f op e σ}:kaugA (some (.val (.obj k))) f op e σ=kaugAB (σ.field k f) k f op e σ:=rfl
@[simp] theorem apL_some {l i x σ}:apL (some (.olist l)) i x σ=if okLen l.length then some (.next,σ.set i (.olist (l ++ [x.frz]))) else none:=rfl
@[simp] theorem sAp_def {i x σ}:sAp i x σ=apL (σ.get i) i x σ:=rfl
@[simp] theorem apB_some {l i n σ}:apB (some (.obarr l)) i n σ=if 0≤n∧n < 256∧okLen l.length then some (.next,σ.set i (.obarr (l ++ [UInt8.ofNat n.toNat]))) else none:=rfl
@[simp] theorem sApB_def {i n σ}:sApB i (.val (.int n)) σ=apB (σ.get i) i n σ:=rfl
@[simp] theorem kap_l {l i e σ}:kap (some (.olist l)) i e σ=ka (e σ) (sAp i):=rfl
@[simp] theorem kap_b {l i e σ}:kap (some (.obarr l)) i e σ=ka (e σ) (sApB i):=rfl
@[simp] theorem exB_b {l b i σ}:exB (some (.obarr l)) (.bytes b) i σ=if okLen (l.length + b.length) then some (.next,σ.set i (.obarr (l ++ b))) else none:=rfl
@[simp] theorem exB_r {l b i σ}:exB (some (.obarr l)) (.barr b) i σ=if okLen (l.length + b.length) then some (.next,σ.set i (.obarr (l ++ b))) else none:=rfl
@[simp] theorem sEx_def {i x σ}:sEx i x σ=exB (σ.get i) x.frz i σ:=rfl
@[simp] theorem kex_some {l i e σ}:kex (some (.obarr l)) i e σ=ka (e σ) (sEx i):=rfl
@[simp] theorem rvs_some {l i σ}:rvs (some (.olist l)) i σ=if okLen l.length then some (.next,σ.set i (.olist l.reverse)) else none:=rfl
@[simp] theorem faC_some {l k f x σ}:faC (some (.olist l)) k f x σ=if okLen l.length then nx (σ.putField k f (.olist (l ++ [x.frz]))) else none:=rfl
@[simp] theorem sFa_def {k f x σ}:sFa k f x σ=faC (σ.field k f) k f x σ:=rfl
@[simp] theorem faB_some {l k f e σ}:faB (some (.olist l)) k f e σ=ka (e σ) (sFa k f):=rfl
@[simp] theorem kfa_some {k f e σ}:kfa (some (.val (.obj k))) f e σ=faB (σ.field k f) k f e σ:=rfl
@[simp] theorem sE_none {σ}:sE (.val .none) σ=some (.next,σ):=rfl
@[simp] theorem sE_bool {b σ}:sE (.val (.bool b)) σ=some (.next,σ):=rfl
@[simp] theorem sR_def {x σ}:sR x σ=some (.ret x,σ):=rfl
@[simp] theorem stpB_some {σ k}:stpB (some σ) k=k σ:=rfl
theorem forGo_nil {f σ}:forGo f [] σ=some (.next,σ):=rfl
theorem forGo_cons {f x r σ}:forGo f (x :: r) σ=sq (f x σ) (forGo f r):=rfl
@[simp] theorem kfor_some {xs σ f}:kfor (some (xs,σ)) f=forGo f xs σ:=rfl
@[simp] theorem whlB_def {b w σ}:whlB b w σ=sq (b σ) w:=rfl
@[simp] theorem nxt_def {σ}:nxt σ=some (.next,σ):=rfl
theorem whlGo_succ {c b n σ}:whlGo c b (n + 1) σ=kite (c σ) (whlB b (whlGo c b n)) nxt:=rfl
section
variable {T:Tabs} {cf:CF} {σ:St}
@[simp] theorem e_const {v}:evE T cf (.const v) σ=some (.val v,σ):=rfl
@[simp] theorem e_var {i}:evE T cf (.var i) σ=rv (σ.get i) i σ:=rfl
@[simp] theorem e_bin {op a b}:evE T cf (.bin op a b) σ=k2 (evE T cf a σ) (evE T cf b) (binop op):=rfl
@[simp] theorem e_neg {a}:evE T cf (.neg a) σ=k1 (evE T cf a σ) ng:=rfl
@[simp] theorem e_not {a}:evE T cf (.not a) σ=k1 (evE T cf a σ) nt:=rfl
@[simp] theorem e_and {a b}:evE T cf (.and a b) σ=kand (evE T cf a σ) (evE T cf b):=rfl
@[simp] theorem e_or {a b}:evE T cf (.or a b) σ=kor (evE T cf a σ) (evE T cf b):=rfl
@[simp] theorem e_cmp {op a b}:evE T cf (.cmp op a b) σ=k2 (evE T cf a σ) (evE T cf b) (co op):=rfl
@[simp] theorem e_cmp2 {op1 op2 a b c}:evE T cf (.cmp2 op1 op2 a b c) σ=kc2 (evE T cf a σ) (evE T cf b) (evE T cf c) op1 op2:=rfl
@[simp] theorem e_ite {c a b}:evE T cf (.ite c a b) σ=kite (evE T cf c σ) (evE T cf a) (evE T cf b):=rfl
@[simp] theorem e_sub {a b}:evE T cf (.sub a b) σ=k2 (evE T cf a σ) (evE T cf b) sbv:=rfl
@[simp] theorem e_slc {a b c}:evE T cf (.slc a b c) σ=k3 (evE T cf a σ) (evE T cf b) (evE T cf c):=rfl
@[simp] theorem e_subF {i f k}:evE T cf (.subF i f k) σ=kl ((lookField i f σ).bind listOf?) σ (sfF k):=rfl
@[simp] theorem e_subS {i k}:evE T cf (.subS i k) σ=ksub (σ.get i) σ k:=rfl
@[simp] theorem e_slcF {i f k}:evE T cf (.slcF i f k) σ=kl ((lookField i f σ).bind listOf?) σ (slF k):=rfl
@[simp] theorem e_lenF {i f}:evE T cf (.lenF i f) σ=kl ((lookField i f σ).bind listOf?) σ leF:=rfl
@[simp] theorem e_truF {i f}:evE T cf (.truF i f) σ=kl ((lookField i f σ).bind listOf?) σ trF:=rfl
@[simp] theorem e_attr {a f}:evE T cf (.attr a f) σ=kattr (evE T cf a σ) f:=rfl
@[simp] theorem e_call {j es}:evE T cf (.call j es) σ=kcall (evEs T cf es σ) cf j (T.cls j):=rfl
@[simp] theorem e_callP {j es}:evE T cf (.callP j es) σ=kcallP (evEs T cf es σ) cf j (T.cls j):=rfl
@[simp] theorem e_meth {a j es}:evE T cf (.meth a j es) σ=kmeth (evE T cf a σ) (evEs T cf es) cf j (T.cls j):=rfl
@[simp] theorem e_new {c es}:evE T cf (.new c es) σ=knew (evEs T cf es σ) c (T.init c) cf:=rfl
@[simp] theorem e_bi {b es}:evE T cf (.bi b es) σ=kes (evEs T cf es σ) (biop b):=rfl
@[simp] theorem e_join {a}:evE T cf (.join a) σ=k1 (evE T cf a σ) jn:=rfl
@[simp] theorem e_rstrip {a}:evE T cf (.rstrip a) σ=k1 (evE T cf a σ) rsV:=rfl
@[simp] theorem e_list {es}:evE T cf (.list es) σ=kes (evEs T cf es σ) lsV:=rfl
@[simp] theorem e_tuple {es}:evE T cf (.tuple es) σ=kes (evEs T cf es σ) tpV:=rfl
@[simp] theorem e_share {e}:evE T cf (.share e) σ=kshare (evE T cf e σ):=rfl
@[simp] theorem e_compF {elt tg i f cnd}:evE T cf (.comp elt tg (.fld i f) cnd) σ=kcompF ((lookField i f σ).bind listOf?) σ tg (compStep tg (evE T cf cnd) (evE T cf elt)):=rfl
@[simp] theorem e_compR {elt tg es cnd}:evE T cf (.comp elt tg (.rng es) cnd) σ=kcomp (krng (evEs T cf es σ)) tg (compStep tg (evE T cf cnd) (evE T cf elt)):=rfl
@[simp] theorem e_compE {elt tg e cnd}:evE T cf (.comp elt tg (.ex e) cnd) σ=kcomp (kit (evE T cf e σ)) tg (compStep tg (evE T cf cnd) (evE T cf elt)):=rfl
@[simp] theorem es_nil:evEs T cf .nil σ=some ([],σ):=rfl
@[simp] theorem es_cons {e r}:evEs T cf (.cons e r) σ=kcons (evE T cf e σ) (evEs T cf r):=rfl
@[simp] theorem i_rng {es}:evI T cf (.rng es) σ=krng (evEs T cf es σ):=rfl
@[simp] theorem i_ex {e}:evI T cf (.ex e) σ=kit (evE T cf e σ):=rfl
end
section
variable {T:Tabs} {cf:CF} {σ:St}
@[simp] theorem x_nil:exSs T cf .nil σ=some (.next,σ):=rfl
@[simp] theorem x_cons {s r}:exSs T cf (.cons s r) σ=sq (exS T cf s σ) (exSs T cf r):=rfl
@[simp] theorem x_assign {i e}:exS T cf (.assign i e) σ=ka (evE T cf e σ) (sA i):=rfl
@[simp] theorem x_assignT {is e}:exS T cf (.assignT is e) σ=ka (evE T cf e σ) (sT is):=rfl
@[simp] theorem x_setAttr {i f e}:exS T cf (.setAttr i f e) σ=ka (evE T cf e σ) (sF i f):=rfl
@[simp] theorem x_setItem {i k e}:exS T cf (.setItem i k e) σ=ka (evE T cf e σ) (sI i k):=rfl
@[simp] theorem x_aug {i op e}:exS T cf (.aug i op e) σ=kaug (rv (σ.get i) i σ) (evE T cf e) i op:=rfl
@[simp] theorem x_augAttr {i f op e}:exS T cf (.augAttr i f op e) σ=kaugA (σ.get i) f op (evE T cf e) σ:=rfl
@[simp] theorem x_append {i e}:exS T cf (.append i e) σ=kap (σ.get i) i (evE T cf e) σ:=rfl
@[simp] theorem x_extend {i e}:exS T cf (.extend i e) σ=kex (σ.get i) i (evE T cf e) σ:=rfl
@[simp] theorem x_reverse {i}:exS T cf (.reverse i) σ=rvs (σ.get i) i σ:=rfl
@[simp] theorem x_fappend {i f e}:exS T cf (.fappend i f e) σ=kfa (σ.get i) f (evE T cf e) σ:=rfl
@[simp] theorem x_expr {e}:exS T cf (.expr e) σ=ka (evE T cf e σ) sE:=rfl
@[simp] theorem x_ret {e}:exS T cf (.ret e) σ=ka (evE T cf e σ) sR:=rfl
@[simp] theorem x_ite {c a b}:exS T cf (.ite c a b) σ=kite (evE T cf c σ) (exSs T cf a) (exSs T cf b):=rfl
@[simp] theorem x_whl {c b}:exS T cf (.whl c b) σ=whlGo (evE T cf c) (exSs T cf b) 200 σ:=rfl
@[simp] theorem x_for {tg im b}:exS T cf (.for_ tg im b) σ=kfor (evI T cf im σ) (stp tg (exSs T cf b)):=rfl
end
theorem stp1 {i k x σ}:stp [i] k x σ=k (σ.set i (.val x)):=rfl
@[simp] theorem fin_next {ro vars st}:fin ro (some (.next,⟨vars,st,ro⟩))=some (.val .none,st):=if_pos rfl
@[simp] theorem fin_ret {ro r vars st}:fin ro (some (.ret r,⟨vars,st,ro⟩))=some (r,st):=if_pos rfl
end Mine.B
end
section
end
section
open PySem
namespace Mine.B
noncomputable def cv (n:Nat):CF:=callF tabs fns n
@[simp] theorem tc0:tabs.cls 0=none:=by kernel_rfl
@[simp] theorem tc1:tabs.cls 1=none:=by kernel_rfl
@[simp] theorem tc2:tabs.cls 2=none:=by kernel_rfl
@[simp] theorem tc3:tabs.cls 3=none:=by kernel_rfl
@[simp] theorem tc4:tabs.cls 4=none:=by kernel_rfl
@[simp] theorem tc5:tabs.cls 5=none:=by kernel_rfl
@[simp] theorem tc6:tabs.cls 6=none:=by kernel_rfl
@[simp] theorem tc7:tabs.cls 7=none:=by kernel_rfl
@[simp] theorem tc8:tabs.cls 8=none:=by kernel_rfl
@[simp] theorem tc9:tabs.cls 9=none:=by kernel_rfl
theorem cv9 {n v0 v1 ro st}:cv (n + 1) 9 [v0,v1] ro st=fin ro (exSs tabs (cv n) b9 ⟨[some (.val v0),some (.val v1),none,none,none],st,ro⟩):=by kernel_rfl
@[simp] theorem tc10:tabs.cls 10=none:=by kernel_rfl
@[simp] theorem tc11:tabs.cls 11=none:=by kernel_rfl
theorem cv11 {n v0 v1 v2 ro st}:cv (n + 1) 11 [v0,v1,v2] ro st=fin ro (exSs tabs (cv n) b11 ⟨[some (.val v0),some (.val v1),some (.val v2),none,none],st,ro⟩):=by kernel_rfl
@[simp] theorem tc12:tabs.cls 12=none:=by kernel_rfl
@[simp] theorem tc13:tabs.cls 13=none:=by kernel_rfl
@[simp] theorem tc14:tabs.cls 14=none:=by kernel_rfl
@[simp] theorem tc15:tabs.cls 15=none:=by kernel_rfl
@[simp] theorem tc16:tabs.cls 16=none:=by kernel_rfl
theorem cv16 {n v0 v1 v2 ro st}:cv (n + 1) 16 [v0,v1,v2] ro st=fin ro (exSs tabs (cv n) b16 ⟨[some (.val v0),some (.val v1),some (.val v2),none,none],st,ro⟩):=by kernel_rfl
@[simp] theorem tc17:tabs.cls 17=none:=by kernel_rfl
@[simp] theorem tc18:tabs.cls 18=none:=by kernel_rfl
theorem cv18 {n v0 ro st}:cv (n + 1) 18 [v0] ro st=fin ro (exSs tabs (cv n) b18 ⟨[some (.val v0),none,none,none,none],st,ro⟩):=by kernel_rfl
@[simp] theorem tc19:tabs.cls 19=none:=by kernel_rfl
theorem cv19 {n v0 ro st}:cv (n + 1) 19 [v0] ro st=fin ro (exSs tabs (cv n) b19 ⟨[some (.val v0),none,none,none,none],st,ro⟩):=by kernel_rfl
@[simp] theorem tc20:tabs.cls 20=none:=by kernel_rfl
theorem cv20 {n v0 ro st}:cv (n + 1) 20 [v0] ro st=fin ro (exSs tabs (cv n) b20 ⟨[some (.val v0),none,none,none,none],st,ro⟩):=by kernel_rfl
@[simp] theorem tc21:tabs.cls 21=none:=by kernel_rfl
theorem cv21 {n v0 v1 ro st}:cv (n + 1) 21 [v0,v1] ro st=fin ro (exSs tabs (cv n) b21 ⟨[some (.val v0),some (.val v1),none,none,none,none,none],st,ro⟩):=by kernel_rfl
@[simp] theorem tc22:tabs.cls 22=some 0:=by kernel_rfl
theorem cv22 {n v0 v1 v2 ro st}:cv (n + 1) 22 [v0,v1,v2] ro st=fin ro (exSs tabs (cv n) b22 ⟨[some (.val v0),some (.val v1),some (.val v2)],st,ro⟩):=by kernel_rfl
@[simp] theorem tc23:tabs.cls 23=some 0:=by kernel_rfl
theorem cv23 {n v0 ro st}:cv (n + 1) 23 [v0] ro st=fin ro (exSs tabs (cv n) b23 ⟨[some (.val v0)],st,ro⟩):=by kernel_rfl
@[simp] theorem tc24:tabs.cls 24=some 0:=by kernel_rfl
theorem cv24 {n v0 v1 ro st}:cv (n + 1) 24 [v0,v1] ro st=fin ro (exSs tabs (cv n) b24 ⟨[some (.val v0),some (.val v1)],st,ro⟩):=by kernel_rfl
@[simp] theorem tc25:tabs.cls 25=some 0:=by kernel_rfl
theorem cv25 {n v0 v1 ro st}:cv (n + 1) 25 [v0,v1] ro st=fin ro (exSs tabs (cv n) b25 ⟨[some (.val v0),some (.val v1)],st,ro⟩):=by kernel_rfl
@[simp] theorem tc26:tabs.cls 26=none:=by kernel_rfl
@[simp] theorem tc27:tabs.cls 27=none:=by kernel_rfl
@[simp] theorem tc28:tabs.cls 28=none:=by kernel_rfl
theorem cv28 {n v0 v1 ro st}:cv (n + 1) 28 [v0,v1] ro st=fin ro (exSs tabs (cv n) b28 ⟨[some (.val v0),some (.val v1),none,none,none,none],st,ro⟩):=by kernel_rfl
@[simp] theorem tc29:tabs.cls 29=none:=by kernel_rfl
theorem cv29 {n v0 v1 ro st}:cv (n + 1) 29 [v0,v1] ro st=fin ro (exSs tabs (cv n) b29 ⟨[some (.val v0),some (.val v1),none,none,none],st,ro⟩):=by kernel_rfl
@[simp] theorem tc30:tabs.cls 30=none:=by kernel_rfl
theorem cv30 {n v0 ro st}:cv (n + 1) 30 [v0] ro st=fin ro (exSs tabs (cv n) b30 ⟨[some (.val v0),none,none,none,none],st,ro⟩):=by kernel_rfl
@[simp] theorem tc31:tabs.cls 31=some 1:=by kernel_rfl
theorem cv31 {n v0 v1 v2 ro st}:cv (n + 1) 31 [v0,v1,v2] ro st=fin ro (exSs tabs (cv n) b31 ⟨[some (.val v0),some (.val v1),some (.val v2)],st,ro⟩):=by kernel_rfl
@[simp] theorem tc32:tabs.cls 32=some 1:=by kernel_rfl
theorem cv32 {n v0 v1 ro st}:cv (n + 1) 32 [v0,v1] ro st=fin ro (exSs tabs (cv n) b32 ⟨[some (.val v0),some (.val v1),none,none],st,ro⟩):=by kernel_rfl
@[simp] theorem tc33:tabs.cls 33=some 1:=by kernel_rfl
theorem cv33 {n v0 ro st}:cv (n + 1) 33 [v0] ro st=fin ro (exSs tabs (cv n) b33 ⟨[some (.val v0)],st,ro⟩):=by kernel_rfl
@[simp] theorem tc34:tabs.cls 34=some 1:=by kernel_rfl
theorem cv34 {n v0 ro st}:cv (n + 1) 34 [v0] ro st=fin ro (exSs tabs (cv n) b34 ⟨[some (.val v0)],st,ro⟩):=by kernel_rfl
@[simp] theorem tc35:tabs.cls 35=some 1:=by kernel_rfl
theorem cv35 {n v0 ro st}:cv (n + 1) 35 [v0] ro st=fin ro (exSs tabs (cv n) b35 ⟨[some (.val v0)],st,ro⟩):=by kernel_rfl
@[simp] theorem tc36:tabs.cls 36=some 1:=by kernel_rfl
theorem cv36 {n v0 ro st}:cv (n + 1) 36 [v0] ro st=fin ro (exSs tabs (cv n) b36 ⟨[some (.val v0)],st,ro⟩):=by kernel_rfl
@[simp] theorem tc37:tabs.cls 37=some 1:=by kernel_rfl
theorem cv37 {n v0 ro st}:cv (n + 1) 37 [v0] ro st=fin ro (exSs tabs (cv n) b37 ⟨[some (.val v0)],st,ro⟩):=by kernel_rfl
@[simp] theorem tc38:tabs.cls 38=some 1:=by kernel_rfl
theorem cv38 {n v0 ro st}:cv (n + 1) 38 [v0] ro st=fin ro (exSs tabs (cv n) b38 ⟨[some (.val v0)],st,ro⟩):=by kernel_rfl
@[simp] theorem tc39:tabs.cls 39=some 1:=by kernel_rfl
theorem cv39 {n v0 v1 ro st}:cv (n + 1) 39 [v0,v1] ro st=fin ro (exSs tabs (cv n) b39 ⟨[some (.val v0),some (.val v1)],st,ro⟩):=by kernel_rfl
@[simp] theorem tc40:tabs.cls 40=none:=by kernel_rfl
theorem cv40 {n v0 v1 ro st}:cv (n + 1) 40 [v0,v1] ro st=fin ro (exSs tabs (cv n) b40 ⟨[some (.val v0),some (.val v1),none,none,none],st,ro⟩):=by kernel_rfl
@[simp] theorem tc41:tabs.cls 41=none:=by kernel_rfl
theorem cv41 {n v0 v1 ro st}:cv (n + 1) 41 [v0,v1] ro st=fin ro (exSs tabs (cv n) b41 ⟨[some (.val v0),some (.val v1),none],st,ro⟩):=by kernel_rfl
@[simp] theorem tc42:tabs.cls 42=none:=by kernel_rfl
theorem cv42 {n v0 v1 ro st}:cv (n + 1) 42 [v0,v1] ro st=fin ro (exSs tabs (cv n) b42 ⟨[some (.val v0),some (.val v1)],st,ro⟩):=by kernel_rfl
@[simp] theorem tc43:tabs.cls 43=none:=by kernel_rfl
@[simp] theorem tc44:tabs.cls 44=none:=by kernel_rfl
@[simp] theorem tc45:tabs.cls 45=none:=by kernel_rfl
theorem cv45 {n v0 v1 v2 ro st}:cv (n + 1) 45 [v0,v1,v2] ro st=fin ro (exSs tabs (cv n) b45 ⟨[some (.val v0),some (.val v1),some (.val v2),none,none,none,none,none,none],st,ro⟩):=by kernel_rfl
@[simp] theorem tc46:tabs.cls 46=none:=by kernel_rfl
theorem cv46 {n v0 v1 ro st}:cv (n + 1) 46 [v0,v1] ro st=fin ro (exSs tabs (cv n) b46 ⟨[some (.val v0),some (.val v1),none,none,none,none],st,ro⟩):=by kernel_rfl
@[simp] theorem tc47:tabs.cls 47=none:=by kernel_rfl
theorem cv47 {n v0 ro st}:cv (n + 1) 47 [v0] ro st=fin ro (exSs tabs (cv n) b47 ⟨[some (.val v0)],st,ro⟩):=by kernel_rfl
@[simp] theorem tc48:tabs.cls 48=none:=by kernel_rfl
theorem cv48 {n v0 v1 v2 v3 ro st}:cv (n + 1) 48 [v0,v1,v2,v3] ro st=fin ro (exSs tabs (cv n) b48 ⟨[some (.val v0),some (.val v1),some (.val v2),some (.val v3),none,none,none,none,none,none,none,none,none,none,none],st,ro⟩):=by kernel_rfl
@[simp] theorem tc49:tabs.cls 49=none:=by kernel_rfl
theorem cv49 {n v0 v1 v2 ro st}:cv (n + 1) 49 [v0,v1,v2] ro st=fin ro (exSs tabs (cv n) b49 ⟨[some (.val v0),some (.val v1),some (.val v2),none,none,none,none],st,ro⟩):=by kernel_rfl
@[simp] theorem tc50:tabs.cls 50=none:=by kernel_rfl
theorem cv50 {n v0 ro st}:cv (n + 1) 50 [v0] ro st=fin ro (exSs tabs (cv n) b50 ⟨[some (.val v0),none,none,none,none,none,none,none,none,none,none,none,none,none],st,ro⟩):=by kernel_rfl
@[simp] theorem tc51:tabs.cls 51=none:=by kernel_rfl
theorem cv51 {n v0 ro st}:cv (n + 1) 51 [v0] ro st=fin ro (exSs tabs (cv n) b51 ⟨[some (.val v0),none,none,none,none],st,ro⟩):=by kernel_rfl
@[simp] theorem ti0:tabs.init 0=some 22:=by kernel_rfl
@[simp] theorem ti1:tabs.init 1=some 31:=by kernel_rfl
noncomputable def menu:List Val:=[.none,.int 0,.int (-7),.int 1099511627776,.str [],.str [97],.str [65],.str [97,32],.str [98],.bytes [],.bytes [97],.int 1,.int 2]
noncomputable def kd:Val→Nat
 | .none=>0
 | .int 0=>8
 | .int 1=>9
 | .int 2=>1
 | .int (-7)=>1
 | .int _=>5
 | .str l=>13 + 2 * l.length
 | .bytes l=>12 + 2 * l.length
 | _=>0
noncomputable def bd:Val→List UInt8
 | .int 2=>[2]
 | .int (-7)=>[249]
 | .int 1099511627776=>[1,0,0,0,0,0]
 | .str l=>l.map λc=>UInt8.ofNat c
 | .bytes l=>l
 | _=>[]
theorem all_c {P:Val→Prop} {a:Val} {l:List Val} (h1:P a) (h2:∀ v∈l,P v):∀ v∈a :: l,P v:=List.forall_mem_cons.2 ⟨h1,h2⟩
theorem forall_menu {P:Val→Prop} (h:P .none∧P (.int 0)∧P (.int (-7))∧P (.int 1099511627776)∧P (.str [])∧P (.str [97])∧P (.str [65])∧P (.str [97,32])∧P (.str [98])∧P (.bytes [])∧P (.bytes [97])∧P (.int 1)∧P (.int 2)):∀ v∈menu,P v:=by
 exact all_c h.1 (all_c h.2.1 (all_c h.2.2.1 (all_c h.2.2.2.1 (all_c h.2.2.2.2.1 (all_c h.2.2.2.2.2.1 (all_c h.2.2.2.2.2.2.1 (all_c h.2.2.2.2.2.2.2.1 (all_c h.2.2.2.2.2.2.2.2.1 (all_c h.2.2.2.2.2.2.2.2.2.1 (all_c h.2.2.2.2.2.2.2.2.2.2.1 (all_c h.2.2.2.2.2.2.2.2.2.2.2.1 (all_c h.2.2.2.2.2.2.2.2.2.2.2.2 (λ_ h=>nomatch h)))))))))))))
theorem c_serial_type {n ro st}:∀ v∈menu,cv (n + 4) 13 [v] ro st=some (.val (.int (kd v)),st):=by
 apply forall_menu
 refine ⟨?_,?_,?_,?_,?_,?_,?_,?_,?_,?_,?_,?_,?_⟩ <;> (cases ro <;> kernel_rfl)
theorem c_body_of {n ro st}:∀ v∈menu,cv (n + 4) 15 [v,.int (kd v)] ro st=some (.val (.bytes (bd v)),st):=by
 apply forall_menu
 refine ⟨?_,?_,?_,?_,?_,?_,?_,?_,?_,?_,?_,?_,?_⟩ <;> (cases ro <;> kernel_rfl)
theorem qb1 {l}:biop .len [.list l]=if okLen l.length then some (.val (.int (l.length:Nat))) else none:=rfl
theorem qb2 {l}:biop .len [.bytes l]=if okLen l.length then some (.val (.int (l.length:Nat))) else none:=rfl
theorem qb3 {l}:biop .len [.barr l]=if okLen l.length then some (.val (.int (l.length:Nat))) else none:=rfl
theorem qb5 {l}:biop .len [.tuple l]=if okLen l.length then some (.val (.int (l.length:Nat))) else none:=rfl
theorem qb6 {l}:biop .bytes [.bytes l]=some (.val (.bytes l)):=rfl
theorem qb7 {l}:biop .bytes [.barr l]=if okLen l.length then some (.val (.bytes l)) else none:=rfl
theorem qb8:biop .barr0 []=some (.obarr []):=rfl
theorem qb9 {b}:biop .bool [.bool b]=some (.val (.bool b)):=rfl
theorem qb10 {l}:biop .tuple [.list l]=if okLen l.length then some (.val (.tuple l)) else none:=rfl
theorem qb11 {a b c}:biop .min3 [.int a,.int b,.int c]=some (.val (.int (let m:=if b < a then b else a; if c < m then c else m))):=rfl
theorem qo1 {a b}:binop .Add (.int a) (.int b)=some (.val (.int (a + b))):=rfl
theorem qo2 {a b}:binop .Sub (.int a) (.int b)=some (.val (.int (a - b))):=rfl
theorem qo3 {a b}:binop .Mult (.int a) (.int b)=if small b then some (.val (.int (a * b))) else none:=rfl
theorem qo4 {a b}:binop .FloorDiv (.int a) (.int b)=if b≠0∧b.natAbs < 1073741824 then some (.val (.int (Int.fdiv a b))) else none:=rfl
theorem qo5 {a b}:binop .Mod (.int a) (.int b)=if b=0 then none else some (.val (.int (Int.fmod a b))):=rfl
theorem qo6 {a b}:binop .Pow (.int a) (.int b)=if small a && decide (0≤b) && decide (b≤64) then some (.val (.int (a ^ b.toNat))) else none:=rfl
theorem qo7 {a b}:binop .LShift (.int a) (.int b)=if small a && decide (0≤b) && decide (b≤64) then some (.val (.int (a * 2 ^ b.toNat))) else none:=rfl
theorem qo8 {a b}:binop .BitAnd (.int a) (.int b)=some (.val (.int (Builtin.bitAnd a b))):=rfl
theorem qo9 {a b}:binop .BitOr (.int a) (.int b)=some (.val (.int (Builtin.bitOr a b))):=rfl
theorem qo10 {a b}:binop .Add (.list a) (.list b)=if okLen (a.length + b.length) then some (.olist (a ++ b)) else none:=rfl
theorem qo11 {a b}:binop .Add (.bytes a) (.bytes b)=if okLen (a.length + b.length) then some (.val (.bytes (a ++ b))) else none:=rfl
theorem cmp_gt {a b:Int}:cmpop .Gt (.int a) (.int b)=some (decide (b < a)):=rfl
theorem cmp_lt {a b:Int}:cmpop .Lt (.int a) (.int b)=some (decide (a < b)):=rfl
theorem cmp_le {a b:Int}:cmpop .LtE (.int a) (.int b)=some (decide (a≤b)):=rfl
theorem cmp_ge {a b:Int}:cmpop .GtE (.int a) (.int b)=some (decide (b≤a)):=rfl
theorem cmp_ei {a b:Int}:cmpop .Eq (.int a) (.int b)=some (decide (a=b)):=rfl
theorem cmp_ni {a b:Int}:cmpop .NotEq (.int a) (.int b)=some (!decide (a=b)):=rfl
theorem qc1 {a b i j}:cmpop .Lt (.tuple [.bytes a,.int i]) (.tuple [.bytes b,.int j])=if a=b then (if i=j then none else some (decide (i < j))) else some (bytesLt a b):=rfl
theorem cmp_e {a b:Val}:cmpop .Eq a b=if vshal 20 a then veq a b else none:=rfl
theorem cmp_n {a b:Val}:cmpop .NotEq a b=if vshal 20 a then (veq a b).map (!·) else none:=rfl
theorem qs1 {l:List Val} {i}:subv (.list l) (.int i)=(place i l.length).bind (l[·]?):=rfl
theorem qs2 {l:List Val} {i}:subv (.tuple l) (.int i)=(place i l.length).bind (l[·]?):=rfl
theorem qs3 {l:List UInt8} {i}:subv (.bytes l) (.int i)=(place i l.length).bind λk=>(l[k]?).map λx=>.int (x.toNat:Int):=rfl
theorem qr1 {n:Int}:range? [.int n]=if mid n then some (rngFrom 0 n.toNat) else none:=rfl
theorem qr2 {a b:Int}:range? [.int a,.int b]=if mid a && mid b then some (rngFrom a (b - a).toNat) else none:=rfl
theorem qr3 {a b:Int}:range? [.int a,.int b,.int 2]=if mid a && mid b then some ((List.range ((b - a).toNat / 2 + (b - a).toNat % 2)).map λ(k:Nat)=>.int (a + (k:Int) * 2)) else none:=by
 show rng3 a b 2=_
 unfold rng3; exact if_pos rfl
@[simp] theorem vq1:veq .none .none=some true:=rfl
@[simp] theorem vq2 {a b:Bool}:veq (.bool a) (.bool b)=some (a == b):=rfl
@[simp] theorem vq3 {a b:Int}:veq (.int a) (.int b)=some (decide (a=b)):=rfl
@[simp] theorem vq4 {a b:List Nat}:veq (.str a) (.str b)=some (decide (a=b)):=rfl
@[simp] theorem vq5 {a b:List UInt8}:veq (.bytes a) (.bytes b)=some (decide (a=b)):=rfl
@[simp] theorem vq6 {a b:List Val}:veq (.tuple a) (.tuple b)=veqs a b:=rfl
@[simp] theorem vq7 {a b:List Val}:veq (.list a) (.list b)=veqs a b:=rfl
@[simp] theorem vl1:veqs [] []=some true:=rfl
@[simp] theorem vl2 {a b:Val} {l m:List Val}:veqs (a :: l) (b :: m)=andO (veq a b) (veqs l m):=rfl
@[simp] theorem vl3 {a b:Bool}:andO (some a) (some b)=some (a && b):=rfl
@[simp] theorem vs1 {n}:vshal n .none=true:=by cases n <;> rfl
@[simp] theorem vs2 {n b}:vshal n (.bool b)=true:=by cases n <;> rfl
@[simp] theorem vs3 {n b}:vshal n (.int b)=true:=by cases n <;> rfl
@[simp] theorem vs4 {n b}:vshal n (.str b)=true:=by cases n <;> rfl
@[simp] theorem vs5 {n b}:vshal n (.bytes b)=true:=by cases n <;> rfl
@[simp] theorem vs6 {n l}:vshal (n + 1) (.tuple l)=l.all (vshal n):=rfl
@[simp] theorem vs7 {n l}:vshal (n + 1) (.list l)=l.all (vshal n):=rfl
noncomputable def enc (row:List Val):List UInt8:=UInt8.ofNat (1 + row.length) :: (row.map (λv=>UInt8.ofNat (kd v)) ++ row.flatMap bd)
theorem bd_len:∀ v∈menu,(bd v).length≤6:=by
 apply forall_menu; decide +kernel
theorem kd_lt:∀ v∈menu,kd v < 128:=by
 apply forall_menu; decide +kernel
theorem c8k {n ro st}:∀ v∈menu,cv (n + 1) 8 [.int (kd v)] ro st=some (.val (.bytes [UInt8.ofNat (kd v)]),st):=by
 apply forall_menu
 refine ⟨?_,?_,?_,?_,?_,?_,?_,?_,?_,?_,?_,?_,?_⟩ <;> (cases ro <;> kernel_rfl)
theorem c8_2 {n ro st}:cv (n + 1) 8 [.int 2] ro st=some (.val (.bytes [2]),st):=by cases ro <;> kernel_rfl
theorem c8_3 {n ro st}:cv (n + 1) 8 [.int 3] ro st=some (.val (.bytes [3]),st):=by cases ro <;> kernel_rfl
theorem c8_4 {n ro st}:cv (n + 1) 8 [.int 4] ro st=some (.val (.bytes [4]),st):=by cases ro <;> kernel_rfl
theorem c17_1 {n ro st}:cv (n + 2) 17 [.int 1] ro st=some (.val (.int 2),st):=by cases ro <;> kernel_rfl
theorem c17_2 {n ro st}:cv (n + 2) 17 [.int 2] ro st=some (.val (.int 3),st):=by cases ro <;> kernel_rfl
theorem c17_3 {n ro st}:cv (n + 2) 17 [.int 3] ro st=some (.val (.int 4),st):=by cases ro <;> kernel_rfl
theorem clip_nat {n i:Nat} (h:i≤n):clipAt n (i:Int)=i:=by
 unfold clipAt
 rw [if_neg (Int.not_lt.2 (Int.natCast_nonneg i)),Int.min_eq_left (Int.ofNat_le.2 h),Int.max_eq_right (Int.natCast_nonneg i)]
 rfl
theorem okLen_t {n:Nat} (h:n≤1000000):okLen n=true:=by simpa [okLen] using h
theorem up {a m n:Nat} (h:a≤m) (e:m.ble n=true):a≤n:=Nat.le_trans h (Nat.le_of_ble_eq_true e)
section
variable {cf:CF} {σ σ1 σ2 σ':St}
theorem x_nx {T s b r} (h:exS T cf s σ=some (.next,σ')) (h2:exSs T cf b σ'=r):exSs T cf (.cons s b) σ=r:=by
 rw [x_cons,h,sq_next,h2]
theorem x_rt {T s b r} (h:exS T cf s σ=some (.ret r,σ')):exSs T cf (.cons s b) σ=some (.ret r,σ'):=by rw [x_cons,h,sq_ret]
theorem call_e {j es vs r st'} (h1:evEs tabs cf es σ=some (vs,σ')) (ht:tabs.cls j=none) (h2:cf j vs σ'.ro σ'.store=some (r,st')):evE tabs cf (.call j es) σ=some (r,⟨σ'.vars,st',σ'.ro⟩):=by rw [e_call,h1,ht,kcall_some,h2,kcf_some]
theorem asg_e {i e x} (h:evE tabs cf e σ=some (x,σ')):exS tabs cf (.assign i e) σ=some (.next,σ'.set i x):=by rw [x_assign,h]; rfl
theorem asgT_e {is e l} (h:evE tabs cf e σ=some (.val (.tuple l),σ')) (hl:l.length=is.length) (hb:bindT is l σ'=some σ2):exS tabs cf (.assignT is e) σ=some (.next,σ2):=by rw [x_assignT,h,ka_some,sT_def,if_pos hl,hb]; rfl
theorem app_e {i e x l l0} (h0:σ.get i=some (.olist l0)) (h:evE tabs cf e σ=some (x,σ')) (hg:σ'.get i=some (.olist l)) (ok:okLen l.length=true):exS tabs cf (.append i e) σ=some (.next,σ'.set i (.olist (l ++ [x.frz]))):=by
 rw [x_append,h0,kap_l,h,ka_some,sAp_def,hg,apL_some,if_pos ok]
theorem ext_e {i e b l l0} (h0:σ.get i=some (.obarr l0)) (h:evE tabs cf e σ=some (.val (.bytes b),σ')) (hg:σ'.get i=some (.obarr l)) (ok:okLen (l.length + b.length)=true):exS tabs cf (.extend i e) σ=some (.next,σ'.set i (.obarr (l ++ b))):=by
 rw [x_extend,h0,kex_some,h,ka_some,sEx_def,hg]; exact if_pos ok
theorem aug_e {i op e a b z} (h0:rv (σ.get i) i σ=some (.val (.int a),σ1)) (h:evE tabs cf e σ1=some (.val (.int b),σ')) (hb:binop op (.int a) (.int b)=some z):exS tabs cf (.aug i op e) σ=some (.next,σ'.set i z):=by
 rw [x_aug,h0,kaug_some,h,ka_some,sU_def,hb,kb_some]
theorem ite_t {c a b x} (h:evE tabs cf c σ=some (x,σ')) (ht:truth x.frz=some true):exS tabs cf (.ite c a b) σ=exSs tabs cf a σ':=by rw [x_ite,h,kite_some,ht,kiteB_t]
theorem ite_f {c a b x} (h:evE tabs cf c σ=some (x,σ')) (ht:truth x.frz=some false):exS tabs cf (.ite c a b) σ=exSs tabs cf b σ':=by rw [x_ite,h,kite_some,ht,kiteB_f]
theorem ite_n {c a x} (h:evE tabs cf c σ=some (x,σ')) (ht:truth x.frz=some false):exS tabs cf (.ite c a .nil) σ=some (.next,σ'):=ite_f h ht
theorem ret_e {e x} (h:evE tabs cf e σ=some (x,σ')):exS tabs cf (.ret e) σ=some (.ret x,σ'):=by rw [x_ret,h]; rfl
theorem bin_e {op a b x y z} (h1:evE tabs cf a σ=some (x,σ1)) (h2:evE tabs cf b σ1=some (y,σ2)) (h:binop op x.frz y.frz=some z):evE tabs cf (.bin op a b) σ=some (z,σ2):=by rw [e_bin,h1,k2_some,h2,k2b_some,h]; rfl
theorem cmp_e' {op a b x y v} (h1:evE tabs cf a σ=some (x,σ1)) (h2:evE tabs cf b σ1=some (y,σ2)) (h:cmpop op x.frz y.frz=some v):evE tabs cf (.cmp op a b) σ=some (.val (.bool v),σ2):=by rw [e_cmp,h1,k2_some,h2,k2b_some,co_def,h]; rfl
theorem sub_e {a b x y v} (h1:evE tabs cf a σ=some (x,σ1)) (h2:evE tabs cf b σ1=some (y,σ2)) (h:subv x.frz y.frz=some v):evE tabs cf (.sub a b) σ=some (.val v,σ2):=by rw [e_sub,h1,k2_some,h2,k2b_some,sbv_def,h]; rfl
theorem slc_e {a b c x y z v σ3} (h1:evE tabs cf a σ=some (x,σ1)) (h2:evE tabs cf b σ1=some (y,σ2)) (h3:evE tabs cf c σ2=some (z,σ3)) (h:slcv x.frz y.frz z.frz=some v):evE tabs cf (.slc a b c) σ=some (v,σ3):=by rw [e_slc,h1,k3_some,h2,k3b_some,h3,k3c_some,h]; rfl
theorem bi_e {b es vs z} (h1:evEs tabs cf es σ=some (vs,σ')) (h2:biop b vs=some z):evE tabs cf (.bi b es) σ=some (z,σ'):=by rw [e_bi,h1,kes_some,h2]; rfl
theorem bi1_e {b e x z} (h1:evE tabs cf e σ=some (x,σ')) (h2:biop b [x.frz]=some z):evE tabs cf (.bi b (.cons e .nil)) σ=some (z,σ'):=bi_e (by rw [es_cons,h1,kcons_some,es_nil,kconsB_some]) h2
theorem tup2_e {a b x y} (h1:evE tabs cf a σ=some (x,σ1)) (h2:evE tabs cf b σ1=some (y,σ2)):evE tabs cf (.tuple (.cons a (.cons b .nil))) σ=some (.val (.tuple [x.frz,y.frz]),σ2):=by rw [e_tuple,es_cons,h1,kcons_some,es_cons,h2,kcons_some,es_nil]; rfl
theorem and_f {a b x} (h1:evE tabs cf a σ=some (x,σ1)) (h2:truth x.frz=some false):evE tabs cf (.and a b) σ=some (.val x.frz,σ1):=by rw [e_and,h1,kand_some,h2,kandB_f]
theorem and_t {a b x y} (h1:evE tabs cf a σ=some (x,σ1)) (h2:truth x.frz=some true) (h3:evE tabs cf b σ1=some (y,σ2)):evE tabs cf (.and a b) σ=some (y,σ2):=by rw [e_and,h1,kand_some,h2,kandB_t,h3]
theorem or_f {a b x y} (h1:evE tabs cf a σ=some (x,σ1)) (h2:truth x.frz=some false) (h3:evE tabs cf b σ1=some (y,σ2)):evE tabs cf (.or a b) σ=some (y,σ2):=by rw [e_or,h1,kor_some,h2,korB_f,h3]
theorem for_e {tg im b xs r} (h:evI tabs cf im σ=some (xs,σ')) (h2:forGo (stp tg (exSs tabs cf b)) xs σ'=r):exS tabs cf (.for_ tg im b) σ=r:=by rw [x_for,h,kfor_some,h2]
theorem fg_c {f x xs r} (h:f x σ=some (.next,σ')) (h2:forGo f xs σ'=r):forGo f (x :: xs) σ=r:=by rw [forGo_cons,h,sq_next,h2]
theorem rng_e {es vs xs} (h:evEs tabs cf es σ=some (vs,σ')) (hr:range? vs=some xs):evI tabs cf (.rng es) σ=some (xs,σ'):=by rw [i_rng,h,krng_some,hr]; rfl
theorem whl_t {c b n x r} (h:evE tabs cf c σ=some (x,σ1)) (ht:truth x.frz=some true) (hb:exSs tabs cf b σ1=some (.next,σ2)) (hr:whlGo (evE tabs cf c) (exSs tabs cf b) n σ2=r):whlGo (evE tabs cf c) (exSs tabs cf b) (n + 1) σ=r:=by
 rw [whlGo_succ,h,kite_some,ht,kiteB_t,whlB_def,hb,sq_next,hr]
theorem whl_r {c b n x r} (h:evE tabs cf c σ=some (x,σ1)) (ht:truth x.frz=some true) (hb:exSs tabs cf b σ1=some (.ret r,σ2)):whlGo (evE tabs cf c) (exSs tabs cf b) (n + 1) σ=some (.ret r,σ2):=by
 rw [whlGo_succ,h,kite_some,ht,kiteB_t,whlB_def,hb,sq_ret]
theorem whl_f {c b n x} (h:evE tabs cf c σ=some (x,σ1)) (ht:truth x.frz=some false):whlGo (evE tabs cf c) (exSs tabs cf b) (n + 1) σ=some (.next,σ1):=by rw [whlGo_succ,h,kite_some,ht,kiteB_f,nxt_def]
end
theorem fin_r {ro r vars st e} (h:e=some (.ret r,⟨vars,st,ro⟩)):fin ro e=some (r,st):=by rw [h,fin_ret]
theorem len_b {l:List UInt8} (h:l.length≤1000000):biop .len [.bytes l]=some (.val (.int l.length)):=if_pos (okLen_t h)
theorem len_r {l:List UInt8} (h:l.length≤1000000):biop .len [.barr l]=some (.val (.int l.length)):=if_pos (okLen_t h)
theorem len_li {l:List Val} (h:l.length≤1000000):biop .len [.list l]=some (.val (.int l.length)):=if_pos (okLen_t h)
theorem by_r {l:List UInt8} (h:l.length≤1000000):biop .bytes [.barr l]=some (.val (.bytes l)):=if_pos (okLen_t h)
theorem add_b {a b:List UInt8} (h:a.length + b.length≤1000000):binop .Add (.bytes a) (.bytes b)=some (.val (.bytes (a ++ b))):=if_pos (okLen_t h)
theorem app_l1 {α:Type} {l:List α} {a:α} {n:Nat} (h:l.length≤n):(l ++ [a]).length≤n + 1:=by rw [List.length_append]; exact Nat.succ_le_succ h
theorem app_le {α:Type} {l m:List α} {a b:Nat} (h:l.length≤a) (h2:m.length≤b):(l ++ m).length≤a + b:=by rw [List.length_append]; exact Nat.add_le_add h h2
noncomputable abbrev B18:MSs:=(.cons (.assign 4 (.call 13 (.cons (.var 3) .nil))) (.cons (.extend 1 (.call 8 (.cons (.var 4) .nil))) (.cons (.extend 2 (.call 15 (.cons (.var 3) (.cons (.var 4) .nil)))) .nil)))
theorem body18 {n ro st L T B x3 x4 v} (hv:v∈menu) (hT:T.length≤100) (hB:B.length≤100):stp [3] (exSs tabs (cv (n + 5)) B18) v ⟨[L,some (.obarr T),some (.obarr B),x3,x4],st,ro⟩
  = some (.next,⟨[L,some (.obarr (T ++ [UInt8.ofNat (kd v)])),some (.obarr (B ++ bd v)),some (.val v),some (.val (.int (kd v)))],st,ro⟩):=by
 rw [stp1]
 exact x_nx (asg_e (call_e rfl tc13 (@c_serial_type (n + 1) ro st v hv))) (x_nx (ext_e rfl (call_e rfl tc8 (@c8k (n + 4) ro st v hv)) rfl (okLen_t (up (app_l1 (a:=(0:UInt8)) hT) rfl |> λh=>by rwa [List.length_append] at h)))
  (x_nx (ext_e rfl (call_e rfl tc15 (@c_body_of (n + 1) ro st v hv)) rfl (okLen_t (Nat.le_trans (Nat.add_le_add hB (bd_len v hv)) (by decide)))) rfl))
theorem loop18 {n ro st L} (r:List Val):∀ {T B x3 x4},(∀ v∈r,v∈menu)→T.length + r.length≤10→B.length + 6 * r.length≤60→∃ x3' x4',forGo (stp [3] (exSs tabs (cv (n + 5)) B18)) r ⟨[L,some (.obarr T),some (.obarr B),x3,x4],st,ro⟩
  = some (.next,⟨[L,some (.obarr (T ++ r.map λv=>UInt8.ofNat (kd v))),some (.obarr (B ++ r.flatMap bd)),x3',x4'],st,ro⟩):=by
 induction r with
 | nil=>intro T B x3 x4 _ _ _; exact ⟨x3,x4,by rw [List.map_nil,List.flatMap_nil,List.append_nil,List.append_nil]; rfl⟩
 | cons v r ih =>
  intro T B x3 x4 hm hT hB
  have hv:=hm v (.head _)
  rw [List.length_cons,←Nat.add_assoc,Nat.add_right_comm] at hT
  rw [List.length_cons,Nat.mul_succ,←Nat.add_assoc,Nat.add_right_comm] at hB
  refine (@ih (T ++ [UInt8.ofNat (kd v)]) (B ++ bd v) (some (.val v)) (some (.val (.int (kd v)))) (λw h=>hm w (.tail _ h)) (by rw [List.length_append]; exact hT) (by rw [List.length_append]; exact Nat.le_trans (Nat.add_le_add_right (Nat.add_le_add_left (bd_len v hv) _) _) hB)).imp λy3 h=>h.imp λy4 h=>?_
  rw [List.map_cons,List.flatMap_cons,List.append_cons,←List.append_assoc]
  exact fg_c (body18 hv (up (Nat.le_of_succ_le (Nat.le_trans (Nat.le_add_right _ _) hT)) rfl) (up (Nat.le_trans (Nat.le_add_right _ 6) (Nat.le_trans (Nat.le_add_right _ _) hB)) rfl)) h
noncomputable def Row (r:List Val):Prop:=(1≤r.length∧r.length≤3)∧∀ v∈r,v∈menu
theorem three {P:Nat→Prop} (h1:P 1) (h2:P 2) (h3:P 3) {k:Nat} (a:1≤k) (b:k≤3):P k:=by
 match k,a,b with
 | 1,_,_=>exact h1
 | 2,_,_=>exact h2
 | 3,_,_=>exact h3
theorem c17_k {n ro st} {k:Nat} (a:1≤k) (b:k≤3):cv (n + 2) 17 [.int k] ro st=some (.val (.int ((1 + k:Nat):Int)),st):=three (P:=λk=>cv (n + 2) 17 [.int k] ro st=some (.val (.int ((1 + k:Nat):Int)),st)) c17_1 c17_2 c17_3 a b
theorem c8_k {n ro st} {k:Nat} (a:1≤k) (b:k≤3):cv (n + 1) 8 [.int ((1 + k:Nat):Int)] ro st=some (.val (.bytes [UInt8.ofNat (1 + k)]),st):=three (P:=λk=>cv (n + 1) 8 [.int ((1 + k:Nat):Int)] ro st=some (.val (.bytes [UInt8.ofNat (1 + k)]),st)) c8_2 c8_3 c8_4 a b
theorem bds_len {r:List Val} (h:∀ v∈r,v∈menu):(r.flatMap bd).length≤6 * r.length:=by
 induction r with
 | nil=>exact Nat.le_refl _
 | cons v r ih =>
  rw [List.flatMap_cons,List.length_append,List.length_cons,Nat.mul_succ,Nat.add_comm]
  exact Nat.add_le_add (ih λw hw=>h w (.tail _ hw)) (bd_len v (h v (.head _)))
theorem ret18 {n ro st L x3 x4} {T B:List UInt8} {k:Nat} (a:1≤k) (b:k≤3) (hT:T.length=k) (hB:B.length≤18) :
  exS tabs (cv (n + 5)) (.ret (.bin .Add (.bin .Add (.call 8 (.cons (.call 17 (.cons (.bi .len (.cons (.var 1) .nil)) .nil)) .nil)) (.bi .bytes (.cons (.var 1) .nil))) (.bi .bytes (.cons (.var 2) .nil)))) ⟨[L,some (.obarr T),some (.obarr B),x3,x4],st,ro⟩
   = some (.ret (.val (.bytes (UInt8.ofNat (1 + k) :: (T ++ B)))),⟨[L,some (.val (.barr T)),some (.val (.barr B)),x3,x4],st,ro⟩):=by
 subst hT
 have e1:evE tabs (cv (n + 5)) (.call 17 (.cons (.bi .len (.cons (.var 1) .nil)) .nil)) ⟨[L,some (.obarr T),some (.obarr B),x3,x4],st,ro⟩
   = some (.val (.int ((1 + T.length:Nat):Int)),⟨[L,some (.val (.barr T)),some (.obarr B),x3,x4],st,ro⟩) :=
  call_e (vs:=[.int T.length]) (σ':=⟨[L,some (.val (.barr T)),some (.obarr B),x3,x4],st,ro⟩) (by rw [es_cons,bi1_e (x:=.val (.barr T)) (σ':=⟨[L,some (.val (.barr T)),some (.obarr B),x3,x4],st,ro⟩) rfl (len_r (up b rfl))]; rfl) tc17 (@c17_k (n + 3) ro st _ a b)
 have e2:=@call_e (cv (n + 5)) ⟨[L,some (.obarr T),some (.obarr B),x3,x4],st,ro⟩ ⟨[L,some (.val (.barr T)),some (.obarr B),x3,x4],st,ro⟩ 8 (.cons (.call 17 (.cons (.bi .len (.cons (.var 1) .nil)) .nil)) .nil) _ _ _ (by rw [es_cons,e1]; rfl) tc8 (@c8_k (n + 4) ro st _ a b)
 have e3:=@bi1_e (cv (n + 5)) ⟨[L,some (.val (.barr T)),some (.obarr B),x3,x4],st,ro⟩ ⟨[L,some (.val (.barr T)),some (.obarr B),x3,x4],st,ro⟩ .bytes (.var 1) _ _ rfl (by_r (up b rfl))
 have e4:=@bi1_e (cv (n + 5)) ⟨[L,some (.val (.barr T)),some (.obarr B),x3,x4],st,ro⟩ ⟨[L,some (.val (.barr T)),some (.val (.barr B)),x3,x4],st,ro⟩ .bytes (.var 2) _ _ rfl (by_r (up hB rfl))
 exact ret_e (bin_e (bin_e e2 e3 (add_b (Nat.le_trans (Nat.add_le_add_left b 1) (by decide)))) e4 (add_b (Nat.le_trans (Nat.add_le_add (app_le (Nat.le_refl 1) b) hB) (by decide))))
theorem c18 {n ro st r} (h:Row r):cv (n + 6) 18 [.list r] ro st=some (.val (.bytes (enc r)),st):=by
 obtain ⟨x3,x4,hl⟩:=@loop18 n ro st (some (.val (.list r))) r [] [] none none h.2 (by rw [List.length_nil,Nat.zero_add]; exact up h.1.2 rfl) (by rw [List.length_nil,Nat.zero_add]; exact up (Nat.mul_le_mul_left 6 h.1.2) rfl)
 rw [List.nil_append,List.nil_append] at hl
 rw [cv18]
 exact fin_r (x_nx (σ':=⟨[_,some (.obarr []),none,none,none],st,ro⟩) rfl (x_nx (σ':=⟨[_,_,some (.obarr []),none,none],st,ro⟩) rfl (x_nx (for_e (xs:=r) rfl hl) (x_rt (ret18 h.1.1 h.1.2 (List.length_map ..) (Nat.le_trans (bds_len h.2) (Nat.mul_le_mul_left 6 h.1.2)))))))
theorem place_int {i:Int} {n:Nat} (h0:0≤i) (h:i < n) (hn:n≤1000000):place i n=some i.toNat:=by
 have h1:small i=true:=by simp [small_eq]; omega
 have h2:¬ i < 0:=by omega
 simp [place,h1,seqIndex?,h2,h0,h]
theorem subv_bytes {l:List UInt8} {i:Int} {x:UInt8} (hl:l.length≤1000) (h0:0≤i) (h:l[i.toNat]?=some x):subv (.bytes l) (.int i)=some (.int x.toNat):=by
 have hi:i.toNat < l.length:=by
  rcases Nat.lt_or_ge i.toNat l.length with h' | h'
  ·exact h'
  ·rw [List.getElem?_eq_none h'] at h; cases h
 simp only [qs1,qs2,qs3,place_int h0 (show i < l.length by omega) (by omega),Option.bind_some,h,Option.map_some]
@[simp] theorem truth_bool {b}:truth (.bool b)=some b:=rfl
@[simp] theorem truth_none:truth .none=some false:=rfl
theorem fg_r {f:Val→St→Option (Fl×St)} {x xs σ σ' r} (h:f x σ=some (.ret r,σ')):forGo f (x :: xs) σ=some (.ret r,σ'):=by rw [forGo_cons,h,sq_ret]
theorem bits9:∀ k < 128,Builtin.bitOr 0 (Builtin.bitAnd ((k:Nat):Int) 127)=(k:Int):=by decide +kernel
theorem in_l {l:List UInt8} {i:Int} {x:UInt8} (h0:0≤i) (h:l[i.toNat]?=some x):i < (l.length:Int):=by
 rcases Nat.lt_or_ge i.toNat l.length with h' | h'
 ·omega
 ·rw [List.getElem?_eq_none h'] at h; exact nsm h
theorem c9 {n ro st} {l:List UInt8} {i:Int} {k:Nat} (hl:l.length≤1000) (h0:0≤i) (h:l[i.toNat]?=some (UInt8.ofNat k)) (hx:k < 128) :
  cv (n + 1) 9 [.bytes l,.int i] ro st=some (.val (.tuple [.int k,.int (i + 1)]),st):=by
 have hi:=in_l h0 h
 have hs:=subv_bytes hl h0 h
 rw [show (UInt8.ofNat k).toNat=k from Nat.mod_eq_of_lt (Nat.lt_trans hx (by decide))] at hs
 rw [cv9]
 refine fin_r (x_nx (σ':=⟨[_,_,some (.val (.int 0)),none,none],st,ro⟩) rfl (x_rt (for_e (xs:=[.int 0,.int 1,.int 2,.int 3,.int 4,.int 5,.int 6,.int 7,.int 8]) rfl (fg_r (σ':=⟨[some (.val (.bytes l)),some (.val (.int (i + 1))),some (.val (.int k)),some (.val (.int 0)),some (.val (.int k))],st,ro⟩) ?_))))
 rw [stp1]
 exact x_nx (ite_n (σ':=⟨[some (.val (.bytes l)),some (.val (.int i)),some (.val (.int 0)),some (.val (.int 0)),none],st,ro⟩) (cmp_e' rfl (bi1_e rfl (len_b (up hl rfl))) cmp_ge) (congrArg some (decide_eq_false (Int.not_le.2 hi))))
  (x_nx (asg_e (σ':=⟨[some (.val (.bytes l)),some (.val (.int i)),some (.val (.int 0)),some (.val (.int 0)),none],st,ro⟩) (sub_e rfl rfl hs))
  (x_nx (σ':=⟨[some (.val (.bytes l)),some (.val (.int (i + 1))),some (.val (.int 0)),some (.val (.int 0)),some (.val (.int k))],st,ro⟩) rfl
  (x_nx (ite_n (σ':=⟨[some (.val (.bytes l)),some (.val (.int (i + 1))),some (.val (.int 0)),some (.val (.int 0)),some (.val (.int k))],st,ro⟩) (cmp_e' rfl rfl cmp_ei) rfl)
  (x_nx (asg_e (x:=.val (.int k)) (σ':=⟨[some (.val (.bytes l)),some (.val (.int (i + 1))),some (.val (.int 0)),some (.val (.int 0)),some (.val (.int k))],st,ro⟩) (bin_e (x:=.val (.int 0)) (y:=.val (.int (Builtin.bitAnd k 127))) rfl rfl (congrArg (λz=>some (LV.val (Val.int z))) (bits9 k hx))))
  (x_rt ((ite_t (σ':=⟨[some (.val (.bytes l)),some (.val (.int (i + 1))),some (.val (.int k)),some (.val (.int 0)),some (.val (.int k))],st,ro⟩) (cmp_e' rfl rfl cmp_lt) (congrArg some (decide_eq_true (Int.ofNat_lt.2 hx)))).trans (x_rt (ret_e (tup2_e (x:=.val (.int k)) (y:=.val (.int (i + 1))) rfl rfl)))))))))
theorem c14 {n ro st}:∀ v∈menu,cv (n + 1) 14 [.int (kd v)] ro st=some (.val (.int (bd v).length),st):=by
 apply forall_menu
 refine ⟨?_,?_,?_,?_,?_,?_,?_,?_,?_,?_,?_,?_,?_⟩ <;> (cases ro <;> kernel_rfl)
noncomputable def fold11:Int→List UInt8→Int
 | a,[]=>a
 | a,b :: r=>fold11 (Builtin.bitOr (a * 2 ^ (8:Int).toNat) b.toNat) r
noncomputable def ok11:Int→List UInt8→Bool
 | _,[]=>true
 | a,b :: r=>small a && ok11 (Builtin.bitOr (a * 2 ^ (8:Int).toNat) b.toNat) r
noncomputable abbrev B11:MSs:=(.cons (.assign 3 (.bin .BitOr (.bin .LShift (.var 3) (.const (.int 8))) (.sub (.var 0) (.var 4)))) .nil)
noncomputable abbrev R11:MSs:=(.cons (.ite (.and (.cmp .Gt (.var 2) (.const (.int 0))) (.cmp .GtE (.var 3) (.bin .FloorDiv (.bin .Pow (.const (.int 256)) (.var 2)) (.const (.int 2))))) (.cons (.ret (.bin .Sub (.var 3) (.bin .Pow (.const (.int 256)) (.var 2)))) .nil) .nil) (.cons (.ret (.var 3)) .nil))
theorem loop11 {cf st ro P S} {l:List UInt8} (hl:l.length≤1000) (bs:List UInt8):∀ {i num:Int} {y},0≤i→(∀ j,j < bs.length→l[i.toNat + j]?=bs[j]?)→ok11 num bs=true →
  ∃ y',forGo (stp [4] (exSs tabs cf B11)) (rngFrom i bs.length) ⟨[some (.val (.bytes l)),P,S,some (.val (.int num)),y],st,ro⟩=some (.next,⟨[some (.val (.bytes l)),P,S,some (.val (.int (fold11 num bs))),y'],st,ro⟩):=by
 induction bs with
 | nil=>exact λ {i num y} _ _ _=>⟨y,rfl⟩
 | cons b bs ih =>
  intro i num y h0 h ok
  have ok:=Bool.and_eq_true_iff.mp ok
  refine (@ih (i + 1) _ (some (.val (.int i))) (Int.le_trans h0 (Int.le_of_lt (Int.lt_succ i))) (λj hj=>by
   rw [Int.toNat_add h0 (by decide),Nat.add_assoc,Nat.add_comm _ j]; exact h (j + 1) (Nat.succ_lt_succ hj)) ok.2).imp λy' hy=>fg_c ?_ hy
  rw [stp1]
  exact x_nx (asg_e (σ':=⟨[some (.val (.bytes l)),P,S,some (.val (.int num)),some (.val (.int i))],st,ro⟩) (bin_e (x:=.val (.int (num * 2 ^ (8:Int).toNat))) (y:=.val (.int b.toNat))
   (bin_e (x:=.val (.int num)) (y:=.val (.int 8)) rfl rfl (if_pos (by rw [ok.1]; rfl))) (sub_e (x:=.val (.bytes l)) (y:=.val (.int i)) rfl rfl (subv_bytes hl h0 (h 0 (Nat.zero_lt_succ _)))) rfl)) rfl
theorem mid_in {i:Int} (h0:0≤i) (h:i≤10000):mid i=true:=by simp [mid_eq]; omega
theorem c11 {n ro st} {l:List UInt8} {p z:Int} (bs:List UInt8) (hl:l.length≤1000) (h0:0≤p) (hp:p + bs.length≤l.length) (h:∀ j,j < bs.length→l[p.toNat + j]?=bs[j]?) (ok:ok11 0 bs=true)
  (hf:∀ y,exSs tabs (cv n) R11 ⟨[some (.val (.bytes l)),some (.val (.int p)),some (.val (.int bs.length)),some (.val (.int (fold11 0 bs))),y],st,ro⟩=some (.ret (.val (.int z)),⟨[some (.val (.bytes l)),some (.val (.int p)),some (.val (.int bs.length)),some (.val (.int (fold11 0 bs))),y],st,ro⟩)) :
  cv (n + 1) 11 [.bytes l,.int p,.int bs.length] ro st=some (.val (.int z),st):=by
 obtain ⟨y,hy⟩:=@loop11 (cv n) st ro (some (.val (.int p))) (some (.val (.int bs.length))) l hl bs p 0 none h0 h ok
 have h2:(p + bs.length - p).toNat=bs.length:=by rw [Int.add_comm,Int.add_sub_cancel]; rfl
 have hr:range? [.int p,.int (p + bs.length)]=some (rngFrom p bs.length):=by
  rw [qr2,mid_in h0 (by omega),mid_in (by omega) (by omega),h2]; rfl
 rw [cv11]
 exact fin_r (x_nx (σ':=⟨[_,_,_,some (.val (.int 0)),none],st,ro⟩) rfl (x_nx (for_e (rng_e (vs:=[.int p,.int (p + bs.length)]) (σ':=⟨[some (.val (.bytes l)),some (.val (.int p)),some (.val (.int bs.length)),some (.val (.int 0)),none],st,ro⟩) rfl hr) hy) (hf y)))
noncomputable def At (l:List UInt8) (p:Int) (b:List UInt8):Prop:=∃ pre post,l=pre ++ (b ++ post)∧(pre.length:Int)=p
theorem At.get {l p b} (h:At l p b) {j:Nat} (hj:j < b.length):l[p.toNat + j]?=b[j]?:=by
 obtain ⟨pre,post,rfl,rfl⟩:=h
 rw [Int.toNat_natCast,List.getElem?_append_right (by omega),Nat.add_sub_cancel_left,List.getElem?_append_left hj]
theorem At.le {l p b} (h:At l p b):0≤p∧p + b.length≤l.length:=by
 obtain ⟨pre,post,rfl,rfl⟩:=h
 simp only [List.length_append]; omega
theorem At.cut {l p b} (h:At l p b) (hl:l.length≤1000):slcv (.bytes l) (.int p) (.int (p + b.length))=some (.val (.bytes b)):=by
 obtain ⟨pre,post,rfl,rfl⟩:=h
 refine (if_pos (okLen_t (Nat.le_trans hl (Nat.le_of_ble_eq_true rfl)))).trans ?_
 clear hl
 have e:(pre ++ (b ++ post)).length=pre.length + (b.length + post.length):=by rw [List.length_append,List.length_append]
 show some (LV.val (.bytes (((pre ++ (b ++ post)).drop (clipAt (pre ++ (b ++ post)).length pre.length)).take (clipAt (pre ++ (b ++ post)).length ((pre.length + b.length:Nat):Int) - clipAt (pre ++ (b ++ post)).length pre.length))))=_
 rw [clip_nat (by rw [e,←Nat.add_assoc]; exact Nat.le_add_right _ _),clip_nat (by rw [e]; exact Nat.le_add_right _ _),List.drop_left,Nat.add_sub_cancel_left,List.take_left]
theorem dlt {a b:Int} (h:a < b):decide (a < b)=true:=by simpa using h
theorem dnlt {a b:Int} (h:b≤a):decide (a < b)=false:=by simp; omega
theorem deq {a b:Int} (h:a=b):decide (a=b)=true:=by simpa using h
theorem dneq {a b:Int} (h:a≠b):decide (a=b)=false:=by simpa using h
theorem c2a {n ro st}:cv (n + 3) 2 [.bytes []] ro st=some (.val (.str []),st):=by cases ro <;> kernel_rfl
theorem c2b {n ro st}:cv (n + 3) 2 [.bytes [97]] ro st=some (.val (.str [97]),st):=by cases ro <;> kernel_rfl
theorem c2c {n ro st}:cv (n + 3) 2 [.bytes [65]] ro st=some (.val (.str [65]),st):=by cases ro <;> kernel_rfl
theorem c2d {n ro st}:cv (n + 3) 2 [.bytes [97,32]] ro st=some (.val (.str [97,32]),st):=by cases ro <;> kernel_rfl
theorem c2e {n ro st}:cv (n + 3) 2 [.bytes [98]] ro st=some (.val (.str [98]),st):=by cases ro <;> kernel_rfl
noncomputable abbrev R16:MSs:=(.cons (.ite (.cmp .Eq (.var 2) (.const (.int 0))) (.cons (.ret (.const .none)) .nil) .nil) (.cons (.ite (.cmp .Eq (.var 2) (.const (.int 8))) (.cons (.ret (.const (.int 0))) .nil) .nil) (.cons (.ite (.cmp .Eq (.var 2) (.const (.int 9))) (.cons (.ret (.const (.int 1))) .nil) .nil) (.cons (.ite (.cmp .Lt (.var 2) (.const (.int 12))) (.cons (.ret (.call 11 (.cons (.var 0) (.cons (.var 1) (.cons (.var 3) .nil))))) .nil) .nil) (.cons (.assign 4 (.bi .bytes (.cons (.slc (.var 0) (.var 1) (.bin .Add (.var 1) (.var 3))) .nil))) (.cons (.ite (.cmp .Eq (.bin .Mod (.var 2) (.const (.int 2))) (.const (.int 1))) (.cons (.ret (.call 2 (.cons (.var 4) .nil))) .nil) .nil) (.cons (.ret (.var 4)) .nil)))))))
noncomputable abbrev s16 (l:List UInt8) (p:Int) (k s:Nat) (x:Option LV) (st:List SObj) (ro:Bool):St:=⟨[some (.val (.bytes l)),some (.val (.int p)),some (.val (.int k)),some (.val (.int s)),x],st,ro⟩
theorem pre16 {n ro st l} {p:Int} {k s:Nat} (h14:cv (n + 3) 14 [.int k] ro st=some (.val (.int s),st)) (hl:l.length≤1000) (hle:p + s≤l.length):cv (n + 4) 16 [.bytes l,.int p,.int k] ro st=fin ro (exSs tabs (cv (n + 3)) R16 (s16 l p k s none st ro)):=by
 rw [cv16]
 exact congrArg (fin ro) (x_nx (σ':=s16 l p k s none st ro) (asg_e (call_e (σ':=⟨[some (.val (.bytes l)),some (.val (.int p)),some (.val (.int k)),none,none],st,ro⟩) rfl tc14 h14)) (x_nx (ite_n (σ':=s16 l p k s none st ro) (cmp_e' (x:=.val (.int (p + s))) rfl (bi1_e rfl (len_b (up hl rfl))) cmp_gt) (congrArg some (decide_eq_false (Int.not_lt.2 hle)))) rfl))
theorem no16 {cf l p s x st ro b a} {k:Nat} {c:Int} (h:decide ((k:Int)=c)=false):exSs tabs cf (.cons (.ite (.cmp .Eq (.var 2) (.const (.int c))) a .nil) b) (s16 l p k s x st ro)=exSs tabs cf b (s16 l p k s x st ro):=x_nx (ite_n (cmp_e' rfl rfl cmp_ei) (congrArg some h)) rfl
theorem int16 {n ro st l p} {k s:Nat} {z:Int} (h0:decide ((k:Int)=0)=false) (h8:decide ((k:Int)=8)=false) (h9:decide ((k:Int)=9)=false) (h12:decide ((k:Int) < 12)=true) (h11:cv (n + 3) 11 [.bytes l,.int p,.int s] ro st=some (.val (.int z),st)) :
  exSs tabs (cv (n + 3)) R16 (s16 l p k s none st ro)=some (.ret (.val (.int z)),s16 l p k s none st ro) :=
 (no16 h0).trans ((no16 h8).trans ((no16 h9).trans (x_rt ((ite_t (σ':=s16 l p k s none st ro) (cmp_e' rfl rfl cmp_lt) (congrArg some h12)).trans (x_rt (ret_e (call_e (σ':=s16 l p k s none st ro) rfl tc11 h11)))))))
theorem txt16 {n ro st l p b x z} {k s:Nat} (h0:decide ((k:Int)=0)=false) (h8:decide ((k:Int)=8)=false) (h9:decide ((k:Int)=9)=false) (h12:decide ((k:Int) < 12)=false) (cut:slcv (.bytes l) (.int p) (.int (p + s))=some (.val (.bytes b)))
  (hx:exSs tabs (cv (n + 3)) (.cons (.ite (.cmp .Eq (.bin .Mod (.var 2) (.const (.int 2))) (.const (.int 1))) (.cons (.ret (.call 2 (.cons (.var 4) .nil))) .nil) .nil) (.cons (.ret (.var 4)) .nil)) (s16 l p k s (some (.val (.bytes b))) st ro)=some (.ret x,z)) :
  exSs tabs (cv (n + 3)) R16 (s16 l p k s none st ro)=some (.ret x,z) :=
 (no16 h0).trans ((no16 h8).trans ((no16 h9).trans (x_nx (ite_n (σ':=s16 l p k s none st ro) (cmp_e' rfl rfl cmp_lt) (congrArg some h12)) (x_nx (asg_e (σ':=s16 l p k s none st ro) (x:=.val (.bytes b)) (bi1_e (x:=.val (.bytes b)) (slc_e (x:=.val (.bytes l)) (y:=.val (.int p)) (z:=.val (.int (p + s))) rfl rfl rfl cut) rfl)) hx))))
theorem str16 {n ro st l p b t} {k s:Nat} (h1:decide (Int.fmod k 2=1)=true) (h2:cv (n + 3) 2 [.bytes b] ro st=some (.val (.str t),st)) :
  exSs tabs (cv (n + 3)) (.cons (.ite (.cmp .Eq (.bin .Mod (.var 2) (.const (.int 2))) (.const (.int 1))) (.cons (.ret (.call 2 (.cons (.var 4) .nil))) .nil) .nil) (.cons (.ret (.var 4)) .nil)) (s16 l p k s (some (.val (.bytes b))) st ro)=some (.ret (.val (.str t)),s16 l p k s (some (.val (.bytes b))) st ro) :=
 x_rt ((ite_t (σ':=s16 l p k s (some (.val (.bytes b))) st ro) (cmp_e' (x:=.val (.int (Int.fmod k 2))) (y:=.val (.int 1)) rfl rfl cmp_ei) (congrArg some h1)).trans (x_rt (ret_e (call_e (σ':=s16 l p k s (some (.val (.bytes b))) st ro) rfl tc2 h2))))
noncomputable def Q16 (n:Nat) (ro:Bool) (st:List SObj) (l:List UInt8) (p:Int) (v:Val) (k:Nat) (b:List UInt8):Prop:=At l p b→fin ro (exSs tabs (cv (n + 3)) R16 (s16 l p k b.length none st ro))=some (.val v,st)
theorem kb {v w k b n ro st l p} (hk:kd v=k) (hb:bd v=b) (h:Q16 n ro st l p w k b):Q16 n ro st l p w (kd v) (bd v):=hk ▸ hb ▸ h
theorem c16 {n ro st} {l:List UInt8} {p:Int} (hl:l.length≤1000):∀ v∈menu,At l p (bd v) →
  cv (n + 4) 16 [.bytes l,.int p,.int (kd v)] ro st=some (.val v,st):=by
 have key:∀ v∈menu,Q16 n ro st l p v (kd v) (bd v):=by
  have i11:∀ (bs:List UInt8) {z:Int},At l p bs→ok11 0 bs=true→_→cv (n + 3) 11 [.bytes l,.int p,.int bs.length] ro st=some (.val (.int z),st):=λbs z h ok hf=>c11 bs hl h.le.1 h.le.2 (λj hj=>h.get hj) ok hf
  exact forall_menu ⟨kb (k:=0) (b:=[]) (by kernel_rfl) (by kernel_rfl) λh=>fin_r rfl,
   kb (k:=8) (b:=[]) (by kernel_rfl) (by kernel_rfl) λh=>fin_r rfl,
   kb (k:=1) (b:=[249]) (by kernel_rfl) (by kernel_rfl) λh=>fin_r (int16 rfl rfl rfl rfl (i11 [249] h rfl λy=>rfl)),
   kb (k:=5) (b:=[1,0,0,0,0,0]) (by kernel_rfl) (by kernel_rfl) λh=>fin_r (int16 rfl rfl rfl rfl (i11 [1,0,0,0,0,0] h (by decide +kernel) λy=>by kernel_rfl)),
   kb (k:=13) (b:=[]) (by kernel_rfl) (by kernel_rfl) λh=>fin_r (txt16 rfl rfl rfl rfl (h.cut hl) (str16 rfl c2a)),
   kb (k:=15) (b:=[97]) (by kernel_rfl) (by kernel_rfl) λh=>fin_r (txt16 rfl rfl rfl rfl (h.cut hl) (str16 rfl c2b)),
   kb (k:=15) (b:=[65]) (by kernel_rfl) (by kernel_rfl) λh=>fin_r (txt16 rfl rfl rfl rfl (h.cut hl) (str16 rfl c2c)),
   kb (k:=17) (b:=[97,32]) (by kernel_rfl) (by kernel_rfl) λh=>fin_r (txt16 rfl rfl rfl rfl (h.cut hl) (str16 rfl c2d)),
   kb (k:=15) (b:=[98]) (by kernel_rfl) (by kernel_rfl) λh=>fin_r (txt16 rfl rfl rfl rfl (h.cut hl) (str16 rfl c2e)),
   kb (k:=12) (b:=[]) (by kernel_rfl) (by kernel_rfl) λh=>fin_r (txt16 rfl rfl rfl rfl (h.cut hl) rfl),
   kb (k:=14) (b:=[97]) (by kernel_rfl) (by kernel_rfl) λh=>fin_r (txt16 rfl rfl rfl rfl (h.cut hl) rfl),
   kb (k:=9) (b:=[]) (by kernel_rfl) (by kernel_rfl) λh=>fin_r rfl,
   kb (k:=1) (b:=[2]) (by kernel_rfl) (by kernel_rfl) λh=>fin_r (int16 rfl rfl rfl rfl (i11 [2] h rfl λy=>rfl))⟩
 exact λv hv h=>(pre16 (c14 v hv) hl h.le.2).trans (key v hv h)
theorem bin_add {a b:Int}:binop .Add (.int a) (.int b)=some (.val (.int (a + b))):=rfl
theorem bin_sub {a b:Int}:binop .Sub (.int a) (.int b)=some (.val (.int (a - b))):=rfl
noncomputable def kv (v:Val):Val:=.int (kd v)
theorem enc_len {r:List Val}:(enc r).length=r.length + 1 + (r.flatMap bd).length:=by
 show ((r.map λv=>UInt8.ofNat (kd v)) ++ r.flatMap bd).length + 1=_
 rw [List.length_append,List.length_map,Nat.add_right_comm]
theorem Row.enc_le {r} (h:Row r):(enc r).length≤1000:=by
 rw [enc_len]
 exact Nat.le_trans (Nat.add_le_add (Nat.succ_le_succ h.1.2) (Nat.le_trans (bds_len h.2) (Nat.mul_le_mul_left 6 h.1.2))) (by decide)
theorem c9_0 {n ro st r} (h:Row r):cv (n + 1) 9 [.bytes (enc r),.int 0] ro st=some (.val (.tuple [.int ((1 + r.length:Nat):Int),.int 1]),st) :=
 c9 (k:=1 + r.length) h.enc_le (Int.le_refl 0) rfl (Nat.lt_of_le_of_lt (Nat.add_le_add_left h.1.2 1) (by decide))
theorem spl_mem {r r1 r2:List Val} {v} (e:r=r1 ++ v :: r2):v∈r:=by rw [e]; exact List.mem_append_right _ (.head _)
theorem spl_get {r r1 r2:List Val} {v} (e:r=r1 ++ v :: r2):(enc r)[1 + r1.length]?=some (UInt8.ofNat (kd v)):=by
 rw [Nat.add_comm]
 show ((r.map λv=>UInt8.ofNat (kd v)) ++ r.flatMap bd)[r1.length]?=_
 rw [e,List.map_append,List.append_assoc,List.getElem?_append_right (Nat.le_of_eq (List.length_map ..)),List.length_map,Nat.sub_self]
 rfl
theorem c9_i {n ro st r r1 r2 v} (h:Row r) (e:r=r1 ++ v :: r2):cv (n + 1) 9 [.bytes (enc r),.int ((1 + r1.length:Nat):Int)] ro st=some (.val (.tuple [kv v,.int ((1 + r1.length + 1:Nat):Int)]),st) :=
 c9 (k:=kd v) h.enc_le (Int.natCast_nonneg _) (spl_get e) (kd_lt v (h.2 v (spl_mem e)))
noncomputable def off (r r1:List Val):Nat:=1 + r.length + (r1.flatMap bd).length
theorem off_s {r r1:List Val} {v}:off r (r1 ++ [v])=off r r1 + (bd v).length:=by
 unfold off
 rw [List.flatMap_append,List.length_append,List.flatMap_cons,List.flatMap_nil,List.append_nil]; exact (Nat.add_assoc ..).symm
theorem off_e {r:List Val}:off r r=(enc r).length:=by rw [enc_len,off,Nat.add_comm 1]
theorem at_i {r r1 r2 v} (e:r=r1 ++ v :: r2):At (enc r) (off r r1:Nat) (bd v) :=
 ⟨UInt8.ofNat (1 + r.length) :: ((r.map λv=>UInt8.ofNat (kd v)) ++ r1.flatMap bd),r2.flatMap bd,by
  have e2:r.flatMap bd=r1.flatMap bd ++ (bd v ++ r2.flatMap bd):=by rw [e,List.flatMap_append,List.flatMap_cons]
  rw [List.cons_append,List.append_assoc,←e2]; rfl,by
  rw [List.length_cons,List.length_append,List.length_map,off,Nat.add_right_comm,Nat.add_comm 1]⟩
theorem c16_i {n ro st r r1 r2 v} (h:Row r) (e:r=r1 ++ v :: r2):cv (n + 4) 16 [.bytes (enc r),.int (off r r1:Nat),kv v] ro st=some (.val v,st):=c16 h.enc_le v (h.2 v (spl_mem e)) (at_i e)
theorem spl_s {r r1 r2:List Val} {v} (e:r=r1 ++ v :: r2):r=(r1 ++ [v]) ++ r2:=e.trans (List.append_cons ..)
theorem spl_l {r r1 r2:List Val} {v} (e:r=r1 ++ v :: r2):r1.length < r.length:=by rw [e,List.length_append]; exact Nat.lt_add_of_pos_right (Nat.zero_lt_succ _)
noncomputable abbrev C19:ME:=(.cmp .Lt (.var 2) (.var 1))
noncomputable abbrev B19:MSs:=(.cons (.assignT [4,2] (.call 9 (.cons (.var 0) (.cons (.var 2) .nil)))) (.cons (.append 3 (.var 4)) .nil))
noncomputable abbrev s19 (r:List Val) (k:Nat) (T:List Val) (x:Option LV) (st:List SObj) (ro:Bool):St:=⟨[some (.val (.bytes (enc r))),some (.val (.int ((1 + r.length:Nat):Int))),some (.val (.int (k:Nat))),some (.olist T),x],st,ro⟩
theorem loop19 {n ro st r} (h:Row r) (r2:List Val):∀ {r1 x m},r=r1 ++ r2→r2.length < m→∃ x',whlGo (evE tabs (cv (n + 5)) C19) (exSs tabs (cv (n + 5)) B19) m (s19 r (1 + r1.length) (r1.map kv) x st ro)
  = some (.next,s19 r (1 + r.length) (r.map kv) x' st ro):=by
 induction r2 with
 | nil =>
  intro r1 x m e hm
  cases m with
  | zero=>exact absurd hm (Nat.not_lt_zero _)
  | succ m =>
   rw [List.append_nil] at e
   subst e
   exact ⟨x,whl_f (cmp_e' rfl rfl cmp_lt) (congrArg some (decide_eq_false (Int.lt_irrefl _)))⟩
 | cons v r2 ih =>
  intro r1 x m e hm
  cases m with
  | zero=>exact absurd hm (Nat.not_lt_zero _)
  | succ m =>
   have l1:=spl_l e
   refine (@ih (r1 ++ [v]) (some (.val (kv v))) m (spl_s e) (Nat.lt_of_succ_lt_succ hm)).imp λx' hx=>?_
   rw [List.map_append,List.length_append] at hx
   exact whl_t (cmp_e' rfl rfl cmp_lt) (congrArg some (decide_eq_true (Int.ofNat_lt.2 (Nat.add_lt_add_left l1 1))))
    (x_nx (asgT_e (l:=[kv v,.int ((1 + r1.length + 1:Nat):Int)]) (σ2:=s19 r (1 + r1.length + 1) (r1.map kv) (some (.val (kv v))) st ro) (σ':=s19 r (1 + r1.length) (r1.map kv) x st ro) (call_e (σ':=s19 r (1 + r1.length) (r1.map kv) x st ro) rfl tc9 (@c9_i (n + 4) ro st r r1 r2 v h e)) rfl rfl)
     (x_nx (app_e (x:=.val (kv v)) (l0:=r1.map kv) (l:=r1.map kv) (σ':=s19 r (1 + r1.length + 1) (r1.map kv) (some (.val (kv v))) st ro) rfl rfl rfl (okLen_t (by rw [List.length_map]; exact Nat.le_of_lt (Nat.lt_of_lt_of_le l1 (up h.1.2 rfl))))) rfl)) hx
theorem head_c {cf r V} {a b:Nat} {σ:St} (hr:Row r) (h0:evE tabs cf (.var 0) σ=some (.val (.bytes (enc r)),σ)) (ha:evE tabs cf (.var a) σ=some (V,σ)) (hV:V=.val (.int ((1 + r.length:Nat):Int))) (hb:evE tabs cf (.var b) σ=some (.val (.int 1),σ)) :
  exS tabs cf (.ite (.or (.cmp .Gt (.var a) (.bi .len (.cons (.var 0) .nil))) (.cmp .Lt (.var a) (.var b))) (.cons .stuck .nil) .nil) σ=some (.next,σ):=by
 subst hV
 have le:1 + r.length≤(enc r).length:=by rw [enc_len,Nat.add_comm 1]; exact Nat.le_add_right _ _
 exact ite_n (or_f (cmp_e' ha (bi1_e h0 (len_b (up hr.enc_le rfl))) cmp_gt) (congrArg some (decide_eq_false (Int.not_lt.2 (Int.ofNat_le.2 le)))) (cmp_e' ha hb cmp_lt))
  (congrArg some (decide_eq_false (Int.not_lt.2 (Int.ofNat_le.2 (Nat.le_add_right 1 _)))))
theorem c19 {n ro st r} (h:Row r):cv (n + 6) 19 [.bytes (enc r)] ro st=some (.val (.tuple [.list (r.map kv),.int ((1 + r.length:Nat):Int)]),st):=by
 obtain ⟨x,hx⟩:=@loop19 n ro st r h r [] none 200 rfl (Nat.lt_of_le_of_lt h.1.2 (by decide))
 rw [cv19]
 exact fin_r (x_nx (asgT_e (σ2:=⟨[_,some (.val (.int ((1 + r.length:Nat):Int))),some (.val (.int 1)),none,none],st,ro⟩) (call_e rfl tc9 (@c9_0 (n + 4) ro st r h)) rfl rfl) (x_nx (head_c h rfl rfl rfl rfl)
  (x_nx (asg_e (σ':=⟨[_,some (.val (.int ((1 + r.length:Nat):Int))),some (.val (.int 1)),none,none],st,ro⟩) (x:=.olist []) rfl) (x_nx (x_whl.trans hx) (x_nx (ite_n (cmp_e' rfl rfl cmp_ni) (congrArg (λb=>some (!b)) (decide_eq_true rfl))) (x_rt (ret_e (tup2_e (x:=.val (.list (r.map kv))) (y:=.val (.int ((1 + r.length:Nat):Int))) (σ1:=⟨[some (.val (.bytes (enc r))),some (.val (.int ((1 + r.length:Nat):Int))),some (.val (.int ((1 + r.length:Nat):Int))),some (.val (.list (r.map kv))),x],st,ro⟩) rfl rfl))))))))
noncomputable abbrev B20:MSs:=(.cons (.append 3 (.call 16 (.cons (.var 0) (.cons (.var 2) (.cons (.var 4) .nil))))) (.cons (.aug 2 .Add (.call 14 (.cons (.var 4) .nil))) .nil))
noncomputable abbrev s20 (r:List Val) (k:Nat) (T:List Val) (y x:Option LV) (st:List SObj) (ro:Bool):St:=⟨[some (.val (.bytes (enc r))),y,some (.val (.int (k:Nat))),some (.olist T),x],st,ro⟩
theorem loop20 {n ro st r y} (h:Row r) (r2:List Val):∀ {r1 x},r=r1 ++ r2→∃ x',forGo (stp [4] (exSs tabs (cv (n + 6)) B20)) (r2.map kv) (s20 r (off r r1) r1 y x st ro)=some (.next,s20 r (off r r) r y x' st ro):=by
 induction r2 with
 | nil =>
  intro r1 x e
  rw [List.append_nil] at e
  subst e
  exact ⟨x,rfl⟩
 | cons v r2 ih =>
  intro r1 x e
  refine (@ih (r1 ++ [v]) (some (.val (kv v))) (spl_s e)).imp λx' hx=>?_
  rw [off_s] at hx
  rw [List.map_cons]
  refine fg_c (σ':=s20 r (off r r1 + (bd v).length) (r1 ++ [v]) y (some (.val (kv v))) st ro) ?_ hx
  rw [stp1]
  exact x_nx (app_e (x:=.val v) (l0:=r1) (l:=r1) (σ':=s20 r (off r r1) r1 y (some (.val (kv v))) st ro) rfl (call_e (σ':=s20 r (off r r1) r1 y (some (.val (kv v))) st ro) rfl tc16 (@c16_i (n + 2) ro st r r1 r2 v h e)) rfl (okLen_t (Nat.le_of_lt (Nat.lt_of_lt_of_le (spl_l e) (up h.1.2 rfl)))))
   (x_nx (aug_e (a:=(off r r1:Nat)) (σ1:=s20 r (off r r1) (r1 ++ [v]) y (some (.val (kv v))) st ro) rfl (call_e rfl tc14 (@c14 (n + 5) ro st v (h.2 v (spl_mem e)))) bin_add) rfl)
theorem c20 {n ro st r} (h:Row r):cv (n + 7) 20 [.bytes (enc r)] ro st=some (.val (.list r),st):=by
 obtain ⟨x,hx⟩:=@loop20 n ro st r (some (.val (.list (r.map kv)))) h r [] none rfl
 rw [off_e] at hx
 rw [cv20]
 exact fin_r (x_nx (asgT_e (σ2:=⟨[_,some (.val (.list (r.map kv))),some (.val (.int ((1 + r.length:Nat):Int))),none,none],st,ro⟩) (call_e rfl tc19 (@c19 n ro st r h)) rfl rfl)
  (x_nx (asg_e (σ':=⟨[_,some (.val (.list (r.map kv))),some (.val (.int ((1 + r.length:Nat):Int))),none,none],st,ro⟩) (x:=.olist []) rfl) (x_nx (for_e (xs:=r.map kv) rfl hx)
   (x_nx (ite_n (cmp_e' rfl (bi1_e rfl (len_b (up h.enc_le rfl))) cmp_ni) (congrArg (λb=>some (!b)) (decide_eq_true rfl))) (x_rt (ret_e rfl))))))
noncomputable abbrev C21:ME:=(.cmp .Lt (.var 3) (.var 2))
noncomputable abbrev B21:MSs:=(.cons (.assignT [6,3] (.call 9 (.cons (.var 0) (.cons (.var 3) .nil)))) (.cons (.ite (.cmp .Eq (.var 5) (.var 1)) (.cons (.ret (.call 16 (.cons (.var 0) (.cons (.var 4) (.cons (.var 6) .nil))))) .nil) .nil) (.cons (.aug 4 .Add (.call 14 (.cons (.var 6) .nil))) (.cons (.aug 5 .Add (.const (.int 1))) .nil))))
noncomputable abbrev s21 (r:List Val) (i k a c:Nat) (x:Option LV) (st:List SObj) (ro:Bool):St:=⟨[some (.val (.bytes (enc r))),some (.val (.int (i:Nat))),some (.val (.int ((1 + r.length:Nat):Int))),some (.val (.int (k:Nat))),some (.val (.int (a:Nat))),some (.val (.int (c:Nat))),x],st,ro⟩
noncomputable def fl21:Option Val→Fl
 | some v=>.ret (.val v)
 | none=>.next
theorem loop21 {n ro st r i} (h:Row r) (r2:List Val):∀ {r1 x m},r=r1 ++ r2→r2.length < m→r1.length≤i→∃ vs,whlGo (evE tabs (cv (n + 6)) C21) (exSs tabs (cv (n + 6)) B21) m (s21 r i (1 + r1.length) (off r r1) r1.length x st ro)
  = some (fl21 r2[i - r1.length]?,⟨vs,st,ro⟩):=by
 induction r2 with
 | nil =>
  intro r1 x m e hm hi
  cases m with
  | zero=>exact absurd hm (Nat.not_lt_zero _)
  | succ m =>
   rw [List.append_nil] at e
   subst e
   exact ⟨_,whl_f (cmp_e' rfl rfl cmp_lt) (congrArg some (decide_eq_false (Int.lt_irrefl _)))⟩
 | cons v r2 ih =>
  intro r1 x m e hm hi
  cases m with
  | zero=>exact absurd hm (Nat.not_lt_zero _)
  | succ m =>
   have l1:=spl_l e
   have w1:evE tabs (cv (n + 6)) C21 (s21 r i (1 + r1.length) (off r r1) r1.length x st ro)=some (.val (.bool (decide (((1 + r1.length:Nat):Int) < ((1 + r.length:Nat):Int)))),s21 r i (1 + r1.length) (off r r1) r1.length x st ro):=cmp_e' rfl rfl cmp_lt
   have w2:some (decide (((1 + r1.length:Nat):Int) < ((1 + r.length:Nat):Int)))=some true:=congrArg some (decide_eq_true (Int.ofNat_lt.2 (Nat.add_lt_add_left l1 1)))
   have a1:exS tabs (cv (n + 6)) (.assignT [6,3] (.call 9 (.cons (.var 0) (.cons (.var 3) .nil)))) (s21 r i (1 + r1.length) (off r r1) r1.length x st ro)=some (.next,s21 r i (1 + r1.length + 1) (off r r1) r1.length (some (.val (kv v))) st ro) :=
    asgT_e (call_e rfl tc9 (@c9_i (n + 5) ro st r r1 r2 v h e)) rfl rfl
   rcases Nat.lt_or_eq_of_le hi with hlt | heq
   ·refine (@ih (r1 ++ [v]) (some (.val (kv v))) m (spl_s e) (Nat.lt_of_succ_lt_succ hm) (by rw [List.length_append]; exact hlt)).imp λvs hx=>?_
    rw [off_s,List.length_append] at hx
    have es:(v :: r2)[i - r1.length]?=r2[i - (r1.length + [v].length)]?:=by
     obtain ⟨d,rfl⟩:=Nat.exists_eq_add_of_le hlt
     rw [show r1.length + [v].length=r1.length + 1 from rfl,Nat.add_sub_cancel_left,show r1.length.succ + d - r1.length=d + 1 from by rw [Nat.succ_add,←Nat.add_succ,Nat.add_sub_cancel_left]]; rfl
    rw [es]
    exact whl_t w1 w2 (x_nx a1 (x_nx (ite_n (cmp_e' rfl rfl cmp_ei) (congrArg some (decide_eq_false λq=>Nat.ne_of_lt hlt (Int.ofNat.inj q))))
     (x_nx (aug_e (a:=(off r r1:Nat)) (σ1:=s21 r i (1 + r1.length + 1) (off r r1) r1.length (some (.val (kv v))) st ro) rfl (call_e rfl tc14 (@c14 (n + 5) ro st v (h.2 v (spl_mem e)))) bin_add)
      (x_nx (aug_e (a:=(r1.length:Nat)) (b:=1) (σ1:=s21 r i (1 + r1.length + 1) (off r r1 + (bd v).length) r1.length (some (.val (kv v))) st ro) rfl rfl bin_add) rfl)))) hx
   ·subst heq
    rw [Nat.sub_self]
    exact ⟨_,whl_r w1 w2 (x_nx a1 (x_rt ((ite_t (cmp_e' rfl rfl cmp_ei) (congrArg some (decide_eq_true rfl))).trans (x_rt (ret_e (call_e (σ':=s21 r r1.length (1 + r1.length + 1) (off r r1) r1.length (some (.val (kv v))) st ro) rfl tc16 (@c16_i (n + 2) ro st r r1 r2 v h e)))))))⟩
theorem c21 {n ro st r} (h:Row r) (i:Nat) (_:i≤r.length):cv (n + 7) 21 [.bytes (enc r),.int i] ro st=some (.val (r[i]?.getD .none),st):=by
 obtain ⟨vs,hx⟩:=@loop21 n ro st r i h r [] none 200 rfl (Nat.lt_of_le_of_lt h.1.2 (by decide)) (Nat.zero_le _)
 have p1:exS tabs (cv (n + 6)) (.assignT [2,3] (.call 9 (.cons (.var 0) (.cons (.const (.int 0)) .nil)))) ⟨[some (.val (.bytes (enc r))),some (.val (.int i)),none,none,none,none,none],st,ro⟩
   = some (.next,⟨[some (.val (.bytes (enc r))),some (.val (.int i)),some (.val (.int ((1 + r.length:Nat):Int))),some (.val (.int 1)),none,none,none],st,ro⟩):=asgT_e (call_e rfl tc9 (@c9_0 (n + 5) ro st r h)) rfl rfl
 have p4:∀ {s b q},exS tabs (cv (n + 6)) s (s21 r i (1 + ([]:List Val).length) (off r []) 0 none st ro)=q→exSs tabs (cv (n + 6)) (.cons (.assign 4 (.var 2)) (.cons (.assign 5 (.const (.int 0))) (.cons s b))) ⟨[some (.val (.bytes (enc r))),some (.val (.int i)),some (.val (.int ((1 + r.length:Nat):Int))),some (.val (.int 1)),none,none,none],st,ro⟩=sq q (exSs tabs (cv (n + 6)) b):=by
  intro s b q hq
  rw [←hq]; rfl
 rw [cv21]
 have fin2:fin ro (sq (some (fl21 r[i]?,⟨vs,st,ro⟩)) (exSs tabs (cv (n + 6)) (.cons (.ret (.const .none)) .nil)))=some (.val (r[i]?.getD .none),st):=by
  cases r[i]? with
  | none=>exact (congrArg (fin ro) (x_rt (b:=.nil) (@ret_e (cv (n + 6)) ⟨vs,st,ro⟩ ⟨vs,st,ro⟩ (.const .none) (.val .none) rfl))).trans fin_ret
  | some v=>exact fin_ret
 rw [←fin2]
 exact congrArg (fin ro) (x_nx p1 (x_nx (head_c h rfl rfl rfl rfl) (p4 (x_whl.trans hx))))
noncomputable def cB:List Nat:=[98,105,110,97,114,121]
noncomputable def cN:List Nat:=[110,111,99,97,115,101]
noncomputable def cR:List Nat:=[114,116,114,105,109]
noncomputable def colls:List (List Nat):=[cB,cN,cR]
noncomputable def fo (v:Val) (c:List Nat):Val:=match v with
 | .str l=>if c=cN then .str (l.map λx=>if 65≤x∧x≤90 then x + 32 else x) else if c=cR then .str (rstripB l) else .str l
 | v=>v
noncomputable def ended (l:List UInt8):List UInt8:=(l.flatMap λx=>if x=0 then [0,255] else [x]) ++ [0,0]
noncomputable def be8 (i:Int):List UInt8:=[7,6,5,4,3,2,1,0].map λj=>UInt8.ofNat (((i + 9223372036854775808) / 256 ^ j) % 256).toNat
noncomputable def sp (v:Val) (c:List Nat):List UInt8:=match fo v c with
 | .none=>[1]
 | .int i=>2 :: be8 i
 | .str l=>3 :: ended (l.map UInt8.ofNat)
 | .bytes l=>4 :: ended l
 | _=>[]
theorem forall_colls {P:List Nat→Prop} (h:P cB∧P cN∧P cR):∀ c∈colls,P c:=by
 intro c hc
 simp only [colls,List.mem_cons,List.not_mem_nil,or_false] at hc
 rcases hc with rfl | rfl | rfl
 ·exact h.1
 ·exact h.2.1
 ·exact h.2.2
theorem c27 {n st}:∀ v∈menu,∀ c∈colls,cv (n + 4) 27 [v,.str c] false st=some (.val (.barr (sp v c)),st):=by
 apply forall_menu
 refine ⟨?_,?_,?_,?_,?_,?_,?_,?_,?_,?_,?_,?_,?_⟩ <;> (apply forall_colls; refine ⟨?_,?_,?_⟩ <;> kernel_rfl)
noncomputable abbrev Col:=List Nat×Bool
noncomputable def comp1 (x:UInt8):UInt8:=UInt8.ofNat (255 - x.toNat)
noncomputable def colKey (c:Col) (v:Val):List UInt8:=if c.2 then (sp v c.1).map comp1 else sp v c.1
noncomputable def key:List Col→List Val→List UInt8
 | c :: cs,v :: r=>colKey c v ++ key cs r
 | _,_=>[]
noncomputable def kiObj (cs:List Col):SObj:=.inst 0 [(0,.val (.tuple (cs.map λc=>.str c.1))),(1,.val (.tuple (cs.map λc=>.bool c.2)))]
theorem sp_len:∀ v∈menu,∀ c∈colls,(sp v c).length≤12:=by
 apply forall_menu
 refine ⟨?_,?_,?_,?_,?_,?_,?_,?_,?_,?_,?_,?_,?_⟩ <;> (apply forall_colls; decide +kernel)
theorem fget_c {x y}:fget [(0,x),(1,y)] 0=some x:=rfl
theorem fget_d {x y}:fget [(0,x),(1,y)] 1=some y:=rfl
theorem c23 {n st o cs} (h:st[o]?=some (kiObj cs)) (hl:cs.length≤2):cv (n + 1) 23 [.obj o] false st=some (.val (.int cs.length),st):=by
 rw [cv23]
 simp (disch:=first | omega | (simp; try omega)) [b23,h,kiObj,fget_c,fget_d,qb1,qb2,qb3,qb5,qb6,qb7,qb8,qb9,qb10,qb11,okLen_t]
noncomputable def okC (cs:List Col):Prop:=(1≤cs.length∧cs.length≤2)∧∀ c∈cs,c.1∈colls
theorem subv_t0 {a:Val} {r} (h:r.length≤3):subv (.tuple (a :: r)) (.int 0)=some a:=by
 simp [qs1,qs2,qs3]
 rw [place_int (by decide) (by simp <;> omega) (by simp; omega)]; rfl
theorem subv_t1 {a b:Val} {r} (h:r.length≤3):subv (.tuple (a :: b :: r)) (.int 1)=some b:=by
 simp [qs1,qs2,qs3]
 rw [place_int (by decide) (by simp <;> omega) (by simp; omega)]; rfl
theorem subv_l0 {a:Val} {r} (h:r.length≤300):subv (.list (a :: r)) (.int 0)=some a:=by
 simp [qs1,qs2,qs3]
 rw [place_int (by decide) (by simp <;> omega) (by simp; omega)]; rfl
theorem subv_l1 {a b:Val} {r} (h:r.length≤300):subv (.list (a :: b :: r)) (.int 1)=some b:=by
 simp [qs1,qs2,qs3]
 rw [place_int (by decide) (by simp <;> omega) (by simp; omega)]; rfl
theorem c24_0 {n st o c cs} (h:st[o]?=some (kiObj (c :: cs))) (hl:cs.length≤1):cv (n + 1) 24 [.obj o,.int 0] false st=some (.val (.str c.1),st):=by
 rw [cv24]
 simp (disch:=first | omega | (simp; try omega)) [b24,h,kiObj,fget_c,fget_d,qb1,qb2,qb3,qb5,qb6,qb7,qb8,qb9,qb10,qb11,okLen_t,cmp_lt,dlt,subv_t0]
theorem c24_1 {n st o c d} (h:st[o]?=some (kiObj [c,d])):cv (n + 1) 24 [.obj o,.int 1] false st=some (.val (.str d.1),st):=by
 rw [cv24]
 simp (disch:=first | omega | (simp; try omega)) [b24,h,kiObj,fget_c,fget_d,qb1,qb2,qb3,qb5,qb6,qb7,qb8,qb9,qb10,qb11,okLen_t,cmp_lt,dlt,subv_t1]
theorem c25_0 {n st o c cs} (h:st[o]?=some (kiObj (c :: cs))) (hl:cs.length≤1):cv (n + 1) 25 [.obj o,.int 0] false st=some (.val (.bool c.2),st):=by
 rw [cv25]
 simp (disch:=first | omega | (simp; try omega)) [b25,h,kiObj,fget_c,fget_d,qb1,qb2,qb3,qb5,qb6,qb7,qb8,qb9,qb10,qb11,okLen_t,cmp_lt,dlt,subv_t0]
theorem c25_1 {n st o c d} (h:st[o]?=some (kiObj [c,d])):cv (n + 1) 25 [.obj o,.int 1] false st=some (.val (.bool d.2),st):=by
 rw [cv25]
 simp (disch:=first | omega | (simp; try omega)) [b25,h,kiObj,fget_c,fget_d,qb1,qb2,qb3,qb5,qb6,qb7,qb8,qb9,qb10,qb11,okLen_t,cmp_lt,dlt,subv_t1]
theorem flip_loop {cf a0 a1 a3 a4 st}:∀ (l acc:List UInt8) (x:Option LV),acc.length + l.length≤1000→∃ y,
  forGo (stp [5] (exSs tabs cf (.cons (.append 2 (.bin .Sub (.const (.int 255)) (.var 5))) .nil))) (l.map λb=>.int (b.toNat:Int)) ⟨[a0,a1,some (.obarr acc),a3,a4,x],st,false⟩
   = some (.next,⟨[a0,a1,some (.obarr (acc ++ l.map comp1)),a3,a4,y],st,false⟩)
 | [],acc,x,_=>⟨x,by simp [forGo_nil]⟩
 | b :: l,acc,x,h=>by
  have hb:=b.toNat_lt
  simp only [List.length_cons] at h
  obtain ⟨y,hy⟩:=flip_loop (cf:=cf) (a0:=a0) (a1:=a1) (a3:=a3) (a4:=a4) (st:=st) l (acc ++ [comp1 b]) (some (.val (.int b.toNat))) (by simp; omega)
  refine ⟨y,?_⟩
  have e:UInt8.ofNat (255 - b.toNat)=comp1 b:=rfl
  have c1:(b.toNat:Int)≤255:=by omega
  have c2:okLen acc.length=true:=okLen_t (by omega)
  have c3:(0:Int)≤b.toNat:=by omega
  have c4:(255:Int) - b.toNat < 256:=by omega
  rw [List.map_cons,forGo_cons,stp1]
  simp [bin_sub,c1,c2,c3,c4,e]
  simpa using hy
section
variable {cf:CF} {σ σ1 σ2 σ':St}
theorem meth_e {a j es k c fs vs r st'} (ha:evE tabs cf a σ=some (.val (.obj k),σ1)) (hk:σ1.sto k=some (.inst c fs)) (hc:tabs.cls j=some c) (hes:evEs tabs cf es σ1=some (vs,σ2)) (h:cf j (.obj k :: vs) σ2.ro σ2.store=some (r,st')) :
  evE tabs cf (.meth a j es) σ=some (r,⟨σ2.vars,st',σ2.ro⟩):=by rw [e_meth,ha,kmeth_obj,hk,hc,kmethB_some,hes,kmethC_some,h,kcf_some]
theorem es1_e {a x} (h1:evE tabs cf a σ=some (x,σ1)):evEs tabs cf (.cons a .nil) σ=some ([x.frz],σ1):=by rw [es_cons,h1,kcons_some]; rfl
theorem es2_e {a b x y} (h1:evE tabs cf a σ=some (x,σ1)) (h2:evE tabs cf b σ1=some (y,σ2)):evEs tabs cf (.cons a (.cons b .nil)) σ=some ([x.frz,y.frz],σ2):=by rw [es_cons,h1,kcons_some,es_cons,h2,kcons_some]; rfl
theorem ext_r {i e b l l0} (h0:σ.get i=some (.obarr l0)) (h:evE tabs cf e σ=some (.val (.barr b),σ')) (hg:σ'.get i=some (.obarr l)) (ok:okLen (l.length + b.length)=true):exS tabs cf (.extend i e) σ=some (.next,σ'.set i (.obarr (l ++ b))):=by
 rw [x_extend,h0,kex_some,h,ka_some,sEx_def,hg]; exact if_pos ok
end
noncomputable abbrev B28:MSs:=(.cons (.assign 4 (.call 27 (.cons (.sub (.var 0) (.var 3)) (.cons (.meth (.var 1) 24 (.cons (.var 3) .nil)) .nil)))) (.cons (.ite (.meth (.var 1) 25 (.cons (.var 3) .nil)) (.cons (.for_ [5] (.ex (.var 4)) (.cons (.append 2 (.bin .Sub (.const (.int 255)) (.var 5))) .nil)) .nil) (.cons (.extend 2 (.var 4)) .nil)) .nil))
noncomputable abbrev s28 (vs:List Val) (o:Nat) (F:List UInt8) (x y z:Option LV) (st:List SObj):St:=⟨[some (.val (.list vs)),some (.val (.obj o)),some (.obarr F),x,y,z],st,false⟩
theorem body28 {n st o v vs F x3 x4 x5 fs} {c:Col} {i:Int} (hv:subv (.list vs) (.int i)=some v) (h24:cv (n + 5) 24 [.obj o,.int i] false st=some (.val (.str c.1),st)) (h25:cv (n + 5) 25 [.obj o,.int i] false st=some (.val (.bool c.2),st))
  (hm:v∈menu) (hc:c.1∈colls) (ho:st[o]?=some (.inst 0 fs)) (hF:F.length≤100) :
  ∃ y,stp [3] (exSs tabs (cv (n + 5)) B28) (.int i) (s28 vs o F x3 x4 x5 st)=some (.next,s28 vs o (F ++ colKey c v) (some (.val (.int i))) (some (.val (.barr (sp v c.1)))) y st):=by
 have h27:=@c27 (n + 1) st v hm c.1 hc
 have hs:=sp_len v hm c.1 hc
 unfold colKey
 generalize sp v c.1=S at h27 hs ⊢
 obtain ⟨c1,c2⟩:=c
 have a1:exS tabs (cv (n + 5)) (.assign 4 (.call 27 (.cons (.sub (.var 0) (.var 3)) (.cons (.meth (.var 1) 24 (.cons (.var 3) .nil)) .nil)))) (s28 vs o F (some (.val (.int i))) x4 x5 st)=some (.next,s28 vs o F (some (.val (.int i))) (some (.val (.barr S))) x5 st) :=
  asg_e (x:=.val (.barr S)) (call_e (vs:=[v,.str c1]) (σ':=s28 vs o F (some (.val (.int i))) x4 x5 st) (es2_e (x:=.val v) (y:=.val (.str c1)) (sub_e (x:=.val (.list vs)) (y:=.val (.int i)) rfl rfl hv) (meth_e (k:=o) (σ1:=s28 vs o F (some (.val (.int i))) x4 x5 st) (σ2:=s28 vs o F (some (.val (.int i))) x4 x5 st) rfl ho tc24 (es1_e rfl) h24)) tc27 h27)
 have a2:evE tabs (cv (n + 5)) (.meth (.var 1) 25 (.cons (.var 3) .nil)) (s28 vs o F (some (.val (.int i))) (some (.val (.barr S))) x5 st)=some (.val (.bool c2),s28 vs o F (some (.val (.int i))) (some (.val (.barr S))) x5 st) :=
  meth_e (k:=o) (σ1:=s28 vs o F (some (.val (.int i))) (some (.val (.barr S))) x5 st) (σ2:=s28 vs o F (some (.val (.int i))) (some (.val (.barr S))) x5 st) rfl ho tc25 (es1_e rfl) h25
 have ok:F.length + S.length≤1000:=Nat.le_trans (Nat.add_le_add hF hs) (by decide)
 rw [stp1]
 cases c2 with
 | true =>
  exact (@flip_loop (cv (n + 5)) (some (.val (.list vs))) (some (.val (.obj o))) (some (.val (.int i))) (some (.val (.barr S))) st S F x5 ok).imp λy hy =>
   x_nx a1 (x_nx ((ite_t a2 rfl).trans (x_nx (for_e (σ':=s28 vs o F (some (.val (.int i))) (some (.val (.barr S))) x5 st) rfl hy) rfl)) rfl)
 | false=>exact ⟨x5,x_nx a1 (x_nx ((ite_f a2 rfl).trans (x_nx (ext_r (l0:=F) (σ':=s28 vs o F (some (.val (.int i))) (some (.val (.barr S))) x5 st) rfl rfl rfl (okLen_t (up ok rfl))) rfl)) rfl)⟩
theorem ret28 {n st o vs F x y z} (h:F.length≤100):exSs tabs (cv (n + 5)) (.cons (.ret (.bi .bytes (.cons (.var 2) .nil))) .nil) (s28 vs o F x y z st)=some (.ret (.val (.bytes F)),⟨[some (.val (.list vs)),some (.val (.obj o)),some (.val (.barr F)),x,y,z],st,false⟩) :=
 x_rt (ret_e (bi1_e (x:=.val (.barr F)) rfl (by_r (up h rfl))))
theorem fin28 {n st o vs F x y z xs} (hl:vs.length≤100) (hr:range? [.int vs.length]=some xs) (h:forGo (stp [3] (exSs tabs (cv (n + 5)) B28)) xs (s28 vs o [] none none none st)=some (.next,s28 vs o F x y z st)) (hF:F.length≤100) :
  cv (n + 6) 28 [.list vs,.obj o] false st=some (.val (.bytes F),st):=by
 rw [cv28]
 exact fin_r (x_nx (σ':=s28 vs o [] none none none st) rfl (x_nx (for_e (rng_e (vs:=[.int vs.length]) (σ':=s28 vs o [] none none none st) (es1_e (x:=.val (.int vs.length)) (bi1_e (x:=.val (.list vs)) rfl (len_li (up hl rfl)))) hr) h) (ret28 hF)))
theorem ck_len {v c} (hm:v∈menu) (hc:c.1∈colls):(colKey c v).length≤12:=by
 have:=sp_len v hm c.1 hc
 unfold colKey
 cases c.2 with
 | true=>rw [if_pos rfl,List.length_map]; exact this
 | false=>exact this
theorem c28_1 {n st o c a} (h:st[o]?=some (kiObj [c])) (hc:c.1∈colls) (ha:a∈menu) :
  cv (n + 6) 28 [.list [a],.obj o] false st=some (.val (.bytes (key [c] [a])),st):=by
 obtain ⟨y,b1⟩:=@body28 n st o a [a] [] none none none _ c 0 (subv_l0 (Nat.zero_le _)) (c24_0 h (Nat.zero_le _)) (c25_0 h (Nat.zero_le _)) ha hc h (Nat.zero_le _)
 show _=some (LV.val (.bytes (colKey c a ++ [])),st)
 rw [List.append_nil]
 exact fin28 (Nat.le_of_ble_eq_true rfl) rfl (fg_c b1 rfl) (up (ck_len ha hc) rfl)
theorem c28_2 {n st o c d a b} (h:st[o]?=some (kiObj [c,d])) (hc:c.1∈colls) (hd:d.1∈colls) (ha:a∈menu) (hb:b∈menu) :
  cv (n + 6) 28 [.list [a,b],.obj o] false st=some (.val (.bytes (key [c,d] [a,b])),st):=by
 obtain ⟨y,b1⟩:=@body28 n st o a [a,b] [] none none none _ c 0 (subv_l0 (Nat.le_of_ble_eq_true rfl)) (c24_0 h (Nat.le_refl 1)) (c25_0 h (Nat.le_refl 1)) ha hc h (Nat.zero_le _)
 obtain ⟨z,b2⟩:=@body28 n st o b [a,b] (colKey c a) (some (.val (.int 0))) (some (.val (.barr (sp a c.1)))) y _ d 1 (subv_l1 (Nat.le_of_ble_eq_true rfl)) (c24_1 h) (c25_1 h) hb hd h (up (ck_len ha hc) rfl)
 show _=some (LV.val (.bytes (colKey c a ++ (colKey d b ++ []))),st)
 rw [List.append_nil]
 exact fin28 (Nat.le_of_ble_eq_true rfl) rfl (fg_c b1 (fg_c b2 rfl)) (up (app_le (ck_len ha hc) (ck_len hb hd)) rfl)
noncomputable def cmpK:List UInt8→List UInt8→Option Ordering
 | [],[]=>some .eq
 | a :: r,b :: t=>if a=b then cmpK r t else some (if a < b then .lt else .gt)
 | _,_=>none
noncomputable def clsN:Val→Int
 | .none=>0
 | .int _=>1
 | .str _=>2
 | _=>3
noncomputable def neB (v w:Val):Bool:=(cmpop .NotEq v w).getD false
noncomputable def ltB (v w:Val):Bool:=(cmpop .Lt v w).getD false
noncomputable def sg1 (c:Col) (v w:Val):Int :=
 let a:=fo v c.1
 let b:=fo w c.1
 let s:=clsN a - clsN b
 let s:=if s=0∧neB a b=true then (if ltB a b then -1 else 1) else s
 if c.2 then -s else s
noncomputable def sgn:List Col→List Val→List Val→Int
 | c :: cs,v :: r,w :: t=>if sg1 c v w≠0 then sg1 c v w else sgn cs r t
 | _,_,_=>0
noncomputable def sgOrd (i:Int):Ordering:=if i < 0 then .lt else if i=0 then .eq else .gt
theorem cmp_key:∀ v∈menu,∀ w∈menu,∀ c∈colls,∀ d:Bool,cmpK (colKey (c,d) v) (colKey (c,d) w)=some (sgOrd (sg1 (c,d) v w)):=by
 have h:(menu.all λv=>menu.all λw=>colls.all λc=>[true,false].all λd=>cmpK (colKey (c,d) v) (colKey (c,d) w) == some (sgOrd (sg1 (c,d) v w)))=true:=by decide +kernel
 intro v hv w hw c hc d
 rw [List.all_eq_true] at h
 have h:=h v hv
 rw [List.all_eq_true] at h
 have h:=h w hw
 rw [List.all_eq_true] at h
 have h:=h c hc
 rw [List.all_eq_true] at h
 have h:=h d (by cases d <;> simp)
 simpa using h
theorem cmpK_eq:∀ {a b},cmpK a b=some .eq→a=b
 | [],[],_=>rfl
 | a :: r,b :: t,h=>by
  simp only [cmpK] at h
  split at h
  ·next e=>rw [e,cmpK_eq h]
  ·split at h <;> simp at h
 | [],_ :: _,h=>by simp [cmpK] at h
 | _ :: _,[],h=>by simp [cmpK] at h
theorem bl_nil {l}:bytesLt l []=false:=by cases l <;> rfl
theorem bl_cons {a b r t}:bytesLt (a :: r) (b :: t)=if a < b then true else if a=b then bytesLt r t else false:=by
 simp only [bytesLt,Builtin.Bytes.order]
 by_cases h1:a < b
 ·simp [h1]
 ·by_cases h2:a > b
  ·have:a≠b:=λe=>by subst e; exact absurd h2 (UInt8.lt_irrefl _)
   simp [h1,h2,this]
  ·have:a=b:=UInt8.le_antisymm (UInt8.not_lt.mp h2) (UInt8.not_lt.mp h1)
   simp [this]
theorem bl_app {x s t}:bytesLt (x ++ s) (x ++ t)=bytesLt s t:=by
 induction x with
 | nil=>rfl
 | cons a r ih=>simp [bl_cons,ih]
theorem cmpK_lt:∀ {a b s t},cmpK a b=some .lt→bytesLt (a ++ s) (b ++ t)=true
 | a :: r,b :: q,s,t,h=>by
  simp only [cmpK] at h
  rw [List.cons_append,List.cons_append,bl_cons]
  split at h
  ·next e=>subst e; simp [cmpK_lt h]
  ·split at h
   ·next e=>simp [e]
   ·simp at h
 | [],[],_,_,h=>by simp [cmpK] at h
 | [],_ :: _,_,_,h=>by simp [cmpK] at h
 | _ :: _,[],_,_,h=>by simp [cmpK] at h
theorem bl_irr {a}:bytesLt a a=false:=by
 induction a with
 | nil=>rfl
 | cons a r ih=>simp [bl_cons,ih]
theorem bl_tr:∀ {a b c},bytesLt a b=true→bytesLt b c=true→bytesLt a c=true
 | _,[],_,h,_=>by rw [bl_nil] at h; cases h
 | _,_ :: _,[],_,h=>by rw [bl_nil] at h; cases h
 | [],_ :: _,_ :: _,_,_=>rfl
 | a :: r,b :: t,c :: q,h1,h2=>by
  rw [bl_cons] at *
  by_cases e1:a < b
  ·by_cases e2:b < c
   ·simp [UInt8.lt_trans e1 e2]
   ·by_cases e3:b=c
    ·subst e3; simp [e1]
    ·simp [e2,e3] at h2
  ·by_cases e1':a=b
   ·subst e1'
    by_cases e2:a < c
    ·simp [e2]
    ·by_cases e3:a=c
     ·subst e3; simp at h1 h2 ⊢; exact bl_tr h1 h2
     ·simp [e2,e3] at h2
   ·simp [e1,e1'] at h1
theorem bl_tri:∀ {a b},a≠b→bytesLt a b=false→bytesLt b a=true
 | [],[],h,_=>absurd rfl h
 | [],_ :: _,_,h=>by cases h
 | _ :: _,[],_,_=>rfl
 | a :: r,b :: t,h,g=>by
  rw [bl_cons] at *
  by_cases e1:a < b
  ·simp [e1] at g
  ·by_cases e2:a=b
   ·subst e2
    simp at g h ⊢
    exact bl_tri h g
   ·have:b < a:=UInt8.lt_of_le_of_ne (UInt8.not_lt.mp e1) (λe=>e2 e.symm)
    simp [this]
theorem cmpK_gt:∀ {a b},cmpK a b=some .gt→cmpK b a=some .lt
 | a :: r,b :: q,h=>by
  simp only [cmpK] at h ⊢
  split at h
  ·next e=>subst e; simp [cmpK_gt h]
  ·next e =>
   split at h
   ·simp at h
   ·next e2 =>
    have:b < a:=UInt8.lt_of_le_of_ne (UInt8.not_lt.mp e2) (λx=>e x.symm)
    simp [this,λx=>e (Eq.symm x)]
    intro x; exact absurd x.symm e
 | [],[],h=>by simp [cmpK] at h
 | [],_ :: _,h=>by simp [cmpK] at h
 | _ :: _,[],h=>by simp [cmpK] at h
theorem key_sgn:∀ {cs:List Col} {r t:List Val},(∀ c∈cs,c.1∈colls)→(∀ v∈r,v∈menu)→(∀ v∈t,v∈menu)→cs.length≤r.length→cs.length≤t.length →
  (sgn cs r t < 0∧bytesLt (key cs r) (key cs t)=true)∨(sgn cs r t=0∧key cs r=key cs t)∨(0 < sgn cs r t∧bytesLt (key cs t) (key cs r)=true)
 | [],r,t,_,_,_,_,_=>.inr (.inl ⟨by simp [sgn],by simp [key]⟩)
 | c :: cs,[],t,_,_,_,h,_=>by simp at h
 | c :: cs,v :: r,[],_,_,_,_,h=>by simp at h
 | c :: cs,v :: r,w :: t,hc,hr,ht,h1,h2=>by
  have hk:=cmp_key v (hr v (by simp)) w (ht w (by simp)) c.1 (hc c (by simp)) c.2
  have ih:=@key_sgn cs r t (λc h=>hc c (by simp [h])) (λc h=>hr c (by simp [h])) (λc h=>ht c (by simp [h])) (by simpa using h1) (by simpa using h2)
  simp only [sgn,key]
  change cmpK (colKey c v) (colKey c w)=some (sgOrd (sg1 c v w)) at hk
  unfold sgOrd at hk
  split at hk
  ·next e =>
   rw [if_pos (by omega)]
   exact .inl ⟨e,cmpK_lt hk⟩
  ·split at hk
   ·next e =>
    rw [if_neg (by omega),cmpK_eq hk,bl_app,bl_app]
    rcases ih with ⟨a,b⟩ | ⟨a,b⟩ | ⟨a,b⟩
    ·exact .inl ⟨a,b⟩
    ·exact .inr (.inl ⟨a,by rw [b]⟩)
    ·exact .inr (.inr ⟨a,b⟩)
   ·rw [if_pos (by omega)]
    exact .inr (.inr ⟨by omega,cmpK_lt (cmpK_gt hk)⟩)
theorem cv44 {n v0 v1 ro st}:cv (n + 1) 44 [v0,v1] ro st=fin ro (exSs tabs (cv n) b44 ⟨[some (.val v0),some (.val v1),none],st,ro⟩):=by kernel_rfl
theorem cv43 {n v0 ro st}:cv (n + 1) 43 [v0] ro st=fin ro (exSs tabs (cv n) b43 ⟨[some (.val v0)],st,ro⟩):=by kernel_rfl
theorem c44 {n ro st}:∀ v∈menu,∀ c∈colls,cv (n + 1) 44 [v,.str c] ro st=some (.val (fo v c),st):=by
 apply forall_menu
 refine ⟨?_,?_,?_,?_,?_,?_,?_,?_,?_,?_,?_,?_,?_⟩ <;> (apply forall_colls; refine ⟨?_,?_,?_⟩ <;> exact cv44.trans (fin_r rfl))
theorem c43 {n ro st}:∀ v∈menu,cv (n + 1) 43 [v] ro st=some (.val (.int (clsN v)),st):=by
 apply forall_menu
 refine ⟨?_,?_,?_,?_,?_,?_,?_,?_,?_,?_,?_,?_,?_⟩ <;> exact cv43.trans (fin_r rfl)
theorem fo_menu:∀ v∈menu,∀ c∈colls,fo v c∈menu:=by
 apply forall_menu
 refine ⟨?_,?_,?_,?_,?_,?_,?_,?_,?_,?_,?_,?_,?_⟩ <;> (apply forall_colls; refine ⟨?_,?_,?_⟩ <;> (unfold menu; repeat (first | exact List.Mem.head _ | apply List.Mem.tail)))
theorem pair:∀ v∈menu,∀ w∈menu,clsN v - clsN w=0→cmpop .NotEq v w=some (neB v w)∧(neB v w=true→cmpop .Lt v w=some (ltB v w)):=by
 have h:(menu.all λv=>menu.all λw=>(clsN v - clsN w != 0) || ((cmpop .NotEq v w == some (neB v w)) && (!neB v w || cmpop .Lt v w == some (ltB v w))))=true:=by decide +kernel
 intro v hv w hw e
 rw [List.all_eq_true] at h
 have h:=h v hv
 rw [List.all_eq_true] at h
 have h:=h w hw
 simp [e] at h
 refine ⟨h.1,λg=>?_⟩
 rcases h.2 with h | h
 ·rw [g] at h; cases h
 ·exact h
noncomputable def colV (c:Col):Val:=.tuple [.str c.1,.bool c.2]
noncomputable def B45:MSs:=(.cons (.assignT [4,5] (.sub (.var 2) (.var 3))) (.cons (.assignT [6,7] (.tuple (.cons (.call 44 (.cons (.sub (.var 0) (.var 3)) (.cons (.var 4) .nil))) (.cons (.call 44 (.cons (.sub (.var 1) (.var 3)) (.cons (.var 4) .nil))) .nil)))) (.cons (.assign 8 (.bin .Sub (.call 43 (.cons (.var 6) .nil)) (.call 43 (.cons (.var 7) .nil)))) (.cons (.ite (.and (.cmp .Eq (.var 8) (.const (.int 0))) (.cmp .NotEq (.var 6) (.var 7))) (.cons (.assign 8 (.ite (.cmp .Lt (.var 6) (.var 7)) (.neg (.const (.int 1))) (.const (.int 1)))) .nil) .nil) (.cons (.ite (.cmp .NotEq (.var 8) (.const (.int 0))) (.cons (.ret (.ite (.var 5) (.neg (.var 8)) (.var 8))) .nil) .nil) .nil)))))
noncomputable def e45 (x y:Val):Int:=if clsN x - clsN y=0∧neB x y=true then (if ltB x y=true then -1 else 1) else clsN x - clsN y
theorem sg1_e {c v w}:sg1 c v w=if c.2 then -e45 (fo v c.1) (fo w c.1) else e45 (fo v c.1) (fo w c.1):=rfl
noncomputable def fl45 (z:Int):Fl:=if z=0 then .next else .ret (.val (.int z))
noncomputable abbrev s45 (A B C:Val) (j3 j4 j5 j6 j7 j8:Option LV) (st:List SObj) (ro:Bool):St:=⟨[some (.val A),some (.val B),some (.val C),j3,j4,j5,j6,j7,j8],st,ro⟩
noncomputable abbrev v_ (x:Val):Option LV:=some (.val x)
theorem cls45 {n ro st A B C j3 j4 j5 j8 x y} (hx:x∈menu) (hy:y∈menu):exS tabs (cv (n + 1)) (.assign 8 (.bin .Sub (.call 43 (.cons (.var 6) .nil)) (.call 43 (.cons (.var 7) .nil)))) (s45 A B C j3 j4 j5 (v_ x) (v_ y) j8 st ro)
  = some (.next,s45 A B C j3 j4 j5 (v_ x) (v_ y) (v_ (.int (clsN x - clsN y))) st ro) :=
 asg_e (x:=.val (.int (clsN x - clsN y))) (bin_e (x:=.val (.int (clsN x))) (y:=.val (.int (clsN y))) (call_e (σ':=s45 A B C j3 j4 j5 (v_ x) (v_ y) j8 st ro) rfl tc43 (@c43 n ro st x hx)) (call_e (σ':=s45 A B C j3 j4 j5 (v_ x) (v_ y) j8 st ro) rfl tc43 (@c43 n ro st y hy)) bin_sub)
theorem dif45 {cf ro st A B C j3 j4 j5 x y} (hx:x∈menu) (hy:y∈menu):exS tabs cf (.ite (.and (.cmp .Eq (.var 8) (.const (.int 0))) (.cmp .NotEq (.var 6) (.var 7))) (.cons (.assign 8 (.ite (.cmp .Lt (.var 6) (.var 7)) (.neg (.const (.int 1))) (.const (.int 1)))) .nil) .nil) (s45 A B C j3 j4 j5 (v_ x) (v_ y) (v_ (.int (clsN x - clsN y))) st ro)
  = some (.next,s45 A B C j3 j4 j5 (v_ x) (v_ y) (v_ (.int (e45 x y))) st ro):=by
 unfold e45
 by_cases e:clsN x - clsN y=0
 ·have p:=pair x hx y hy e
  cases g:neB x y with
  | true =>
   have q:=p.2 g
   rw [if_pos ⟨e,rfl⟩]
   refine (ite_t (and_t (cmp_e' (v:=decide (clsN x - clsN y=0)) rfl rfl cmp_ei) (congrArg some (decide_eq_true e)) (cmp_e' (x:=.val x) (y:=.val y) rfl rfl p.1)) (congrArg some g)).trans ?_
   have q:evE tabs cf (.cmp .Lt (.var 6) (.var 7)) (s45 A B C j3 j4 j5 (v_ x) (v_ y) (v_ (.int (clsN x - clsN y))) st ro)=some (.val (.bool (ltB x y)),s45 A B C j3 j4 j5 (v_ x) (v_ y) (v_ (.int (clsN x - clsN y))) st ro):=cmp_e' (x:=.val x) (y:=.val y) rfl rfl q
   cases l:ltB x y with
   | true=>exact x_nx (asg_e (x:=.val (.int (-1))) (by rw [e_ite,q,l]; rfl)) rfl
   | false=>exact x_nx (asg_e (x:=.val (.int 1)) (by rw [e_ite,q,l]; rfl)) rfl
  | false =>
   rw [if_neg (λh=>Bool.noConfusion h.2)]
   exact ite_n (and_t (cmp_e' (v:=decide (clsN x - clsN y=0)) rfl rfl cmp_ei) (congrArg some (decide_eq_true e)) (cmp_e' (x:=.val x) (y:=.val y) rfl rfl p.1)) (congrArg some g)
 ·rw [if_neg (λh=>e h.1)]
  exact ite_n (and_f (cmp_e' (v:=decide (clsN x - clsN y=0)) rfl rfl cmp_ei) (congrArg some (decide_eq_false e))) (congrArg some (decide_eq_false e))
theorem end45 {cf ro st A B C j3 j4 x y d} {z:Int}:exSs tabs cf (.cons (.ite (.cmp .NotEq (.var 8) (.const (.int 0))) (.cons (.ret (.ite (.var 5) (.neg (.var 8)) (.var 8))) .nil) .nil) .nil) (s45 A B C j3 j4 (v_ (.bool d)) x y (v_ (.int z)) st ro)
  = some (fl45 (if d then -z else z),s45 A B C j3 j4 (v_ (.bool d)) x y (v_ (.int z)) st ro):=by
 by_cases h:z=0
 ·subst h
  cases d with
  | true=>rfl
  | false=>rfl
 ·refine (congrArg (λq=>sq q (exSs tabs cf .nil)) (ite_t (cmp_e' (x:=.val (.int z)) (y:=.val (.int 0)) (v:=!decide (z=0)) rfl rfl cmp_ni) (congrArg (λb=>some (!b)) (decide_eq_false h)))).trans ?_
  cases d with
  | true=>rw [if_pos rfl,fl45,if_neg (λq=>h (Int.neg_eq_zero.1 q))]; rfl
  | false=>rw [if_neg (λq=>Bool.noConfusion q),fl45,if_neg h]; rfl
theorem turn45 {n ro st A B C j3 j4 j5 j6 j7 j8} {i:Int} {c:Col} {v w:Val} (ha:subv A (.int i)=some v) (hb:subv B (.int i)=some w) (hcc:subv C (.int i)=some (colV c))
  (hv:v∈menu) (hw:w∈menu) (hc:c.1∈colls) :
  stp [3] (exSs tabs (cv (n + 1)) B45) (.int i) (s45 A B C j3 j4 j5 j6 j7 j8 st ro)=some (fl45 (sg1 c v w),s45 A B C (v_ (.int i)) (v_ (.str c.1)) (v_ (.bool c.2)) (v_ (fo v c.1)) (v_ (fo w c.1)) (v_ (.int (e45 (fo v c.1) (fo w c.1)))) st ro):=by
 rw [stp1,sg1_e]
 exact x_nx (σ':=s45 A B C (v_ (.int i)) (v_ (.str c.1)) (v_ (.bool c.2)) j6 j7 j8 st ro) (asgT_e (l:=[.str c.1,.bool c.2]) (sub_e (x:=.val C) (y:=.val (.int i)) (σ2:=s45 A B C (v_ (.int i)) j4 j5 j6 j7 j8 st ro) rfl rfl hcc) rfl rfl)
  (x_nx (σ':=s45 A B C (v_ (.int i)) (v_ (.str c.1)) (v_ (.bool c.2)) (v_ (fo v c.1)) (v_ (fo w c.1)) j8 st ro) (asgT_e (l:=[fo v c.1,fo w c.1]) (tup2_e (x:=.val (fo v c.1)) (y:=.val (fo w c.1)) (σ1:=s45 A B C (v_ (.int i)) (v_ (.str c.1)) (v_ (.bool c.2)) j6 j7 j8 st ro)
   (call_e (vs:=[v,.str c.1]) (σ':=s45 A B C (v_ (.int i)) (v_ (.str c.1)) (v_ (.bool c.2)) j6 j7 j8 st ro) (es2_e (x:=.val v) (y:=.val (.str c.1)) (σ1:=s45 A B C (v_ (.int i)) (v_ (.str c.1)) (v_ (.bool c.2)) j6 j7 j8 st ro) (sub_e (x:=.val A) (y:=.val (.int i)) rfl rfl ha) rfl) tc44 (@c44 n ro st v hv c.1 hc))
   (call_e (vs:=[w,.str c.1]) (σ':=s45 A B C (v_ (.int i)) (v_ (.str c.1)) (v_ (.bool c.2)) j6 j7 j8 st ro) (es2_e (x:=.val w) (y:=.val (.str c.1)) (σ1:=s45 A B C (v_ (.int i)) (v_ (.str c.1)) (v_ (.bool c.2)) j6 j7 j8 st ro) (sub_e (x:=.val B) (y:=.val (.int i)) rfl rfl hb) rfl) tc44 (@c44 n ro st w hw c.1 hc))) rfl rfl)
  (x_nx (cls45 (fo_menu v hv c.1 hc) (fo_menu w hw c.1 hc)) (x_nx (dif45 (fo_menu v hv c.1 hc) (fo_menu w hw c.1 hc)) end45)))
theorem min3_c {a b c:Int} (h1:c≤a) (h2:c≤b):(if c < (if b < a then b else a) then c else (if b < a then b else a))=c:=by split <;> split <;> omega
theorem out45 {n ro st} {A B C:List Val} {xs q vs} (ha:C.length≤A.length) (hb:C.length≤B.length) (la:A.length≤100) (lb:B.length≤100) (hr:range? [.int C.length]=some xs)
  (h:forGo (stp [3] (exSs tabs (cv (n + 1)) B45)) xs (s45 (.list A) (.list B) (.list C) none none none none none none st ro)=some (fl45 q,⟨vs,st,ro⟩)):cv (n + 2) 45 [.list A,.list B,.list C] ro st=some (.val (.int q),st):=by
 have e:exS tabs (cv (n + 1)) (.for_ [3] (.rng (.cons (.bi .min3 (.cons (.bi .len (.cons (.var 0) .nil)) (.cons (.bi .len (.cons (.var 1) .nil)) (.cons (.bi .len (.cons (.var 2) .nil)) .nil)))) .nil)) B45) (s45 (.list A) (.list B) (.list C) none none none none none none st ro)=some (fl45 q,⟨vs,st,ro⟩) :=
  for_e (rng_e (vs:=[.int C.length]) (σ':=s45 (.list A) (.list B) (.list C) none none none none none none st ro) (es1_e (x:=.val (.int C.length)) (bi_e (vs:=[.int A.length,.int B.length,.int C.length]) (by
   rw [es_cons,bi1_e (x:=.val (.list A)) rfl (len_li (up la rfl)),kcons_some,es2_e (bi1_e (x:=.val (.list B)) rfl (len_li (up lb rfl))) (bi1_e (x:=.val (.list C)) rfl (len_li (up (Nat.le_trans ha la) rfl)))]; rfl)
   (congrArg (λz=>some (LV.val (.int z))) (min3_c (Int.ofNat_le.2 ha) (Int.ofNat_le.2 hb))))) hr) h
 rw [cv45]
 refine (congrArg (λz=>fin ro (sq z (exSs tabs (cv (n + 1)) (.cons (.ret (.const (.int 0))) .nil)))) e).trans ?_
 unfold fl45
 by_cases hq:q=0
 ·rw [if_pos hq,hq]; exact fin_r rfl
 ·rw [if_neg hq]; exact fin_r rfl
theorem fg45 {f:Val→St→Option (Fl×St)} {x xs q r σ σ' vs st ro} (h:f x σ=some (fl45 q,σ')) (hv:σ'=⟨vs,st,ro⟩) (h2:q=0→∃ vs,forGo f xs σ'=some (fl45 r,⟨vs,st,ro⟩)):∃ vs,forGo f (x :: xs) σ=some (fl45 (if q≠0 then q else r),⟨vs,st,ro⟩):=by
 rw [forGo_cons,h]
 by_cases e:q=0
 ·obtain ⟨vs,h2⟩:=h2 e
  exact ⟨vs,by rw [fl45,if_pos e,sq_next,h2,if_neg (λk=>k e)]⟩
 ·exact ⟨vs,by rw [fl45,if_neg e,sq_ret,hv,if_pos e,fl45,if_neg e]⟩
theorem c45_1 {n ro st a b c} {r t:List Val} (hr:∀ v∈a :: r,v∈menu) (ht:∀ v∈b :: t,v∈menu) (lr:r.length≤2) (lt:t.length≤2) (hc:c.1∈colls) :
  cv (n + 2) 45 [.list (a :: r),.list (b :: t),.list [colV c]] ro st=some (.val (.int (sgn [c] (a :: r) (b :: t))),st):=by
 obtain ⟨vs,h⟩:=fg45 (xs:=[]) (r:=0) (@turn45 n ro st (.list (a :: r)) (.list (b :: t)) (.list [colV c]) none none none none none none 0 c a b (subv_l0 (up lr rfl)) (subv_l0 (up lt rfl)) (subv_l0 (Nat.zero_le _)) (hr a (.head _)) (ht b (.head _)) hc) rfl λ_=>⟨_,rfl⟩
 exact out45 (Nat.succ_le_succ (Nat.zero_le _)) (Nat.succ_le_succ (Nat.zero_le _)) (up (Nat.succ_le_succ lr) rfl) (up (Nat.succ_le_succ lt) rfl) rfl h
theorem c45_2 {n ro st a b a' b' c d} {r t:List Val} (hr:∀ v∈a :: a' :: r,v∈menu) (ht:∀ v∈b :: b' :: t,v∈menu) (lr:r.length≤1) (lt:t.length≤1) (hc:c.1∈colls) (hd:d.1∈colls) :
  cv (n + 2) 45 [.list (a :: a' :: r),.list (b :: b' :: t),.list [colV c,colV d]] ro st=some (.val (.int (sgn [c,d] (a :: a' :: r) (b :: b' :: t))),st):=by
 obtain ⟨vs,h⟩:=fg45 (xs:=[.int 1]) (r:=if sg1 d a' b'≠0 then sg1 d a' b' else 0) (@turn45 n ro st (.list (a :: a' :: r)) (.list (b :: b' :: t)) (.list [colV c,colV d]) none none none none none none 0 c a b (subv_l0 (up (Nat.succ_le_succ lr) rfl)) (subv_l0 (up (Nat.succ_le_succ lt) rfl)) (subv_l0 (Nat.le_of_ble_eq_true rfl)) (hr a (.head _)) (ht b (.head _)) hc) rfl λ_ =>
  fg45 (xs:=[]) (r:=0) (turn45 (subv_l1 (up lr rfl)) (subv_l1 (up lt rfl)) (subv_l1 (Nat.zero_le _)) (hr a' (.tail _ (.head _))) (ht b' (.tail _ (.head _))) hd) rfl λ_=>⟨_,rfl⟩
 exact out45 (Nat.succ_le_succ (Nat.succ_le_succ (Nat.zero_le _))) (Nat.succ_le_succ (Nat.succ_le_succ (Nat.zero_le _))) (up (Nat.succ_le_succ (Nat.succ_le_succ lr)) rfl) (up (Nat.succ_le_succ (Nat.succ_le_succ lt)) rfl) rfl h
noncomputable def RowC (cs:List Col) (r:List Val):Prop:=Row r∧cs.length≤r.length
theorem key_take:∀ {cs:List Col} {r:List Val},key cs (r.take cs.length)=key cs r
 | [],[]=>rfl
 | [],_ :: _=>rfl
 | _ :: _,[]=>rfl
 | c :: cs,v :: r=>by simp [key,@key_take cs r]
theorem one_e {α:Type} {r:List α} {P:List α→Prop} (h:1≤r.length) (k:∀ a t,P (a :: t)):P r:=by
 cases r with
 | nil=>exact absurd h (Nat.not_succ_le_zero 0)
 | cons a t=>exact k a t
theorem two_e {α:Type} {r:List α} {P:List α→Prop} (h:2≤r.length) (k:∀ a b t,P (a :: b :: t)):P r :=
 one_e (P:=λr=>2≤r.length→P r) (Nat.le_of_succ_le h) (λa t h=>one_e (P:=λt=>P (a :: t)) (Nat.le_of_succ_le_succ h) λb t=>k a b t) h
theorem nil_e {α:Type} {r:List α} {P:List α→Prop} (h:r.length≤0) (k:P []):P r:=(List.length_eq_zero_iff.1 (Nat.le_zero.1 h)) ▸ k
theorem okC_e {P:List Col→Prop} {cs} (h:okC cs) (k1:∀ c,c.1∈colls→P [c]) (k2:∀ c d,c.1∈colls→d.1∈colls→P [c,d]):P cs :=
 one_e (P:=λcs=>cs.length≤2→(∀ c∈cs,c.1∈colls)→P cs) h.1.1 (λc t h2 h3=>by
  cases t with
  | nil=>exact k1 c (h3 c (.head _))
  | cons d t=>exact nil_e (P:=λt=>P (c :: d :: t)) (Nat.le_of_succ_le_succ (Nat.le_of_succ_le_succ h2)) (k2 c d (h3 c (.head _)) (h3 d (.tail _ (.head _))))) h.1.2 h.2
theorem c28 {n st o cs r} (h:st[o]?=some (kiObj cs)) (hc:okC cs) (hr:RowC cs r) :
  cv (n + 6) 28 [.list (r.take cs.length),.obj o] false st=some (.val (.bytes (key cs r)),st):=by
 rw [←key_take]
 exact okC_e (P:=λcs=>st[o]?=some (kiObj cs)→cs.length≤r.length→cv (n + 6) 28 [.list (r.take cs.length),.obj o] false st=some (.val (.bytes (key cs (r.take cs.length))),st)) hc
  (λc h1 h hl=>one_e (P:=λr=>(∀ v∈r,v∈menu)→cv (n + 6) 28 [.list (r.take 1),.obj o] false st=some (.val (.bytes (key [c] (r.take 1))),st)) hl (λa r hm=>c28_1 h h1 (hm a (.head _))) hr.1.2)
  (λc d h1 h2 h hl=>two_e (P:=λr=>(∀ v∈r,v∈menu)→cv (n + 6) 28 [.list (r.take 2),.obj o] false st=some (.val (.bytes (key [c,d] (r.take 2))),st)) hl (λa b r hm=>c28_2 h h1 h2 (hm a (.head _)) (hm b (.tail _ (.head _)))) hr.1.2) h hr.2
theorem c45 {n ro st cs r t} (hc:okC cs) (hr:RowC cs r) (ht:RowC cs t) :
  cv (n + 2) 45 [.list r,.list t,.list (cs.map colV)] ro st=some (.val (.int (sgn cs r t)),st) :=
 okC_e (P:=λcs=>cs.length≤r.length→cs.length≤t.length→cv (n + 2) 45 [.list r,.list t,.list (cs.map colV)] ro st=some (.val (.int (sgn cs r t)),st)) hc
  (λc h1 hl gl=>one_e (P:=λr=>r.length≤3→(∀ v∈r,v∈menu)→cv (n + 2) 45 [.list r,.list t,.list [colV c]] ro st=some (.val (.int (sgn [c] r t)),st)) hl (λa r lr hm =>
   one_e (P:=λt=>t.length≤3→(∀ v∈t,v∈menu)→cv (n + 2) 45 [.list (a :: r),.list t,.list [colV c]] ro st=some (.val (.int (sgn [c] (a :: r) t)),st)) gl (λb t lt gm=>c45_1 hm gm (Nat.le_of_succ_le_succ lr) (Nat.le_of_succ_le_succ lt) h1) ht.1.1.2 ht.1.2) hr.1.1.2 hr.1.2)
  (λc d h1 h2 hl gl=>two_e (P:=λr=>r.length≤3→(∀ v∈r,v∈menu)→cv (n + 2) 45 [.list r,.list t,.list [colV c,colV d]] ro st=some (.val (.int (sgn [c,d] r t)),st)) hl (λa a' r lr hm =>
   two_e (P:=λt=>t.length≤3→(∀ v∈t,v∈menu)→cv (n + 2) 45 [.list (a :: a' :: r),.list t,.list [colV c,colV d]] ro st=some (.val (.int (sgn [c,d] (a :: a' :: r) t)),st)) gl
    (λb b' t lt gm=>c45_2 hm gm (Nat.le_of_succ_le_succ (Nat.le_of_succ_le_succ lr)) (Nat.le_of_succ_le_succ (Nat.le_of_succ_le_succ lt)) h1 h2) ht.1.1.2 ht.1.2) hr.1.1.2 hr.1.2) hr.2 ht.2
noncomputable abbrev Item:=List Val×Nat
noncomputable def ilt (cs:List Col) (p q:Item):Bool:=bytesLt (key cs p.1) (key cs q.1) || (decide (key cs p.1=key cs q.1) && decide (p.2 < q.2))
theorem ilt_irr {cs p}:ilt cs p p=false:=by simp [ilt,bl_irr]
theorem ilt_tr {cs p q r} (h1:ilt cs p q=true) (h2:ilt cs q r=true):ilt cs p r=true:=by
 simp only [ilt,Bool.or_eq_true,Bool.and_eq_true,decide_eq_true_eq] at *
 rcases h1 with h1 | ⟨a,b⟩
 ·rcases h2 with h2 | ⟨c,d⟩
  ·exact .inl (bl_tr h1 h2)
  ·exact .inl (c ▸ h1)
 ·rcases h2 with h2 | ⟨c,d⟩
  ·exact .inl (a ▸ h2)
  ·exact .inr ⟨a.trans c,by omega⟩
theorem ilt_asym {cs p q} (h:ilt cs p q=true):ilt cs q p=false:=by
 cases g:ilt cs q p with
 | false=>rfl
 | true=>have:=ilt_tr h g; rw [ilt_irr] at this; cases this
theorem ilt_tri {cs p q} (hn:p.2≠q.2) (h:ilt cs p q=false):ilt cs q p=true:=by
 simp only [ilt,Bool.or_eq_false_iff,Bool.and_eq_false_iff,decide_eq_false_iff_not,Bool.or_eq_true,Bool.and_eq_true,decide_eq_true_eq] at *
 by_cases e:key cs p.1=key cs q.1
 ·have h2:¬ p.2 < q.2:=h.2.elim (λg=>absurd e g) id
  exact .inr ⟨e.symm,by omega⟩
 ·exact .inl (bl_tri e h.1)
noncomputable def Srt (cs:List Col) (l:List Item):Prop:=l.Pairwise λp q=>ilt cs p q=true
theorem Srt.uniq {cs l m} (h1:Srt cs l) (h2:Srt cs m) (hp:l.Perm m):l=m :=
 hp.eq_of_pairwise (λa b _ _ h g=>by have:=ilt_asym h; rw [g] at this; cases this) h1 h2
noncomputable def Dst (l:List Item):Prop:=l.Pairwise λp q=>p.2≠q.2
theorem Dst.perm {l m} (h:Dst l) (hp:l.Perm m):Dst m:=hp.pairwise h (λh=>h.symm)
noncomputable def mgI (cs:List Col) (a:Item) (A:List Item) (f:List Item→List Item):List Item→List Item
 | []=>a :: A
 | b :: B=>if ilt cs b a then b :: mgI cs a A f B else a :: f (b :: B)
noncomputable def mg (cs:List Col):List Item→List Item→List Item
 | []=>λB=>B
 | a :: A=>mgI cs a A (mg cs A)
theorem mg_nil {cs B}:mg cs [] B=B:=rfl
theorem mg_nil2 {cs A}:mg cs A []=A:=by cases A <;> rfl
theorem mg_cons {cs a A b B}:mg cs (a :: A) (b :: B)=if ilt cs b a then b :: mg cs (a :: A) B else a :: mg cs A (b :: B):=rfl
theorem mg_perm {cs} (A:List Item):∀ B,(mg cs A B).Perm (A ++ B):=by
 induction A with
 | nil=>exact λB=>.refl _
 | cons a A ihA =>
  intro B
  induction B with
  | nil=>rw [mg_nil2,List.append_nil]
  | cons b B ihB =>
   rw [mg_cons]
   by_cases h:ilt cs b a=true
   ·rw [if_pos h]; exact (ihB.cons b).trans List.perm_middle.symm
   ·rw [if_neg h]; exact (ihA (b :: B)).cons a
theorem mg_srt {cs} {A:List Item}:∀ {B},Srt cs A→Srt cs B→(∀ a∈A,∀ b∈B,a.2≠b.2)→Srt cs (mg cs A B):=by
 induction A with
 | nil=>exact λ_ h _=>h
 | cons a A ihA =>
  intro B hA
  have hA':=List.pairwise_cons.1 hA
  induction B with
  | nil=>exact λ_ _=>by rw [mg_nil2]; exact hA
  | cons b B ihB =>
   intro hB hd
   have hB':=List.pairwise_cons.1 hB
   rw [mg_cons]
   by_cases h:ilt cs b a=true
   ·rw [if_pos h]
    refine List.pairwise_cons.2 ⟨λx hx=>?_,ihB hB'.2 λx hx y hy=>hd x hx y (.tail _ hy)⟩
    rcases List.mem_append.1 ((mg_perm (a :: A) B).mem_iff.1 hx) with g | g
    ·rcases List.mem_cons.1 g with rfl | g
     ·exact h
     ·exact ilt_tr h (hA'.1 x g)
    ·exact hB'.1 x g
   ·rw [if_neg h]
    have hab:ilt cs a b=true:=ilt_tri (hd a (.head _) b (.head _)).symm (Bool.eq_false_iff.2 h)
    refine List.pairwise_cons.2 ⟨λx hx=>?_,ihA hA'.2 hB λx hx y hy=>hd x (.tail _ hx) y hy⟩
    rcases List.mem_append.1 ((mg_perm A (b :: B)).mem_iff.1 hx) with g | g
    ·exact hA'.1 x g
    ·rcases List.mem_cons.1 g with rfl | g
     ·exact hab
     ·exact ilt_tr hab (hB'.1 x g)
noncomputable def insI (cs:List Col) (L:List Item) (p:Item):List Item :=
 let n:=(L.filter λq=>decide (sgn cs q.1 p.1≤0)).length
 L.take n ++ [p] ++ L.drop n
noncomputable def insR (cs:List Col) (L:List (List Val)) (p:List Val):List (List Val) :=
 let n:=(L.filter λq=>decide (sgn cs q p≤0)).length
 L.take n ++ [p] ++ L.drop n
noncomputable def sortI (cs:List Col) (l:List Item):List Item:=l.foldl (insI cs) []
noncomputable def sortR (cs:List Col) (l:List (List Val)):List (List Val):=l.foldl (insR cs) []
theorem insI_map {cs L p}:(insI cs L p).map (·.1)=insR cs (L.map (·.1)) p.1:=by
 simp only [insI,insR,List.filter_map,List.length_map,List.map_append,List.map_take,List.map_drop,List.map_cons,List.map_nil]
 rfl
theorem sortI_map {cs} (l:List Item):∀ acc,(l.foldl (insI cs) acc).map (·.1)=(l.map (·.1)).foldl (insR cs) (acc.map (·.1)):=by
 induction l with
 | nil=>intro acc; rfl
 | cons p l ih=>intro acc; simp only [List.foldl_cons,List.map_cons]; rw [ih,insI_map]
theorem insI_perm {cs L p}:(insI cs L p).Perm (p :: L):=by
 simp only [insI,List.append_assoc,List.singleton_append]
 refine List.perm_middle.trans (.cons _ ?_)
 rw [List.take_append_drop]
theorem filt_take {cs:List Col} {p:Item} (hc:∀ c∈cs,c.1∈colls) (hp:RowC cs p.1) {L:List Item}:Srt cs L→(∀ q∈L,RowC cs q.1) →
  (∀ x∈L.take (L.filter λq=>decide (sgn cs q.1 p.1≤0)).length,sgn cs x.1 p.1≤0)∧(∀ x∈L.drop (L.filter λq=>decide (sgn cs q.1 p.1≤0)).length,0 < sgn cs x.1 p.1):=by
 induction L with
 | nil=>intro _ _; simp
 | cons q L ih0 =>
  intro hs hr
  have ih:=ih0 (List.pairwise_cons.1 hs).2 (λx h=>hr x (.tail _ h))
  by_cases h:sgn cs q.1 p.1≤0
  ·simp only [List.filter_cons,h,decide_true,if_true,List.length_cons,List.take_succ_cons,List.drop_succ_cons]
   refine ⟨λx hx=>?_,ih.2⟩
   rcases List.mem_cons.1 hx with rfl | hx
   ·exact h
   ·exact ih.1 x hx
  ·have hall:∀ x∈L,0 < sgn cs x.1 p.1:=by
    intro x hx
    have hqx:=(List.pairwise_cons.1 hs).1 x hx
    have hx':=hr x (by simp [hx])
    have hq':=hr q (by simp)
    have k1:=key_sgn hc hq'.1.2 hp.1.2 hq'.2 hp.2
    have k2:=key_sgn hc hx'.1.2 hp.1.2 hx'.2 hp.2
    have k1:bytesLt (key cs p.1) (key cs q.1)=true:=by
     rcases k1 with k | k | k
     ·omega
     ·omega
     ·exact k.2
    have k3:bytesLt (key cs p.1) (key cs x.1)=true:=by
     simp only [ilt,Bool.or_eq_true,Bool.and_eq_true,decide_eq_true_eq] at hqx
     rcases hqx with g | ⟨g,_⟩
     ·exact bl_tr k1 g
     ·exact g ▸ k1
    rcases k2 with k | k | k
    ·have:=bl_tr k3 k.2; rw [bl_irr] at this; cases this
    ·rw [k.2,bl_irr] at k3; cases k3
    ·exact k.1
   have hz:(L.filter λq=>decide (sgn cs q.1 p.1≤0))=[]:=by
    rw [List.filter_eq_nil_iff]
    intro x hx
    have:=hall x hx
    simp; omega
   simp only [List.filter_cons,h,decide_false,hz]
   simp
   exact ⟨by omega,λa b hx=>hall (a,b) hx⟩
theorem insI_srt {cs:List Col} {p:Item} {L} (hc:∀ c∈cs,c.1∈colls) (hp:RowC cs p.1) (hs:Srt cs L) (hr:∀ q∈L,RowC cs q.1) (ht:∀ q∈L,q.2 < p.2):Srt cs (insI cs L p):=by
 have hf:=filt_take hc hp hs hr
 simp only [insI]
 generalize (L.filter λq=>decide (sgn cs q.1 p.1≤0)).length=n at *
 have hs':Srt cs (L.take n ++ L.drop n):=by rw [List.take_append_drop]; exact hs
 rw [Srt,List.pairwise_append] at hs'
 have hup:∀ x∈L,sgn cs x.1 p.1≤0→ilt cs x p=true:=by
  intro x hx h
  have hx':=hr x hx
  simp only [ilt,Bool.or_eq_true,Bool.and_eq_true,decide_eq_true_eq]
  rcases key_sgn hc hx'.1.2 hp.1.2 hx'.2 hp.2 with k | k | k
  ·exact .inl k.2
  ·exact .inr ⟨k.2,ht x hx⟩
  ·omega
 have hdn:∀ x∈L,0 < sgn cs x.1 p.1→ilt cs p x=true:=by
  intro x hx h
  have hx':=hr x hx
  simp only [ilt,Bool.or_eq_true]
  rcases key_sgn hc hx'.1.2 hp.1.2 hx'.2 hp.2 with k | k | k
  ·omega
  ·omega
  ·exact .inl k.2
 rw [Srt,List.append_assoc,List.singleton_append,List.pairwise_append,List.pairwise_cons]
 refine ⟨hs'.1,⟨λx hx=>hdn x (List.mem_of_mem_drop hx) (hf.2 x hx),hs'.2.1⟩,λx hx y hy=>?_⟩
 have hxp:=hup x (List.mem_of_mem_take hx) (hf.1 x hx)
 rcases List.mem_cons.1 hy with rfl | hy
 ·exact hxp
 ·exact ilt_tr hxp (hdn y (List.mem_of_mem_drop hy) (hf.2 y hy))
noncomputable def Grw (l:List Item):Prop:=l.Pairwise λp q=>p.2 < q.2
theorem foldI {cs:List Col} (hc:∀ c∈cs,c.1∈colls):∀ (l acc:List Item),Srt cs acc→(∀ q∈acc ++ l,RowC cs q.1)→Grw l→(∀ p∈acc,∀ q∈l,p.2 < q.2) →
  Srt cs (l.foldl (insI cs) acc)∧(l.foldl (insI cs) acc).Perm (acc ++ l)
 | [],acc,hs,_,_,_=>⟨hs,by simp⟩
 | p :: l,acc,hs,hr,hg,ht=>by
  have hg':=List.pairwise_cons.1 hg
  have hi:=insI_srt (p:=p) hc (hr p (by simp)) hs (λq h=>hr q (by simp [h])) (λq h=>ht q h p (by simp))
  have hperm:=@insI_perm cs acc p
  obtain ⟨a,b⟩:=foldI hc l (insI cs acc p) hi (λq h=>by
   rcases List.mem_append.1 h with h | h
   ·rcases List.mem_cons.1 (hperm.mem_iff.1 h) with rfl | h
    ·exact hr q (by simp)
    ·exact hr q (by simp [h])
   ·exact hr q (by simp [h])) hg'.2 (λq h x hx=>by
   rcases List.mem_cons.1 (hperm.mem_iff.1 h) with rfl | h
   ·exact hg'.1 x hx
   ·exact ht q h x (by simp [hx]))
  exact ⟨a,b.trans ((hperm.append_right l).trans (List.perm_middle.symm))⟩
theorem sortI_ok {cs:List Col} {l:List Item} (hc:okC cs) (hr:∀ q∈l,RowC cs q.1) (hg:Grw l):Srt cs (sortI cs l)∧(sortI cs l).Perm l:=by
 have:=foldI hc.2 l [] .nil (by simpa using hr) hg (by simp)
 simpa [sortI] using this
theorem srt_law {cs:List Col} {l m:List Item} (hc:okC cs) (hr:∀ q∈l,RowC cs q.1) (hg:Grw l) (hm:Srt cs m) (hp:m.Perm l):m.map (·.1)=sortR cs (l.map (·.1)):=by
 obtain ⟨a,b⟩:=sortI_ok hc hr hg
 rw [hm.uniq a (hp.trans b.symm),sortI,sortI_map]; rfl
theorem nlt {a b:Nat} (h:a < b):decide (a < b)=true:=by simpa using h
theorem nnlt {a b:Nat} (h:b≤a):decide (a < b)=false:=by simp; omega
noncomputable def ent (cs:List Col) (p:Item):Val:=.tuple [.bytes (key cs p.1),.int p.2,.bytes (enc p.1)]
theorem subv_at {l:List Val} {i:Nat} {x:Val} (hl:l.length≤1000) (h:l[i]?=some x):subv (.list l) (.int i)=some x:=by
 have hi:i < l.length:=by
  rcases Nat.lt_or_ge i l.length with h' | h'
  ·exact h'
  ·rw [List.getElem?_eq_none h'] at h; cases h
 simp only [qs1,qs2,qs3,place_int (show (0:Int)≤i by omega) (show (i:Int) < l.length by omega) (by omega),Option.bind_some,Int.toNat_natCast,h]
theorem slcv_from {l:List Val} {i:Nat} (hl:l.length≤1000) (hi:i≤l.length):slcv (.list l) (.int i) .none=some (.olist (l.drop i)):=by
 refine (if_pos (okLen_t (Nat.le_trans hl (Nat.le_of_ble_eq_true rfl)))).trans ?_
 show some (LV.olist ((l.drop (clipAt l.length i)).take (l.length - clipAt l.length i)))=_
 rw [clip_nat hi,List.take_of_length_le (Nat.le_of_eq (List.length_drop ..))]
theorem slcv_to {l:List Val} {i:Nat} (hl:l.length≤1000) (hi:i≤l.length):slcv (.list l) .none (.int i)=some (.olist (l.take i)):=by
 refine (if_pos (okLen_t (Nat.le_trans hl (Nat.le_of_ble_eq_true rfl)))).trans ?_
 show some (LV.olist (l.take (clipAt l.length i)))=_
 rw [clip_nat hi]
theorem cmp_ent {cs p q} (h:p.2≠q.2):cmpop .Lt (.tuple [.bytes (key cs p.1),.int (p.2:Nat)]) (.tuple [.bytes (key cs q.1),.int (q.2:Nat)])=some (ilt cs p q):=by
 simp only [qc1,ilt]
 by_cases e:key cs p.1=key cs q.1
 ·have h1:((p.2:Nat):Int)≠(q.2:Nat):=by omega
  simp [e,bl_irr,h,h1]
 ·simp [e]
theorem sub_e0 {a b c:Val}:subv (.tuple [a,b,c]) (.int 0)=some a:=rfl
theorem sub_e1 {a b c:Val}:subv (.tuple [a,b,c]) (.int 1)=some b:=rfl
theorem sub_e2 {a b c:Val}:subv (.tuple [a,b,c]) (.int 2)=some c:=rfl
theorem len_l {l:List Val} (h:l.length≤1000):biop .len [.list l]=some (.val (.int l.length)):=by simp (disch:=omega) [qb1,qb2,qb3,qb5,qb6,qb7,qb8,qb9,qb10,qb11,okLen_t]
theorem add_l {a b:List Val} (h:a.length + b.length≤1000):binop .Add (.list a) (.list b)=some (.olist (a ++ b)):=by simp (disch:=omega) [qo1,qo2,qo3,qo4,qo5,qo6,qo7,qo8,qo9,qo10,qo11,okLen_t]
theorem tpV_t {l:List Val} (h:l.length≤1000):tpV l=some (.val (.tuple l)):=by simp (disch:=omega) [tpV,okLen_t]
theorem lsV_t {l:List Val} (h:l.length≤1000):lsV l=some (.olist l):=by simp (disch:=omega) [lsV,okLen_t]
theorem bin_addl {a b} (h:a.length + b.length≤1000):binop .Add (.list a) (.list b)=some (.olist (a ++ b)):=add_l h
noncomputable abbrev C29:ME:=(.and (.cmp .Lt (.var 3) (.bi .len (.cons (.var 0) .nil))) (.cmp .Lt (.var 4) (.bi .len (.cons (.var 1) .nil))))
noncomputable abbrev B29:MSs:=(.cons (.ite (.cmp .Lt (.tuple (.cons (.sub (.sub (.var 1) (.var 4)) (.const (.int 0))) (.cons (.sub (.sub (.var 1) (.var 4)) (.const (.int 1))) .nil))) (.tuple (.cons (.sub (.sub (.var 0) (.var 3)) (.const (.int 0))) (.cons (.sub (.sub (.var 0) (.var 3)) (.const (.int 1))) .nil)))) (.cons (.append 2 (.sub (.var 1) (.var 4))) (.cons (.aug 4 .Add (.const (.int 1))) .nil)) (.cons (.append 2 (.sub (.var 0) (.var 3))) (.cons (.aug 3 .Add (.const (.int 1))) .nil))) .nil)
noncomputable abbrev s29 (A B D:List Val) (i j:Nat) (st:List SObj) (ro:Bool):St:=⟨[some (.val (.list A)),some (.val (.list B)),some (.olist D),some (.val (.int i)),some (.val (.int j))],st,ro⟩
theorem whl29 {cf n st ro i j} {A B D:List Val} (hA:A.length≤1000) (hB:B.length≤1000):whlGo (evE tabs cf C29) (exSs tabs cf B29) (n + 1) (s29 A B D i j st ro)
  = if i < A.length∧j < B.length then sq (exSs tabs cf B29 (s29 A B D i j st ro)) (whlGo (evE tabs cf C29) (exSs tabs cf B29) n) else some (.next,s29 A B D i j st ro):=by
 rw [whlGo_succ]
 by_cases h1:i < A.length
 ·by_cases h2:j < B.length
  ·rw [if_pos ⟨h1,h2⟩]
   simp only [e_and,e_cmp,e_var,e_bi,es_cons,es_nil,st_get,gv_zero,gv_succ,rv_val,k2_some,kcons_some,kconsB_some,frz_val,kes_some,len_l hA,len_l hB,pr_some,k2b_some,co_def,cmp_lt,dni_lt,decide_eq_true h1,decide_eq_true h2,bB_some,kand_some,truth_bool,kandB_t,kite_some,kiteB_t,whlB_def]
  ·rw [if_neg (λh=>h2 h.2)]
   simp only [e_and,e_cmp,e_var,e_bi,es_cons,es_nil,st_get,gv_zero,gv_succ,rv_val,k2_some,kcons_some,kconsB_some,frz_val,kes_some,len_l hA,len_l hB,pr_some,k2b_some,co_def,cmp_lt,dni_lt,decide_eq_true h1,decide_eq_false h2,bB_some,kand_some,truth_bool,kandB_t,kite_some,kiteB_f,nxt_def]
 ·rw [if_neg (λh=>h1 h.1)]
  simp only [e_and,e_cmp,e_var,e_bi,es_cons,es_nil,st_get,gv_zero,gv_succ,rv_val,k2_some,kcons_some,kconsB_some,frz_val,kes_some,len_l hA,pr_some,k2b_some,co_def,cmp_lt,dni_lt,decide_eq_false h1,bB_some,kand_some,truth_bool,kandB_f,kite_some,kiteB_f,nxt_def]
theorem body29 {cf st ro i j a0 a1 a2 b0 b1 b2 c} {A B D:List Val} (ga:subv (.list A) (.int (i:Nat))=some (.tuple [a0,a1,a2])) (gb:subv (.list B) (.int (j:Nat))=some (.tuple [b0,b1,b2]))
  (hc:cmpop .Lt (.tuple [b0,b1]) (.tuple [a0,a1])=some c) (hD:okLen D.length=true):exSs tabs cf B29 (s29 A B D i j st ro)
  = some (.next,if c then s29 A B (D ++ [.tuple [b0,b1,b2]]) i (j + 1) st ro else s29 A B (D ++ [.tuple [a0,a1,a2]]) (i + 1) j st ro):=by
 have t2:∀ {a b:Val},tpV [a,b]=some (.val (.tuple [a,b])):=rfl
 cases c
 all_goals
  simp only [x_cons,x_nil,x_ite,e_cmp,e_tuple,e_sub,e_var,e_const,es_cons,es_nil,st_get,gv_zero,gv_succ,rv_val,rv_olist,k2_some,k2b_some,sbv_def,frz_val,ga,gb,vV_some,pr_some,sub_e0,sub_e1,kcons_some,kconsB_some,kes_some,t2,co_def,hc,bB_some,kite_some,truth_bool,kiteB_t,kiteB_f,x_append,kap_l,ka_some,sAp_def,apL_some,hD,if_true,sq_next,x_aug,st_set,List.set_cons_zero,List.set_cons_succ,kaug_some,sU_def,bin_add,kb_some]
  rfl
inductive E29 (cs:List Col) (A B:List Item) (st:List SObj) (ro:Bool) (r:Option (Fl×St)) (X:List Item):Prop
 | mk {i j:Nat} {D:List Item}:r=some (.next,s29 (A.map (ent cs)) (B.map (ent cs)) (D.map (ent cs)) i j st ro)→i≤A.length→j≤B.length→D.length=i + j→D ++ A.drop i ++ B.drop j=X→E29 cs A B st ro r X
theorem ap_ln {α:Type} {A A1 A2:List α} (e:A=A1 ++ A2):A.length=A1.length + A2.length:=by rw [e,List.length_append]
theorem ap_at {A A1 A2:List Item} {a:Item} {cs} (hA:A.length≤60) (e:A=A1 ++ a :: A2):subv (.list (A.map (ent cs))) (.int A1.length)=some (ent cs a) :=
 subv_at (by rw [List.length_map]; exact Nat.le_trans hA (Nat.le_of_ble_eq_true rfl)) (by rw [e]; simp)
theorem ap_sh {α:Type} {A A1 A2:List α} {a:α} (e:A=A1 ++ a :: A2):A=(A1 ++ [a]) ++ A2:=by rw [e,List.append_assoc]; rfl
theorem ap_lt {α:Type} {A A1 A2:List α} {a:α} (e:A=A1 ++ a :: A2):A1.length < A.length:=by rw [e,List.length_append]; exact Nat.lt_add_of_pos_right (Nat.zero_lt_succ _)
theorem ap_m {α:Type} {A A1 A2:List α} {a:α} (e:A=A1 ++ a :: A2):a∈A:=by rw [e]; exact List.mem_append_right _ (.head _)
theorem map1000 {α β:Type} {l:List α} {f:α→β} (h:l.length≤60):(l.map f).length≤1000:=by rw [List.length_map]; exact Nat.le_trans h (Nat.le_of_ble_eq_true rfl)
theorem loop29 {cf cs ro st} {A B:List Item} (hA:A.length≤60) (hB:B.length≤60) (hd:∀ a∈A,∀ b∈B,a.2≠b.2) (n:Nat):∀ (A1 A2 B1 B2 D:List Item),A=A1 ++ A2→B=B1 ++ B2→A2.length + B2.length < n→D.length=A1.length + B1.length →
  E29 cs A B st ro (whlGo (evE tabs cf C29) (exSs tabs cf B29) n (s29 (A.map (ent cs)) (B.map (ent cs)) (D.map (ent cs)) A1.length B1.length st ro)) (D ++ mg cs A2 B2):=by
 have mA:=@map1000 _ _ A (ent cs) hA
 have mB:=@map1000 _ _ B (ent cs) hB
 induction n with
 | zero=>exact λ_ _ _ _ _ _ _ h=>absurd h (Nat.not_lt_zero _)
 | succ n ih =>
  intro A1 A2 B1 B2 D eA eB hn hD
  have lA:=ap_ln eA
  have lB:=ap_ln eB
  have hA1:A1.length≤A.length:=by rw [lA]; exact Nat.le_add_right _ _
  have hB1:B1.length≤B.length:=by rw [lB]; exact Nat.le_add_right _ _
  rw [whl29 mA mB]
  rw [List.length_map,List.length_map]
  cases A2 with
  | nil =>
   rw [if_neg (λh=>Nat.ne_of_lt h.1 lA.symm)]
   exact .mk rfl hA1 hB1 hD (by rw [mg_nil,eA,eB]; simp)
  | cons a A2 =>
   cases B2 with
   | nil =>
    rw [if_neg (λh=>Nat.ne_of_lt h.2 lB.symm)]
    exact .mk rfl hA1 hB1 hD (by rw [mg_nil2,eA,eB]; simp)
   | cons b B2 =>
    have hne:=hd a (ap_m eA) b (ap_m eB)
    have ok:okLen (D.map (ent cs)).length=true:=okLen_t (by rw [List.length_map,hD]; exact Nat.le_trans (Nat.add_le_add hA1 hB1) (Nat.le_trans (Nat.add_le_add hA hB) (Nat.le_of_ble_eq_true rfl)))
    rw [if_pos ⟨ap_lt eA,ap_lt eB⟩,body29 (ap_at hA eA) (ap_at hB eB) (@cmp_ent cs b a hne.symm) ok,sq_next,mg_cons]
    clear ok hne lA lB hA1 hB1 mA mB
    cases ilt cs b a with
    | true =>
     have:=ih A1 (a :: A2) (B1 ++ [b]) B2 (D ++ [b]) eA (ap_sh eB) (Nat.lt_of_succ_lt_succ hn) (by simp [hD,Nat.add_assoc])
     simpa [ent] using this
    | false =>
     have:=ih (A1 ++ [a]) A2 B1 (b :: B2) (D ++ [a]) (ap_sh eA) eB (by simp at hn ⊢; omega) (by simp [hD]; omega)
     simpa [ent] using this
theorem nat29 {d i j a b:Nat} (h:d=i + j) (h1:i≤a) (h2:j≤b) (ha:a≤60) (hb:b≤60):d + (a - i)≤1000∧d + (a - i) + (b - j)≤1000:=by
 have e:d + (a - i)=a + j:=by rw [h,Nat.add_right_comm,Nat.add_sub_of_le h1]
 rw [e,Nat.add_assoc,Nat.add_sub_of_le h2]
 exact ⟨Nat.le_trans (Nat.add_le_add ha (Nat.le_trans h2 hb)) (by decide),Nat.le_trans (Nat.add_le_add ha hb) (by decide)⟩
theorem c29 {n cs ro st} {A B:List Item} (hA:A.length≤60) (hB:B.length≤60) (hd:∀ a∈A,∀ b∈B,a.2≠b.2) :
  cv (n + 1) 29 [.list (A.map (ent cs)),.list (B.map (ent cs))] ro st=some (.olist ((mg cs A B).map (ent cs)),st):=by
 obtain @⟨i,j,D',h1,h2,h3,h4,h5⟩:=@loop29 (cv n) cs ro st A B hA hB hd 200 [] A [] B [] rfl rfl (by omega) rfl
 rw [cv29]
 have hb:b29=(.cons (.assign 2 (.list .nil)) (.cons (.assign 3 (.const (.int 0))) (.cons (.assign 4 (.const (.int 0))) (.cons (.whl C29 B29) (.cons (.ret (.bin .Add (.bin .Add (.var 2) (.slc (.var 0) (.var 3) (.const .none))) (.slc (.var 1) (.var 4) (.const .none)))) .nil))))):=rfl
 rw [List.nil_append] at h5
 have s1:=@slcv_from (A.map (ent cs)) i (map1000 hA) (by rw [List.length_map]; exact h2)
 have s2:=@slcv_from (B.map (ent cs)) j (map1000 hB) (by rw [List.length_map]; exact h3)
 have nn:=nat29 h4 h2 h3 hA hB
 have a1:=@bin_addl (D'.map (ent cs)) ((A.map (ent cs)).drop i) (by rw [List.length_drop,List.length_map,List.length_map]; exact nn.1)
 have a2:=@bin_addl (D'.map (ent cs) ++ (A.map (ent cs)).drop i) ((B.map (ent cs)).drop j) (by rw [List.length_append,List.length_drop,List.length_drop,List.length_map,List.length_map,List.length_map]; exact nn.2)
 rw [hb,←h5,List.map_append,List.map_append,List.map_drop,List.map_drop,x_nx (σ':=⟨[_,_,some (.olist []),none,none],st,ro⟩) rfl (x_nx (σ':=⟨[_,_,_,some (.val (.int 0)),none],st,ro⟩) rfl (x_nx (σ':=s29 (A.map (ent cs)) (B.map (ent cs)) [] 0 0 st ro) rfl (x_nx (x_whl.trans h1) rfl)))]
 simp only [x_cons,x_ret,e_bin,e_var,e_slc,e_const,st_get,gv_zero,gv_succ,rv_val,rv_olist,st_set,List.set_cons_zero,List.set_cons_succ,k3_some,k3b_some,k3c_some,frz_val,s1,s2,a1,a2,pr_some,k2_some,k2b_some,frz_olist,ka_some,sR_def,sq_ret,fin_ret]
noncomputable def kcs (o:Option St) (e:St→Option (LV×St)):Option (List Val×St):=o.bind λσ=>pb (e σ) λz σc=>some ([z.frz],σc)
theorem kcs_some {σ e z σc} (h:e σ=some (z,σc)):kcs (some σ) e=some ([z.frz],σc):=by unfold kcs; rw [Option.bind_some,h]; rfl
theorem cstep_true {T cf tg e x σ}:compStep tg (evE T cf (.const (.bool true))) e x σ=kcs (bindTg tg x σ) e:=by
 unfold compStep
 cases bindTg tg x σ with
 | none=>rfl
 | some σ=>rfl
theorem bind1 {i x σ}:bindTg [i] x σ=some (σ.set i (.val x)):=rfl
theorem compGo_fm {step:Val→St→Option (List Val×St)} {mk:Option LV→St} {g:Val→List Val}:∀ {xs:List Val},(∀ x∈xs,∀ y,∃ y',step x (mk y)=some (g x,mk y')) →
  ∀ y,∃ y',compGo step xs (mk y)=some (xs.flatMap g,mk y')
 | [],_,y=>⟨y,rfl⟩
 | x :: xs,h,y=>by
  obtain ⟨y1,h1⟩:=h x (by simp) y
  obtain ⟨y2,h2⟩:=compGo_fm (xs:=xs) (λx hx=>h x (by simp [hx])) y1
  exact ⟨y2,by simp only [compGo,h1,h2,List.flatMap_cons]⟩
theorem compGo_mp {α:Type} {step:Val→St→Option (List Val×St)} {mk:Option LV→St} {f:α→Val} {g:α→Val}:∀ {xs:List α},(∀ x∈xs,∀ y,∃ y',step (f x) (mk y)=some ([g x],mk y')) →
  ∀ y,∃ y',compGo step (xs.map f) (mk y)=some (xs.map g,mk y')
 | [],_,y=>⟨y,rfl⟩
 | x :: xs,h,y=>by
  obtain ⟨y1,h1⟩:=h x (by simp) y
  obtain ⟨y2,h2⟩:=compGo_mp (xs:=xs) (λx hx=>h x (by simp [hx])) y1
  exact ⟨y2,by simp only [List.map_cons,compGo,h1,h2,List.singleton_append]⟩
noncomputable def runV (cs:List Col) (l:List Item):Val:=.list (l.map (ent cs))
noncomputable def rnd (cs:List Col):List (List Item)→List (List Item)
 | []=>[]
 | [a]=>[a]
 | a :: b :: r=>mg cs a b :: rnd cs r
theorem rnd_eq {cs}:∀ R:List (List Item),rnd cs R=((List.range (R.length / 2)).map λk=>mg cs (R.getD (2 * k) []) (R.getD (2 * k + 1) [])) ++ (if R.length % 2=1 then [R.getD (R.length - 1) []] else [])
 | []=>rfl
 | [a]=>(show [a]=(List.range (1 / 2)).map (λk=>mg cs ([a].getD (2 * k) []) ([a].getD (2 * k + 1) [])) ++ (if 1 % 2=1 then [a] else []) from rfl)
 | a :: b :: r=>by
  have ih:=@rnd_eq cs r
  have h1:(a :: b :: r).length / 2=r.length / 2 + 1:=Nat.add_div_right r.length (show 0 < 2 by decide)
  have h2:(a :: b :: r).length % 2=r.length % 2:=Nat.add_mod_right r.length 2
  show mg cs a b :: rnd cs r=_
  rw [ih,h1,h2,List.range_succ_eq_map,List.map_cons,List.map_map,List.cons_append]
  refine congrArg (List.cons (mg cs a b)) (congrArg (λq=>List.map _ _ ++ q) ?_)
  by_cases h:r.length % 2=1
  ·rw [if_pos h,if_pos h]
   cases r with
   | nil=>cases h
   | cons c r=>rfl
  ·rw [if_neg h,if_neg h]
theorem rnd_flat {cs}:∀ R:List (List Item),(rnd cs R).flatten.Perm R.flatten
 | []=>.refl _
 | [a]=>.refl _
 | a :: b :: r=>by
  simp only [rnd,List.flatten_cons]
  rw [←List.append_assoc]
  exact ((mg_perm a b).append (rnd_flat r))
theorem rnd_len {cs}:∀ R:List (List Item),(rnd cs R).length=(R.length + 1) / 2
 | []=>rfl
 | [a]=>(show (1:Nat)=2 / 2 from rfl)
 | a :: b :: r=>(congrArg Nat.succ (rnd_len r)).trans (Nat.add_div_right (r.length + 1) (show 0 < 2 by decide)).symm
theorem rnd_srt {cs}:∀ {R:List (List Item)},(∀ r∈R,Srt cs r)→Dst R.flatten→∀ r∈rnd cs R,Srt cs r
 | [],_,_,r,h=>by simp [rnd] at h
 | [a],h,_,r,hr=>h r hr
 | a :: b :: R,h,hd,r,hr=>by
  simp only [Dst,List.pairwise_flatten,List.pairwise_cons] at hd
  rcases List.mem_cons.1 hr with rfl | hr
  ·exact mg_srt (h a (by simp)) (h b (by simp)) (hd.2.1 b (by simp))
  ·refine rnd_srt (λr hr=>h r (by simp [hr])) ?_ r hr
   simp only [Dst,List.pairwise_flatten]
   exact ⟨λl hl=>hd.1 l (by simp [hl]),hd.2.2.2⟩
noncomputable abbrev B30i:MSs:=(.cons (.append 2 (.call 29 (.cons (.sub (.var 1) (.var 3)) (.cons (.sub (.var 1) (.bin .Add (.var 3) (.const (.int 1)))) .nil)))) .nil)
noncomputable abbrev C30:ME:=(.cmp .Gt (.bi .len (.cons (.var 1) .nil)) (.const (.int 1)))
noncomputable abbrev B30:MSs:=(.cons (.assign 2 (.list .nil)) (.cons (.for_ [3] (.rng (.cons (.const (.int 0)) (.cons (.bin .Sub (.bi .len (.cons (.var 1) .nil)) (.const (.int 1))) (.cons (.const (.int 2)) .nil)))) B30i) (.cons (.ite (.cmp .Eq (.bin .Mod (.bi .len (.cons (.var 1) .nil)) (.const (.int 2))) (.const (.int 1))) (.cons (.append 2 (.sub (.var 1) (.neg (.const (.int 1))))) .nil) .nil) (.cons (.assign 1 (.var 2)) .nil))))
theorem b30i {n cs ro st v0 v3 v4} {RV acc:List Val} {X Y:List Item} {i:Int} (g0:subv (.list RV) (.int i)=some (runV cs X)) (g1:subv (.list RV) (.int (i + 1))=some (runV cs Y)) (hX:X.length≤60) (hY:Y.length≤60) (hd:∀ a∈X,∀ b∈Y,a.2≠b.2) (ha:acc.length≤60) :
  stp [3] (exSs tabs (cv (n + 1)) B30i) (.int i) ⟨[v0,some (.val (.list RV)),some (.olist acc),v3,v4],st,ro⟩=some (.next,⟨[v0,some (.val (.list RV)),some (.olist (acc ++ [runV cs (mg cs X Y)])),some (.val (.int i)),v4],st,ro⟩):=by
 rw [stp1]
 exact x_nx (app_e (x:=.olist ((mg cs X Y).map (ent cs))) (l0:=acc) (l:=acc) (σ':=⟨[v0,some (.val (.list RV)),some (.olist acc),some (.val (.int i)),v4],st,ro⟩) rfl
  (call_e (vs:=[runV cs X,runV cs Y]) (σ':=⟨[v0,some (.val (.list RV)),some (.olist acc),some (.val (.int i)),v4],st,ro⟩) (es2_e (x:=.val (runV cs X)) (y:=.val (runV cs Y)) (sub_e (x:=.val (.list RV)) (y:=.val (.int i)) rfl rfl g0) (sub_e (x:=.val (.list RV)) (y:=.val (.int (i + 1))) rfl rfl g1)) tc29 (@c29 n cs ro st X Y hX hY hd)) rfl (okLen_t (up ha rfl))) rfl
theorem getD_some' {α:Type} {R:List α} {d:α} {i:Nat} (h:i < R.length):R[i]?=some (R.getD i d):=by rw [List.getD_eq_getElem?_getD,List.getElem?_eq_getElem h]; rfl
theorem dbl {k:Nat}:(0 + (k:Int) * 2)=((2 * k:Nat):Int):=by rw [Int.zero_add,Int.mul_comm]; rfl
theorem loop30i {n cs ro st v0 v4} {R:List (List Item)} (hR:R.length≤60) (hl:∀ r∈R,r.length≤60)
  (hd:∀ k,2 * k + 1 < R.length→∀ a∈R.getD (2 * k) [],∀ b∈R.getD (2 * k + 1) [],a.2≠b.2) (ks:List Nat):(∀ k∈ks,2 * k + 1 < R.length)→∀ (acc:List (List Item)) (v3:Option LV),acc.length + ks.length≤60 →
  ∃ y,forGo (stp [3] (exSs tabs (cv (n + 1)) B30i)) (ks.map λ(k:Nat)=>.int (0 + (k:Int) * 2)) ⟨[v0,some (.val (.list (R.map (runV cs)))),some (.olist (acc.map (runV cs))),v3,v4],st,ro⟩
   = some (.next,⟨[v0,some (.val (.list (R.map (runV cs)))),some (.olist ((acc ++ ks.map λk=>mg cs (R.getD (2 * k) []) (R.getD (2 * k + 1) [])).map (runV cs))),y,v4],st,ro⟩):=by
 induction ks with
 | nil=>intro _ acc v3 _; exact ⟨v3,by simp only [List.map_nil,List.append_nil]; rfl⟩
 | cons k ks ih =>
  intro hk acc v3 h
  have hk1:=hk k (.head _)
  have hk0:=Nat.lt_of_succ_lt hk1
  have e0:=@getD_some' _ R [] _ hk0
  have e1:=@getD_some' _ R [] _ hk1
  rw [List.length_cons,←Nat.add_assoc] at h
  have lm:(R.map (runV cs)).length≤1000:=map1000 hR
  have b:=@b30i n cs ro st v0 v3 v4 (R.map (runV cs)) (acc.map (runV cs)) (R.getD (2 * k) []) (R.getD (2 * k + 1) []) (0 + (k:Int) * 2) (by rw [dbl]; exact subv_at lm (by rw [List.getElem?_map,e0]; rfl)) (by rw [dbl]; exact subv_at (i:=2 * k + 1) lm (by rw [List.getElem?_map,e1]; rfl))
   (hl _ (List.mem_of_getElem? e0)) (hl _ (List.mem_of_getElem? e1)) (hd k hk1) (by rw [List.length_map]; exact Nat.le_of_succ_le (Nat.le_trans (Nat.succ_le_succ (Nat.le_add_right _ _)) h))
  refine (ih (λk h=>hk k (.tail _ h)) (acc ++ [mg cs (R.getD (2 * k) []) (R.getD (2 * k + 1) [])]) (some (.val (.int (0 + (k:Int) * 2)))) (by rw [List.length_append,Nat.add_right_comm]; exact h)).imp λy hy=>?_
  rw [List.map_cons,List.map_cons,List.append_cons]
  rw [List.map_append (f:=runV cs) (l₁:=acc)] at hy
  exact fg_c b hy
theorem subv_neg {l:List Val} {x:Val} (hl:l.length≤1000) (h0:0 < l.length) (h:l[l.length - 1]?=some x):subv (.list l) (.int (-1))=some x:=by
 have hp:place (-1) l.length=some (l.length - 1):=by
  generalize l.length=n at hl h0
  obtain ⟨m,rfl⟩:=Nat.exists_eq_add_of_le' h0
  have e:-1 + ((m + 1:Nat):Int)=m:=(Int.add_comm _ _).trans (Int.add_neg_cancel_right (m:Int) 1)
  show (if (decide (0≤-1 + ((m + 1:Nat):Int)) && decide (-1 + ((m + 1:Nat):Int) < ((m + 1:Nat):Int)))=true then some (-1 + ((m + 1:Nat):Int)).toNat else none)=some m
  rw [e,decide_eq_true (Int.natCast_nonneg m),decide_eq_true (Int.ofNat_lt.2 (Nat.lt_succ_self m))]
  rfl
 rw [qs1,hp,Option.bind_some,h]
theorem dst_pair {R:List (List Item)} (h:Dst R.flatten):∀ i j,i < j→j < R.length→∀ a∈R.getD i [],∀ b∈R.getD j [],a.2≠b.2:=by
 intro i j hij hj
 have h:=(List.pairwise_flatten.1 h).2
 have h:=List.pairwise_iff_getElem.1 h i j (by omega) hj hij
 rw [List.getD_eq_getElem?_getD,List.getD_eq_getElem?_getD,List.getElem?_eq_getElem (by omega),List.getElem?_eq_getElem hj]
 exact h
theorem mem_len {R:List (List Item)} {r} (h:r∈R):r.length≤R.flatten.length:=(List.sublist_flatten_of_mem h).length_le
theorem half':∀ m:Nat,m / 2 + m % 2=(m + 1) / 2
 | 0=>rfl
 | 1=>rfl
 | m + 2=>by rw [Nat.add_div_right m (by decide),Nat.add_mod_right,show m + 2 + 1=(m + 1) + 2 from rfl,Nat.add_div_right (m + 1) (by decide),Nat.succ_add,half' m]
theorem half {n:Nat} (h:1≤n):((n:Int) - 1 - 0).toNat / 2 + ((n:Int) - 1 - 0).toNat % 2=n / 2:=by
 obtain ⟨m,rfl⟩:=Nat.exists_eq_add_of_le' h
 have e:(((m + 1:Nat):Int) - 1 - 0).toNat=m:=by rw [Int.sub_zero]; exact congrArg Int.toNat (Int.add_sub_cancel (m:Int) 1)
 rw [e,half']
theorem mod2 {n:Nat}:binop .Mod (.int n) (.int 2)=some (.val (.int ((n % 2:Nat):Int))):=by rw [qo5,if_neg (by decide),Int.fmod_eq_emod_of_nonneg _ (by decide)]; rfl
theorem rng30 {n:Nat} (h:1≤n) (h2:n≤60):range? [.int 0,.int ((n:Int) - 1),.int 2]=some ((List.range (n / 2)).map λ(k:Nat)=>.int (0 + (k:Int) * 2)):=by
 rw [qr3,mid_in (Int.le_refl 0) (by decide),mid_in (by omega) (by omega),half h]; rfl
theorem getD_some {α:Type} {R:List α} {d:α} {i:Nat} (h:i < R.length):R[i]?=some (R.getD i d):=by rw [List.getD_eq_getElem?_getD,List.getElem?_eq_getElem h]; rfl
noncomputable abbrev s30 (v0:Option LV) (RV:List Val) (v2 v3 v4:Option LV) (st:List SObj) (ro:Bool):St:=⟨[v0,some (.val (.list RV)),v2,v3,v4],st,ro⟩
theorem odd30 {cf v0 v3 v4 st ro} {RV X:List Val} {Y:Val} (hR:RV.length≤60) (hX:X.length≤100) (o:RV.length % 2=1) (hn:subv (.list RV) (.int (-1))=some Y) :
  exSs tabs cf (.cons (.ite (.cmp .Eq (.bin .Mod (.bi .len (.cons (.var 1) .nil)) (.const (.int 2))) (.const (.int 1))) (.cons (.append 2 (.sub (.var 1) (.neg (.const (.int 1))))) .nil) .nil) (.cons (.assign 1 (.var 2)) .nil)) (s30 v0 RV (some (.olist X)) v3 v4 st ro)
   = some (.next,s30 v0 (X ++ [Y]) (some (.val (.list (X ++ [Y])))) v3 v4 st ro) :=
 x_nx ((ite_t (σ':=s30 v0 RV (some (.olist X)) v3 v4 st ro) (cmp_e' (x:=.val (.int ((RV.length % 2:Nat):Int))) (y:=.val (.int 1)) (bin_e (x:=.val (.int RV.length)) (y:=.val (.int 2)) (bi1_e (x:=.val (.list RV)) rfl (len_li (up hR rfl))) rfl mod2) rfl cmp_ei) (congrArg some (decide_eq_true (congrArg Int.ofNat o)))).trans
  (x_nx (app_e (x:=.val Y) (l0:=X) (l:=X) (σ':=s30 v0 RV (some (.olist X)) v3 v4 st ro) rfl (sub_e (x:=.val (.list RV)) (y:=.val (.int (-1))) rfl rfl hn) rfl (okLen_t (up hX rfl))) rfl)) rfl
theorem evn30 {cf v0 v3 v4 st ro} {RV X:List Val} (hR:RV.length≤60) (o:RV.length % 2≠1) :
  exSs tabs cf (.cons (.ite (.cmp .Eq (.bin .Mod (.bi .len (.cons (.var 1) .nil)) (.const (.int 2))) (.const (.int 1))) (.cons (.append 2 (.sub (.var 1) (.neg (.const (.int 1))))) .nil) .nil) (.cons (.assign 1 (.var 2)) .nil)) (s30 v0 RV (some (.olist X)) v3 v4 st ro)
   = some (.next,s30 v0 X (some (.val (.list X))) v3 v4 st ro) :=
 x_nx (ite_n (σ':=s30 v0 RV (some (.olist X)) v3 v4 st ro) (cmp_e' (x:=.val (.int ((RV.length % 2:Nat):Int))) (y:=.val (.int 1)) (bin_e (x:=.val (.int RV.length)) (y:=.val (.int 2)) (bi1_e (x:=.val (.list RV)) rfl (len_li (up hR rfl))) rfl mod2) rfl cmp_ei) (congrArg some (decide_eq_false (λq=>o (Int.ofNat.inj q))))) rfl
theorem turn30 {n cs ro st v0 v2 v3 v4} {R:List (List Item)} (h2:2≤R.length) (hR:R.length≤60) (hf:R.flatten.length≤60) (hd:Dst R.flatten) :
  ∃ w2 w3,exSs tabs (cv (n + 1)) B30 ⟨[v0,some (.val (.list (R.map (runV cs)))),v2,v3,v4],st,ro⟩=some (.next,⟨[v0,some (.val (.list ((rnd cs R).map (runV cs)))),w2,w3,v4],st,ro⟩):=by
 have h1:1≤R.length:=Nat.le_of_succ_le h2
 have hk2:R.length / 2≤30:=Nat.div_le_of_le_mul hR
 obtain ⟨y,hy⟩:=@loop30i n cs ro st v0 v4 R hR (λr hr=>Nat.le_trans (mem_len hr) hf) (λk hk=>dst_pair hd _ _ (Nat.lt_succ_self _) hk) (List.range (R.length / 2)) (λk hk=>by have:=List.mem_range.1 hk; clear hf hR h2 hd; omega) [] v3 (by rw [List.length_range,List.length_nil,Nat.zero_add]; exact up hk2 rfl)
 have hr:=rng30 h1 hR
 rw [List.nil_append] at hy
 have he:=@rnd_eq cs R
 have lm:(R.map (runV cs)).length=R.length:=List.length_map ..
 have lx:((List.map (λk=>mg cs (R.getD (2 * k) []) (R.getD (2 * k + 1) [])) (List.range (R.length / 2))).map (runV cs)).length≤30:=by rw [List.length_map,List.length_map,List.length_range]; exact hk2
 have hlen:biop .len [.list (R.map (runV cs))]=some (.val (.int R.length)):=by rw [len_li (by rw [lm]; exact up hR rfl),lm]
 have hf2:exS tabs (cv (n + 1)) (.for_ [3] (.rng (.cons (.const (.int 0)) (.cons (.bin .Sub (.bi .len (.cons (.var 1) .nil)) (.const (.int 1))) (.cons (.const (.int 2)) .nil)))) B30i) (s30 v0 (R.map (runV cs)) (some (.olist [])) v3 v4 st ro)=_ :=
  for_e (rng_e (vs:=[.int 0,.int ((R.length:Int) - 1),.int 2]) (σ':=s30 v0 (R.map (runV cs)) (some (.olist [])) v3 v4 st ro) (by
   rw [es_cons,e_const,kcons_some,es2_e (x:=.val (.int ((R.length:Int) - 1))) (y:=.val (.int 2)) (σ1:=s30 v0 (R.map (runV cs)) (some (.olist [])) v3 v4 st ro) (bin_e (x:=.val (.int R.length)) (y:=.val (.int 1)) (bi1_e (x:=.val (.list (R.map (runV cs)))) rfl hlen) rfl bin_sub) rfl]; rfl) hr) hy
 generalize List.map (λk=>mg cs (R.getD (2 * k) []) (R.getD (2 * k + 1) [])) (List.range (R.length / 2))=X at he hf2 lx
 clear hy hr hd hf
 rw [he]
 by_cases o:R.length % 2=1
 ·rw [if_pos o,List.map_append]
  have e1:R[R.length - 1]?=some (R.getD (R.length - 1) []):=getD_some (Nat.sub_lt h1 Nat.one_pos)
  have hn:subv (.list (R.map (runV cs))) (.int (-1))=some (runV cs (R.getD (R.length - 1) [])):=subv_neg (by rw [lm]; exact up hR rfl) (by rw [lm]; exact h1) (by rw [lm,List.getElem?_map,e1]; rfl)
  exact ⟨_,_,x_nx (σ':=s30 v0 (R.map (runV cs)) (some (.olist [])) v3 v4 st ro) rfl (x_nx hf2 (odd30 (by rw [lm]; exact hR) (up lx rfl) (by rw [lm]; exact o) hn))⟩
 ·rw [if_neg o,List.append_nil]
  exact ⟨_,_,x_nx (σ':=s30 v0 (R.map (runV cs)) (some (.olist [])) v3 v4 st ro) rfl (x_nx hf2 (evn30 (by rw [lm]; exact hR) (by rw [lm]; exact o)))⟩
theorem flat_one {α:Type} {R:List (List α)} (h:R.length≤1):R=[]∨∃ r,R=[r]:=by
 match R,h with
 | [],_=>exact .inl rfl
 | [r],_=>exact .inr ⟨r,rfl⟩
 | _ :: _ :: _,h=>simp at h
theorem len_map {cs} {R:List (List Item)} (h:R.length≤1000):biop .len [.list (R.map (runV cs))]=some (.val (.int R.length)):=by rw [len_l (by simpa using h),List.length_map]
theorem cond30 {cf cs ro st v0 v2 v3 v4} {R:List (List Item)} (hR:R.length≤60):evE tabs cf C30 (s30 v0 (R.map (runV cs)) v2 v3 v4 st ro)=some (.val (.bool (decide ((1:Int) < R.length))),s30 v0 (R.map (runV cs)) v2 v3 v4 st ro) :=
 cmp_e' (x:=.val (.int R.length)) (y:=.val (.int 1)) (bi1_e (x:=.val (.list (R.map (runV cs)))) rfl (len_map (up hR rfl))) rfl cmp_gt
theorem loop30 {n cs ro st v0 v4} (m:Nat):∀ (R:List (List Item)) (v2 v3:Option LV),1≤m→R.length≤m→R.length≤60→R.flatten.length≤60→Dst R.flatten→(∀ r∈R,Srt cs r) →
  ∃ (R':List (List Item)) (w2 w3:Option LV),whlGo (evE tabs (cv (n + 1)) C30) (exSs tabs (cv (n + 1)) B30) m (s30 v0 (R.map (runV cs)) v2 v3 v4 st ro)=some (.next,s30 v0 (R'.map (runV cs)) w2 w3 v4 st ro)
   ∧ R'.length≤1∧R'.flatten.Perm R.flatten∧(∀ r∈R',Srt cs r):=by
 induction m with
 | zero=>exact λR v2 v3 h=>absurd h (Nat.not_succ_le_zero 0)
 | succ m ih =>
  intro R v2 v3 _ hm hR hf hd hs
  by_cases h1:R.length≤1
  ·exact ⟨R,v2,v3,whl_f (cond30 hR) (congrArg some (decide_eq_false (Int.not_lt.2 (Int.ofNat_le.2 h1)))),h1,.refl _,hs⟩
  ·have h2:=Nat.lt_of_not_le h1
   obtain ⟨w2,w3,h⟩:=@turn30 n cs ro st v0 v2 v3 v4 R h2 hR hf hd
   have hp:=@rnd_flat cs R
   have hlr:(rnd cs R).length≤m∧(rnd cs R).length≤R.length:=by rw [rnd_len]; clear hf hR h hp hd hs ih h1; omega
   obtain ⟨R',x2,x3,g,a,b,c⟩:=ih (rnd cs R) w2 w3 (Nat.le_of_succ_le_succ (Nat.le_trans h2 hm)) hlr.1 (Nat.le_trans hlr.2 hR) (by rw [hp.length_eq]; exact hf) (hd.perm hp.symm) (rnd_srt hs hd)
   exact ⟨R',x2,x3,whl_t (cond30 hR) (congrArg some (decide_eq_true (Int.ofNat_lt.2 h2))) h g,a,b.trans hp,c⟩
theorem runs_len {l:List Item}:(l.map λp=>[p]).flatten=l:=by
 induction l with
 | nil=>rfl
 | cons a l ih=>simp only [List.map_cons,List.flatten_cons,ih]; rfl
theorem c30 {n cs ro st} {L:List Item} (hL:L.length≤60) (hd:Dst L) :
  ∃ x m,cv (n + 2) 30 [runV cs L] ro st=some (x,st)∧x.frz=runV cs m∧Srt cs m∧m.Perm L:=by
 have hfl:=@runs_len L
 obtain ⟨y,hy⟩:=@compGo_mp Item (compStep [4] (evE tabs (cv (n + 1)) (.const (.bool true))) (evE tabs (cv (n + 1)) (.list (.cons (.var 4) .nil)))) (λy=>⟨[some (.val (runV cs L)),none,none,none,y],st,ro⟩) (ent cs) (λp=>runV cs [p]) L (by
  intro p _ y
  refine ⟨some (.val (ent cs p)),?_⟩
  rw [cstep_true,bind1]
  simp only [st_set,List.set_cons_zero,List.set_cons_succ]
  exact kcs_some (z:=.olist [ent cs p]) rfl) none
 obtain ⟨R',w2,w3,h,h1,h2,h3⟩:=@loop30 n cs ro st (some (.val (runV cs L))) none 200 (L.map λp=>[p]) none none (by decide) (by rw [List.length_map]; exact up hL rfl) (by rw [List.length_map]; exact hL) (by rw [hfl]; exact hL) (by rw [hfl]; exact hd) (by
  intro r hr
  obtain ⟨p,_,rfl⟩:=List.mem_map.1 hr
  exact List.pairwise_singleton _ _)
 rw [hfl] at h2
 have e2:exS tabs (cv (n + 1)) (.whl C30 B30) ⟨[some (.val (runV cs L)),some (.olist (L.map λp=>runV cs [p])),none,none,none],st,ro⟩=some (.next,s30 (some (.val (runV cs L))) (R'.map (runV cs)) w2 w3 none st ro):=by
  rw [List.map_map] at h
  rw [x_whl,←h,show (200:Nat)=199 + 1 from rfl,whlGo_succ,whlGo_succ]
  congr 1
 have e1:exS tabs (cv (n + 1)) (.assign 1 (.comp (.list (.cons (.var 4) .nil)) [4] (.ex (.var 0)) (.const (.bool true)))) ⟨[some (.val (runV cs L)),none,none,none,none],st,ro⟩=some (.next,⟨[some (.val (runV cs L)),some (.olist (L.map λp=>runV cs [p])),none,none,none],st,ro⟩):=by
  have hok:okLen (L.map (ent cs)).length=true:=okLen_t (by rw [List.length_map]; exact up hL rfl)
  refine asg_e (x:=.olist (L.map λp=>runV cs [p])) (σ':=⟨[some (.val (runV cs L)),none,none,none,none],st,ro⟩) ?_
  show kcomp (lI (some (L.map (ent cs))) _) [4] _=_
  rw [lI_some,kcomp_some,if_pos hok,hy]
  rfl
 rw [cv30]
 rcases flat_one h1 with rfl | ⟨r,rfl⟩
 ·exact ⟨.olist [],[],fin_r (x_nx e1 (x_nx e2 (x_rt (ret_e (x:=.olist []) (σ':=s30 (some (.val (runV cs L))) [] w2 w3 none st ro) rfl)))),rfl,.nil,h2⟩
 ·exact ⟨.val (runV cs r),r,fin_r (x_nx e1 (x_nx e2 (x_rt (ret_e (x:=.val (runV cs r)) (σ':=s30 (some (.val (runV cs L))) [runV cs r] w2 w3 none st ro) rfl)))),rfl,h3 r (.head _),by rw [List.flatten_cons,List.flatten_nil,List.append_nil] at h2; exact h2⟩
theorem pb_some {α β γ:Type} {a:α} {b:β} {f:α→β→Option γ}:pb (some (a,b)) f=f a b:=rfl
theorem cstep_t {tg c e x} {σ σa σb σc:St} {z:LV} (hb:bindTg tg x σ=some σa) (h1:c σa=some (.val (.bool true),σb)) (h2:e σb=some (z,σc)):compStep tg c e x σ=some ([z.frz],σc):=by
 unfold compStep; rw [hb,Option.bind_some,h1,pb_some,frz_val,truth_bool,Option.bind_some,cond_true,h2,pb_some]
theorem cstep_f {tg c e x} {σ σa σb:St} (hb:bindTg tg x σ=some σa) (h1:c σa=some (.val (.bool false),σb)):compStep tg c e x σ=some ([],σb):=by
 unfold compStep; rw [hb,Option.bind_some,h1,pb_some,frz_val,truth_bool,Option.bind_some,cond_false]
theorem compGo_fm2 {α:Type} {step:Val→St→Option (List Val×St)} {mk:Option LV→St} {f:α→Val} {g:α→List Val}:∀ {xs:List α},(∀ x∈xs,∀ y,∃ y',step (f x) (mk y)=some (g x,mk y')) →
  ∀ y,∃ y',compGo step (xs.map f) (mk y)=some (xs.flatMap g,mk y')
 | [],_,y=>⟨y,rfl⟩
 | x :: xs,h,y=>by
  obtain ⟨y1,h1⟩:=h x (by simp) y
  obtain ⟨y2,h2⟩:=compGo_fm2 (xs:=xs) (λx hx=>h x (by simp [hx])) y1
  exact ⟨y2,by simp only [List.map_cons,compGo,h1,h2,List.flatMap_cons]⟩
noncomputable def rowsV (L:List (List Val)):List Val:=L.map .list
theorem fm_len {cs:List Col} {p:List Val} {L:List (List Val)}:(L.flatMap λq=>if sgn cs q p≤0 then [Val.list q] else []).length=(L.filter λq=>decide (sgn cs q p≤0)).length:=by
 induction L with
 | nil=>rfl
 | cons q L ih=>simp only [List.flatMap_cons,List.length_append,ih,List.filter_cons]; by_cases h:sgn cs q p≤0 <;> simp [h]; omega
noncomputable abbrev B46:MSs:=(.cons (.assign 4 (.bi .len (.cons (.comp (.var 5) [5] (.ex (.var 2)) (.cmp .LtE (.call 45 (.cons (.var 5) (.cons (.var 3) (.cons (.var 1) .nil)))) (.const (.int 0)))) .nil))) (.cons (.assign 2 (.bin .Add (.bin .Add (.slc (.var 2) (.const .none) (.var 4)) (.list (.cons (.var 3) .nil))) (.slc (.var 2) (.var 4) (.const .none)))) .nil))
section
variable {cf:CF} {σ σ1 σ2 σ':St}
theorem es3_e {a b c x y z σ3} (h1:evE tabs cf a σ=some (x,σ1)) (h2:evE tabs cf b σ1=some (y,σ2)) (h3:evE tabs cf c σ2=some (z,σ3)):evEs tabs cf (.cons a (.cons b (.cons c .nil))) σ=some ([x.frz,y.frz,z.frz],σ3):=by rw [es_cons,h1,kcons_some,es2_e h2 h3]; rfl
theorem compE_e {elt tg e cnd x xs ys} (h:evE tabs cf e σ=some (x,σ1)) (hi:items? x.frz=some xs) (ok:xs.length≤1000000) (hg:compGo (compStep tg (evE tabs cf cnd) (evE tabs cf elt)) xs σ1=some (ys,σ2)) :
  evE tabs cf (.comp elt tg (.ex e) cnd) σ=some (.olist ys,⟨unset tg σ2.vars,σ2.store,σ2.ro⟩):=by rw [e_compE,h,kit_some,hi,lI_some,kcomp_some,if_pos (okLen_t ok),hg]; rfl
theorem compR_e {elt tg es vs xs ys} (h:evEs tabs cf es σ=some (vs,σ1)) (hi:range? vs=some xs) (ok:xs.length≤1000000) (hg:compGo (compStep tg (evE tabs cf (.const (.bool true))) (evE tabs cf elt)) xs σ1=some (ys,σ2)) :
  evE tabs cf (.comp elt tg (.rng es) (.const (.bool true))) σ=some (.olist ys,⟨unset tg σ2.vars,σ2.store,σ2.ro⟩):=by rw [e_compR,h,krng_some,hi,lI_some,kcomp_some,if_pos (okLen_t ok),hg]; rfl
theorem list1_e {e x} (h:evE tabs cf e σ=some (x,σ')):evE tabs cf (.list (.cons e .nil)) σ=some (.olist [x.frz],σ'):=by rw [e_list,es1_e h]; rfl
end
theorem insR_len {cs L p}:(insR cs L p).length=L.length + 1:=by
 unfold insR
 rw [List.length_append,List.length_append,List.length_singleton,Nat.add_right_comm,←List.length_append,List.take_append_drop]
noncomputable abbrev s46 (v0:Option LV) (cs:List Col) (x2 v3 v4 v5:Option LV) (st:List SObj) (ro:Bool):St:=⟨[v0,some (.val (.list (cs.map colV))),x2,v3,v4,v5],st,ro⟩
theorem turn46 {n cs ro st v0 v3 v4 v5} {L:List (List Val)} {p:List Val} (hc:okC cs) (hp:RowC cs p) (hL:∀ q∈L,RowC cs q) (hl:L.length≤60) :
  ∃ w3 w4 w5,stp [3] (exSs tabs (cv (n + 2)) B46) (.list p) (s46 v0 cs (some (.olist (rowsV L))) v3 v4 v5 st ro)=some (.next,s46 v0 cs (some (.olist (rowsV (insR cs L p)))) w3 w4 w5 st ro):=by
 have lr:(rowsV L).length=L.length:=List.length_map ..
 have hk:=@fm_len cs p L
 have hkl:(L.filter λq=>decide (sgn cs q p≤0)).length≤L.length:=List.length_filter_le ..
 obtain ⟨y,hy⟩:=@compGo_fm2 (List Val) (compStep [5] (evE tabs (cv (n + 2)) (.cmp .LtE (.call 45 (.cons (.var 5) (.cons (.var 3) (.cons (.var 1) .nil)))) (.const (.int 0)))) (evE tabs (cv (n + 2)) (.var 5)))
  (λy=>s46 v0 cs (some (.val (.list (rowsV L)))) (some (.val (.list p))) v4 y st ro) .list (λq=>if sgn cs q p≤0 then [Val.list q] else []) L (by
  intro q hq y
  have h45:=@c45 n ro st cs q p hc (hL q hq) hp
  refine ⟨some (.val (.list q)),?_⟩
  have e:evE tabs (cv (n + 2)) (.cmp .LtE (.call 45 (.cons (.var 5) (.cons (.var 3) (.cons (.var 1) .nil)))) (.const (.int 0))) (s46 v0 cs (some (.val (.list (rowsV L)))) (some (.val (.list p))) v4 (some (.val (.list q))) st ro)
    = some (.val (.bool (decide (sgn cs q p≤0))),s46 v0 cs (some (.val (.list (rowsV L)))) (some (.val (.list p))) v4 (some (.val (.list q))) st ro) :=
   cmp_e' (x:=.val (.int (sgn cs q p))) (y:=.val (.int 0)) (call_e (vs:=[.list q,.list p,.list (cs.map colV)]) (σ':=s46 v0 cs (some (.val (.list (rowsV L)))) (some (.val (.list p))) v4 (some (.val (.list q))) st ro) rfl tc45 h45) rfl cmp_le
  by_cases h:sgn cs q p≤0
  ·rw [if_pos h]
   rw [decide_eq_true h] at e
   exact cstep_t (z:=.val (.list q)) rfl e rfl
  ·rw [if_neg h]
   rw [decide_eq_false h] at e
   exact cstep_f rfl e) v5
 have e1:exS tabs (cv (n + 2)) (.assign 4 (.bi .len (.cons (.comp (.var 5) [5] (.ex (.var 2)) (.cmp .LtE (.call 45 (.cons (.var 5) (.cons (.var 3) (.cons (.var 1) .nil)))) (.const (.int 0)))) .nil))) (s46 v0 cs (some (.olist (rowsV L))) (some (.val (.list p))) v4 v5 st ro)
   = some (.next,s46 v0 cs (some (.val (.list (rowsV L)))) (some (.val (.list p))) (some (.val (.int ((L.filter λq=>decide (sgn cs q p≤0)).length:Nat)))) none st ro) :=
  asg_e (x:=.val (.int ((L.filter λq=>decide (sgn cs q p≤0)).length:Nat))) (σ':=s46 v0 cs (some (.val (.list (rowsV L)))) (some (.val (.list p))) v4 none st ro) (bi1_e (x:=.olist (L.flatMap λq=>if sgn cs q p≤0 then [Val.list q] else []))
   (compE_e (x:=.val (.list (rowsV L))) rfl rfl (by rw [lr]; exact up hl rfl) hy) (by rw [←hk]; exact len_li (by rw [hk]; exact Nat.le_trans hkl (up hl rfl))))
 clear hy hk
 unfold insR
 generalize (L.filter λq=>decide (sgn cs q p≤0)).length=k at e1 hkl ⊢
 have lt:((rowsV L).take k).length≤60:=Nat.le_trans (List.length_take_le' ..) (by rw [lr]; exact hl)
 have ld:((rowsV L).drop k).length≤60:=by rw [List.length_drop,lr]; exact Nat.le_trans (Nat.sub_le ..) hl
 have e:rowsV (L.take k ++ [p] ++ L.drop k)=(rowsV L).take k ++ [.list p] ++ (rowsV L).drop k:=by unfold rowsV; rw [List.map_append,List.map_append,List.map_take,List.map_drop]; rfl
 rw [e,stp1]
 exact ⟨_,_,_,x_nx e1 (x_nx (asg_e (x:=.olist ((rowsV L).take k ++ [Val.list p] ++ (rowsV L).drop k)) (σ':=s46 v0 cs (some (.val (.list (rowsV L)))) (some (.val (.list p))) (some (.val (.int k))) none st ro)
  (bin_e (x:=.olist ((rowsV L).take k ++ [Val.list p])) (y:=.olist ((rowsV L).drop k)) (bin_e (x:=.olist ((rowsV L).take k)) (y:=.olist [Val.list p]) (slc_e (x:=.val (.list (rowsV L))) (y:=.val .none) (z:=.val (.int k)) rfl rfl rfl (slcv_to (by rw [lr]; exact up hl rfl) (by rw [lr]; exact hkl)))
   (list1_e (x:=.val (.list p)) rfl) (bin_addl (a:=(rowsV L).take k) (b:=[Val.list p]) (up (Nat.add_le_add_right lt 1) rfl))) (slc_e (x:=.val (.list (rowsV L))) (y:=.val (.int k)) (z:=.val .none) rfl rfl rfl (slcv_from (by rw [lr]; exact up hl rfl) (by rw [lr]; exact hkl)))
   (bin_addl (a:=(rowsV L).take k ++ [Val.list p]) (b:=(rowsV L).drop k) (up (Nat.add_le_add (app_l1 lt) ld) rfl)))) rfl)⟩
theorem insR_mem {cs L p q} (h:q∈insR cs L p):q∈L∨q=p:=by
 rcases List.mem_append.1 h with h | h
 ·rcases List.mem_append.1 h with h | h
  ·exact .inl (List.mem_of_mem_take h)
  ·exact .inr (List.mem_singleton.1 h)
 ·exact .inl (List.mem_of_mem_drop h)
theorem loop46 {n cs ro st v0} (hc:okC cs) (rows:List (List Val)):∀ (L:List (List Val)) (v3 v4 v5:Option LV),(∀ q∈rows,RowC cs q)→(∀ q∈L,RowC cs q)→L.length + rows.length≤60 →
  ∃ w3 w4 w5,forGo (stp [3] (exSs tabs (cv (n + 2)) B46)) (rowsV rows) (s46 v0 cs (some (.olist (rowsV L))) v3 v4 v5 st ro)=some (.next,s46 v0 cs (some (.olist (rowsV (rows.foldl (insR cs) L)))) w3 w4 w5 st ro):=by
 induction rows with
 | nil=>exact λL v3 v4 v5 _ _ _=>⟨v3,v4,v5,rfl⟩
 | cons p rows ih =>
  intro L v3 v4 v5 h1 h2 hl
  rw [List.length_cons,←Nat.add_assoc,Nat.add_right_comm] at hl
  obtain ⟨a,b,c,h⟩:=@turn46 n cs ro st v0 v3 v4 v5 L p hc (h1 p (.head _)) h2 (Nat.le_of_succ_le (Nat.le_trans (Nat.le_add_right _ _) hl))
  obtain ⟨a',b',c',h'⟩:=ih (insR cs L p) a b c (λq hq=>h1 q (.tail _ hq)) (λq hq=>(insR_mem hq).elim (h2 q) λe=>e ▸ h1 p (.head _)) (by rw [insR_len]; exact hl)
  exact ⟨a',b',c',fg_c h h'⟩
theorem c46 {n cs ro st} {rows:List (List Val)} (hc:okC cs) (h:∀ q∈rows,RowC cs q) (hl:rows.length≤60) :
  cv (n + 3) 46 [.list (rowsV rows),.list (cs.map colV)] ro st=some (.val (.list (rowsV (sortR cs rows))),st):=by
 obtain ⟨a,b,c,h⟩:=@loop46 n cs ro st (some (.val (.list (rowsV rows)))) hc rows [] none none none h (λ_ h=>nomatch h) (by rw [List.length_nil,Nat.zero_add]; exact hl)
 rw [cv46]
 exact fin_r (x_nx (σ':=s46 (some (.val (.list (rowsV rows)))) cs (some (.olist [])) none none none st ro) rfl (x_nx (for_e (xs:=rowsV rows) rfl h) (x_rt (ret_e (x:=.val (.list (rowsV (sortR cs rows)))) rfl))))
noncomputable abbrev sO (cs:List Col) (size:Int) (G:List Item) (R:List (List Item)) (t:Nat) (T:LV) (pl:Int):SObj :=
 .inst 1 [(2,.val (.obj 5)),(3,.val (.int size)),(4,.olist (G.map (ent cs))),(5,.olist (R.map (runV cs))),(6,.val (.int t)),(7,T),(8,.val (.int pl))]
structure Base where
 o0:SObj
 o1:SObj
 o2:SObj
 o3:SObj
noncomputable abbrev W (b:Base) (src:List Val) (cs:List Col) (S:SObj):List SObj:=[b.o0,b.o1,b.o2,b.o3,.slist src,kiObj cs,S]
section
variable {cf:CF} {σ σ1 σ2 σ':St}
theorem setAttr_e {i f e x k} (h:evE tabs cf e σ=some (x,σ')) (hg:σ'.get i=some (.val (.obj k))) (hp:σ'.putField k f x=some σ2):exS tabs cf (.setAttr i f e) σ=some (.next,σ2):=by rw [x_setAttr,h,ka_some,sF_def,hg,sFB_some,hp]; rfl
theorem fapp_e {i f e k x l l0} (hg:σ.get i=some (.val (.obj k))) (h0:σ.field k f=some (.olist l0)) (h:evE tabs cf e σ=some (x,σ')) (hf:σ'.field k f=some (.olist l)) (ok:l.length≤1000000) (hp:σ'.putField k f (.olist (l ++ [x.frz]))=some σ2) :
  exS tabs cf (.fappend i f e) σ=some (.next,σ2):=by rw [x_fappend,hg,kfa_some,h0,faB_some,h,ka_some,sFa_def,hf,faC_some,if_pos (okLen_t ok),hp]; rfl
theorem callP_e {j es vs r st'} (h1:evEs tabs cf es σ=some (vs,σ')) (ht:tabs.cls j=none) (h2:cf j vs true σ'.store=some (r,st')) (hl:st'.length=σ'.store.length):evE tabs cf (.callP j es) σ=some (r,σ'):=by rw [e_callP,h1,ht,kcallP_some,h2,kcp_some,if_pos hl]
end
theorem c33 {n b src cs size G R t T pl} (hG:G.length≤60) (hd:Dst G) (hR:R.length≤60) :
  ∃ m,cv (n + 3) 33 [.obj 6] false (W b src cs (sO cs size G R t T pl))=some (.val .none,W b src cs (sO cs size [] (R ++ [m]) t T pl))∧Srt cs m∧m.Perm G:=by
 obtain ⟨x,m,h1,h2,h3,h4⟩:=@c30 n cs true (W b src cs (.inst 1 [(2,.val (.obj 5)),(3,.val (.int size)),(4,.val (.list (G.map (ent cs)))),(5,.olist (R.map (runV cs))),(6,.val (.int t)),(7,T),(8,.val (.int pl))])) G hG hd
 refine ⟨m,?_,h3,h4⟩
 have e:(R ++ [m]).map (runV cs)=R.map (runV cs) ++ [x.frz]:=by rw [List.map_append,h2]; rfl
 show _=some (LV.val .none,W b src cs (.inst 1 [(2,.val (.obj 5)),(3,.val (.int size)),(4,.olist []),(5,.olist ((R ++ [m]).map (runV cs))),(6,.val (.int t)),(7,T),(8,.val (.int pl))]))
 rw [cv33,e]
 exact (congrArg (fin false) (x_nx (fapp_e (k:=6) (x:=x) (l0:=R.map (runV cs)) (l:=R.map (runV cs)) (σ':=⟨[some (.val (.obj 6))],W b src cs (.inst 1 [(2,.val (.obj 5)),(3,.val (.int size)),(4,.val (.list (G.map (ent cs)))),(5,.olist (R.map (runV cs))),(6,.val (.int t)),(7,T),(8,.val (.int pl))]),false⟩) rfl rfl
  (callP_e (vs:=[runV cs G]) rfl tc30 h1 rfl) rfl (by rw [List.length_map]; exact up hR rfl) rfl) (x_nx (setAttr_e (k:=6) (x:=.olist []) (σ':=⟨[some (.val (.obj 6))],W b src cs (.inst 1 [(2,.val (.obj 5)),(3,.val (.int size)),(4,.val (.list (G.map (ent cs)))),(5,.olist (R.map (runV cs) ++ [x.frz])),(6,.val (.int t)),(7,T),(8,.val (.int pl))]),false⟩) rfl rfl rfl) rfl))).trans fin_next
theorem sqn_e {r k σ'} {P:Prop} (h:sq r k=some (.next,σ')) (kk:∀ σ,r=some (.next,σ)→k σ=some (.next,σ')→P):P:=by
 cases r with
 | none=>exact nsm h
 | some p =>
  obtain ⟨f,s⟩:=p
  cases f with
  | next=>exact kk s rfl h
  | ret=>exact Fl.noConfusion (si2 h).1
theorem x_two {T cf a b r σ σ'} (h:exSs T cf (.cons a (.cons b .nil)) σ=some (.next,σ')):exSs T cf (.cons a (.cons b r)) σ=exSs T cf r σ' :=
 sqn_e (r:=exS T cf a σ) h λs h1 h2=>sqn_e (r:=exS T cf b s) h2 λs2 h3 h4=>by rw [x_cons,h1,sq_next,x_cons,h3,sq_next,(si2 h4).2]
theorem x_two2 {T cf a b r q} {σ σ':St} (h:exSs T cf (.cons a (.cons b .nil)) σ=some (.next,σ')) (h2:exSs T cf r σ'=q):exSs T cf (.cons a (.cons b r)) σ=q:=(x_two h).trans h2
theorem kmeth_ki {k cs σ es cf j}:kmethB k (some (kiObj cs)) (some 0) σ es cf j=kmethC k (es σ) cf j:=rfl
section
variable {cf:CF} {σ σ1 σ2 σ':St}
theorem lenF_e {i f l} (hl:(lookField i f σ).bind listOf?=some l) (ok:l.length≤1000000):evE tabs cf (.lenF i f) σ=some (.val (.int l.length),σ):=by rw [e_lenF,hl,kl_some,leF,if_pos (okLen_t ok)]; rfl
theorem subF_e {i f l k v} (hl:(lookField i f σ).bind listOf?=some l) (h:subv (.list l) (.int k)=some v):evE tabs cf (.subF i f k) σ=some (.val v,σ):=by rw [e_subF,hl,kl_some,sfF_def,h]; rfl
theorem slcF_e {i f l k v} (hl:(lookField i f σ).bind listOf?=some l) (h:slcv (.list l) (.int k) .none=some v):evE tabs cf (.slcF i f k) σ=some (v,σ):=by rw [e_slcF,hl,kl_some,slF_def,h]; rfl
theorem truF_e {i f l} (hl:(lookField i f σ).bind listOf?=some l) (ok:l.length≤1000000):evE tabs cf (.truF i f) σ=some (.val (.bool (!l.isEmpty)),σ):=by rw [e_truF,hl,kl_some,trF,if_pos (okLen_t ok)]; rfl
theorem expr_e {e} (h:evE tabs cf e σ=some (.val .none,σ')):exS tabs cf (.expr e) σ=some (.next,σ'):=by rw [x_expr,h]; rfl
theorem iteE_t {c a b x q} (h:evE tabs cf c σ=some (x,σ')) (ht:truth x.frz=some true) (ha:evE tabs cf a σ'=q):evE tabs cf (.ite c a b) σ=q:=by rw [e_ite,h,kite_some,ht,kiteB_t,ha]
theorem iteE_f {c a b x q} (h:evE tabs cf c σ=some (x,σ')) (ht:truth x.frz=some false) (ha:evE tabs cf b σ'=q):evE tabs cf (.ite c a b) σ=q:=by rw [e_ite,h,kite_some,ht,kiteB_f,ha]
theorem tup3_e {a b c x y z σ3} (h1:evE tabs cf a σ=some (x,σ1)) (h2:evE tabs cf b σ1=some (y,σ2)) (h3:evE tabs cf c σ2=some (z,σ3)):evE tabs cf (.tuple (.cons a (.cons b (.cons c .nil)))) σ=some (.val (.tuple [x.frz,y.frz,z.frz]),σ3):=by rw [e_tuple,es_cons,h1,kcons_some,es2_e h2 h3]; rfl
end
noncomputable abbrev s32 (b:Base) (src:List Val) (cs:List Col) (S:SObj) (e:List UInt8) (x y:Option LV):St:=⟨[some (.val (.obj 6)),some (.val (.bytes e)),x,y],W b src cs S,false⟩
theorem c32 {n b src cs size G R t T pl r} (hc:okC cs) (hr:RowC cs r) (hG:G.length + 1≤60) (hd:Dst (G ++ [(r,t)])) (hR:R.length≤60) :
  ∃ G2 R2,cv (n + 8) 32 [.obj 6,.bytes (enc r)] false (W b src cs (sO cs size G R t T pl))=some (.val .none,W b src cs (sO cs size G2 R2 (t + 1) T pl)) ∧
   ((size≤G.length + 1∧G2=[]∧∃ m,R2=R ++ [m]∧Srt cs m∧m.Perm (G ++ [(r,t)]))∨(G.length + 1 < size∧G2=G ++ [(r,t)]∧R2=R)):=by
 have lG:(G.map (ent cs)).length=G.length:=List.length_map ..
 have hst:(W b src cs (sO cs size G R t T pl))[5]?=some (kiObj cs):=rfl
 have a1:exS tabs (cv (n + 7)) (.assign 2 (.call 20 (.cons (.var 1) .nil))) (s32 b src cs (sO cs size G R t T pl) (enc r) none none)=some (.next,s32 b src cs (sO cs size G R t T pl) (enc r) (some (.val (.list r))) none) :=
  asg_e (x:=.val (.list r)) (call_e (σ':=s32 b src cs (sO cs size G R t T pl) (enc r) none none) rfl tc20 (@c20 n false _ r hr.1))
 have hki:evE tabs (cv (n + 7)) (.attr (.var 0) 2) (s32 b src cs (sO cs size G R t T pl) (enc r) (some (.val (.list r))) none)=some (.val (.obj 5),s32 b src cs (sO cs size G R t T pl) (enc r) (some (.val (.list r))) none):=rfl
 have a2:exS tabs (cv (n + 7)) (.assign 3 (.call 28 (.cons (.slc (.var 2) (.const .none) (.meth (.attr (.var 0) 2) 23 .nil)) (.cons (.attr (.var 0) 2) .nil)))) (s32 b src cs (sO cs size G R t T pl) (enc r) (some (.val (.list r))) none)
   = some (.next,s32 b src cs (sO cs size G R t T pl) (enc r) (some (.val (.list r))) (some (.val (.bytes (key cs r))))) :=
  asg_e (x:=.val (.bytes (key cs r))) (call_e (vs:=[.list (r.take cs.length),.obj 5]) (σ':=s32 b src cs (sO cs size G R t T pl) (enc r) (some (.val (.list r))) none) (es2_e (x:=.olist (r.take cs.length)) (y:=.val (.obj 5))
   (slc_e (x:=.val (.list r)) (y:=.val .none) (z:=.val (.int cs.length)) rfl rfl (meth_e (k:=5) (σ1:=s32 b src cs (sO cs size G R t T pl) (enc r) (some (.val (.list r))) none) (σ2:=s32 b src cs (sO cs size G R t T pl) (enc r) (some (.val (.list r))) none) hki rfl tc23 rfl (@c23 (n + 6) _ 5 cs hst hc.1.2)) (slcv_to (up hr.1.1.2 rfl) hr.2)) hki) tc28 (@c28 (n + 1) _ 5 cs r hst hc hr))
 have a3:exS tabs (cv (n + 7)) (.fappend 0 4 (.tuple (.cons (.var 3) (.cons (.attr (.var 0) 6) (.cons (.var 1) .nil))))) (s32 b src cs (sO cs size G R t T pl) (enc r) (some (.val (.list r))) (some (.val (.bytes (key cs r)))))
   = some (.next,s32 b src cs (.inst 1 [(2,.val (.obj 5)),(3,.val (.int size)),(4,.olist (G.map (ent cs) ++ [ent cs (r,t)])),(5,.olist (R.map (runV cs))),(6,.val (.int t)),(7,T),(8,.val (.int pl))]) (enc r) (some (.val (.list r))) (some (.val (.bytes (key cs r))))) :=
  fapp_e (k:=6) (x:=.val (ent cs (r,t))) (l0:=G.map (ent cs)) (l:=G.map (ent cs)) (σ':=s32 b src cs (sO cs size G R t T pl) (enc r) (some (.val (.list r))) (some (.val (.bytes (key cs r))))) rfl rfl (tup3_e (x:=.val (.bytes (key cs r))) (y:=.val (.int t)) (z:=.val (.bytes (enc r))) rfl rfl rfl) rfl (by rw [lG]; exact up (Nat.le_of_succ_le hG) rfl) rfl
 have a34:exSs tabs (cv (n + 7)) (.cons (.fappend 0 4 (.tuple (.cons (.var 3) (.cons (.attr (.var 0) 6) (.cons (.var 1) .nil))))) (.cons (.augAttr 0 6 .Add (.const (.int 1))) .nil)) (s32 b src cs (sO cs size G R t T pl) (enc r) (some (.val (.list r))) (some (.val (.bytes (key cs r)))))
   = some (.next,s32 b src cs (sO cs size (G ++ [(r,t)]) R (t + 1) T pl) (enc r) (some (.val (.list r))) (some (.val (.bytes (key cs r))))):=by
  refine x_nx a3 ?_
  show _=some (Fl.next,s32 b src cs (.inst 1 [(2,.val (.obj 5)),(3,.val (.int size)),(4,.olist ((G ++ [(r,t)]).map (ent cs))),(5,.olist (R.map (runV cs))),(6,.val (.int (t + 1:Nat))),(7,T),(8,.val (.int pl))]) (enc r) (some (.val (.list r))) (some (.val (.bytes (key cs r)))))
  rw [List.map_append]
  rfl
 have g1:((G ++ [(r,t)]).map (ent cs)).length=G.length + 1:=by rw [List.length_map,List.length_append]; rfl
 have ce:evE tabs (cv (n + 7)) (.cmp .GtE (.lenF 0 4) (.attr (.var 0) 3)) (s32 b src cs (sO cs size (G ++ [(r,t)]) R (t + 1) T pl) (enc r) (some (.val (.list r))) (some (.val (.bytes (key cs r)))))=some (.val (.bool (decide (size≤(G.length:Int) + 1))),s32 b src cs (sO cs size (G ++ [(r,t)]) R (t + 1) T pl) (enc r) (some (.val (.list r))) (some (.val (.bytes (key cs r))))) :=
  cmp_e' (x:=.val (.int ((G ++ [(r,t)]).map (ent cs)).length)) (y:=.val (.int size)) (lenF_e (l:=(G ++ [(r,t)]).map (ent cs)) rfl (by rw [g1]; exact up hG rfl)) rfl (by rw [g1]; exact cmp_ge)
 have go:=λ {z} (h:exSs tabs (cv (n + 7)) (.cons (.ite (.cmp .GtE (.lenF 0 4) (.attr (.var 0) 3)) (.cons (.expr (.meth (.var 0) 33 .nil)) .nil) .nil) .nil) (s32 b src cs (sO cs size (G ++ [(r,t)]) R (t + 1) T pl) (enc r) (some (.val (.list r))) (some (.val (.bytes (key cs r)))))=some (.next,z))=>x_nx a1 (x_nx a2 (x_two2 a34 h))
 clear a1 a2 a3 a34 hki
 rw [cv32]
 by_cases hs:size≤(G.length:Int) + 1
 ·obtain ⟨m,h1,h2,h3⟩:=@c33 (n + 4) b src cs size (G ++ [(r,t)]) R (t + 1) T pl (by rw [List.length_append]; exact hG) hd hR
  exact ⟨[],R ++ [m],(congrArg (fin false) (go (x_nx ((ite_t ce (congrArg some (decide_eq_true hs))).trans (x_nx (expr_e (meth_e (k:=6) (σ1:=s32 b src cs (sO cs size (G ++ [(r,t)]) R (t + 1) T pl) (enc r) (some (.val (.list r))) (some (.val (.bytes (key cs r))))) (σ2:=s32 b src cs (sO cs size (G ++ [(r,t)]) R (t + 1) T pl) (enc r) (some (.val (.list r))) (some (.val (.bytes (key cs r))))) rfl rfl tc33 rfl h1)) rfl)) rfl))).trans fin_next,.inl ⟨hs,rfl,m,rfl,h2,h3⟩⟩
 ·exact ⟨G ++ [(r,t)],R,(congrArg (fin false) (go (x_nx (ite_n ce (congrArg some (decide_eq_false hs))) rfl))).trans fin_next,.inr ⟨Int.lt_of_not_ge hs,rfl,rfl⟩⟩
theorem c36 {n b src cs size G R t T pl} {m:List Item} (hT:listOf? T=some (m.map (ent cs))) (hm:m.length≤60) :
  cv (n + 1) 36 [.obj 6] false (W b src cs (sO cs size G R t T pl))=some (.val (.bool (decide (0≤pl) && decide (pl < m.length))),W b src cs (sO cs size G R t T pl)):=by
 have hl:evE tabs (cv n) (.lenF 0 7) ⟨[some (.val (.obj 6))],W b src cs (sO cs size G R t T pl),false⟩=some (.val (.int m.length),⟨[some (.val (.obj 6))],W b src cs (sO cs size G R t T pl),false⟩):=by
  rw [lenF_e (cf:=cv n) (σ:=⟨[some (.val (.obj 6))],W b src cs (sO cs size G R t T pl),false⟩) (i:=0) (f:=7) (l:=m.map (ent cs)) hT (by rw [List.length_map]; exact up hm rfl),List.length_map]
 rw [cv36]
 refine fin_r (x_rt (ret_e (σ':=⟨[some (.val (.obj 6))],W b src cs (sO cs size G R t T pl),false⟩) ?_))
 rw [e_cmp2]
 show kc2c (some (decide (0≤pl))) (.val (.int pl)) _ _ _=_
 by_cases h:0≤pl
 ·rw [decide_eq_true h,kc2c_t,hl]; rfl
 ·rw [decide_eq_false h,kc2c_f]; rfl
theorem c35 {n b src cs size G R t T pl} {m:List Item} (hT:listOf? T=some (m.map (ent cs))) (hm:m.length≤60) :
  cv (n + 2) 35 [.obj 6] false (W b src cs (sO cs size G R t T pl))=some (.val (.bool (decide (0≤pl + 1) && decide (pl + 1 < m.length))),W b src cs (sO cs size G R t T (pl + 1))):=by
 have h:=@c36 n b src cs size G R t T (pl + 1) m hT hm
 rw [cv35]
 exact fin_r (x_nx (σ':=⟨[some (.val (.obj 6))],W b src cs (sO cs size G R t T (pl + 1)),false⟩) rfl (x_rt (ret_e (meth_e (k:=6) (σ1:=⟨[some (.val (.obj 6))],W b src cs (sO cs size G R t T (pl + 1)),false⟩) (σ2:=⟨[some (.val (.obj 6))],W b src cs (sO cs size G R t T (pl + 1)),false⟩) rfl rfl tc36 rfl h))))
theorem c37 {n b src cs size G R t} {m:List Item} {pl:Nat} {p:Item} (hm:m.length≤60) (hp:m[pl]?=some p) :
  cv (n + 1) 37 [.obj 6] false (W b src cs (sO cs size G R t (.val (runV cs m)) pl))=some (.val (.bytes (enc p.1)),W b src cs (sO cs size G R t (.val (runV cs m)) pl)):=by
 have h:subv (runV cs m) (.int pl)=some (ent cs p):=subv_at (map1000 hm) (by rw [List.getElem?_map,hp]; rfl)
 rw [cv37]
 exact fin_r (x_rt (ret_e (σ':=⟨[some (.val (.obj 6))],W b src cs (sO cs size G R t (.val (runV cs m)) pl),false⟩) (sub_e (x:=.val (ent cs p)) (y:=.val (.int 2)) (sub_e (x:=.val (runV cs m)) (y:=.val (.int pl)) rfl rfl h) rfl sub_e2)))
theorem c38 {n b src cs size G R t} {m:List Item} {pl:Nat} {p:Item} (hm:m.length≤60) (hp:m[pl]?=some p) (hr:Row p.1) :
  cv (n + 8) 38 [.obj 6] false (W b src cs (sO cs size G R t (.val (runV cs m)) pl))=some (.val (.list p.1),W b src cs (sO cs size G R t (.val (runV cs m)) pl)):=by
 have h:=@c37 (n + 6) b src cs size G R t m pl p hm hp
 rw [cv38]
 exact fin_r (x_rt (ret_e (call_e (vs:=[.bytes (enc p.1)]) (σ':=⟨[some (.val (.obj 6))],W b src cs (sO cs size G R t (.val (runV cs m)) pl),false⟩) (es1_e (x:=.val (.bytes (enc p.1))) (meth_e (k:=6) (σ1:=⟨[some (.val (.obj 6))],W b src cs (sO cs size G R t (.val (runV cs m)) pl),false⟩) (σ2:=⟨[some (.val (.obj 6))],W b src cs (sO cs size G R t (.val (runV cs m)) pl),false⟩) rfl rfl tc37 rfl h)) tc20 (@c20 n false _ p.1 hr))))
theorem c39 {n b src cs size G R t} {m:List Item} {pl:Nat} {p:Item} (hm:m.length≤60) (hp:m[pl]?=some p) (hr:Row p.1) {i:Nat} (hi:i≤p.1.length) :
  cv (n + 8) 39 [.obj 6,.int i] false (W b src cs (sO cs size G R t (.val (runV cs m)) pl))=some (.val (p.1[i]?.getD .none),W b src cs (sO cs size G R t (.val (runV cs m)) pl)):=by
 have h:=@c37 (n + 6) b src cs size G R t m pl p hm hp
 rw [cv39]
 exact fin_r (x_rt (ret_e (call_e (vs:=[.bytes (enc p.1),.int i]) (σ':=⟨[some (.val (.obj 6)),some (.val (.int i))],W b src cs (sO cs size G R t (.val (runV cs m)) pl),false⟩) (es2_e (x:=.val (.bytes (enc p.1))) (y:=.val (.int i)) (meth_e (k:=6) (σ1:=⟨[some (.val (.obj 6)),some (.val (.int i))],W b src cs (sO cs size G R t (.val (runV cs m)) pl),false⟩) (σ2:=⟨[some (.val (.obj 6)),some (.val (.int i))],W b src cs (sO cs size G R t (.val (runV cs m)) pl),false⟩) rfl rfl tc37 rfl h) rfl) tc21 (@c21 n false _ p.1 hr i hi))))
noncomputable abbrev C34:ME:=(.cmp .Gt (.lenF 0 5) (.const (.int 1)))
noncomputable abbrev B34:MSs:=(.cons (.setAttr 0 5 (.bin .Add (.list (.cons (.call 29 (.cons (.subF 0 5 0) (.cons (.subF 0 5 1) .nil))) .nil)) (.slcF 0 5 2))) .nil)
noncomputable abbrev s34 (b:Base) (src:List Val) (cs:List Col) (S:SObj):St:=⟨[some (.val (.obj 6))],W b src cs S,false⟩
theorem cond34 {cf b src cs size t T pl} {R:List (List Item)} (hR:R.length≤60):evE tabs cf C34 (s34 b src cs (sO cs size [] R t T pl))=some (.val (.bool (decide ((1:Int) < R.length))),s34 b src cs (sO cs size [] R t T pl)) :=
 cmp_e' (x:=.val (.int R.length)) (y:=.val (.int 1)) (by rw [lenF_e (l:=R.map (runV cs)) rfl (by rw [List.length_map]; exact up hR rfl),List.length_map]) rfl cmp_gt
theorem body34 {n b src cs size t T pl} {x y:List Item} {R:List (List Item)} (hR:R.length≤60) (lx:x.length≤60) (ly:y.length≤60) (hd:∀ a∈x,∀ b∈y,a.2≠b.2) :
  exSs tabs (cv (n + 1)) B34 (s34 b src cs (sO cs size [] (x :: y :: R) t T pl))=some (.next,s34 b src cs (sO cs size [] (mg cs x y :: R) t T pl)):=by
 have lm:(R.map (runV cs)).length≤60:=by rw [List.length_map]; exact hR
 exact x_nx (setAttr_e (k:=6) (x:=.olist (runV cs (mg cs x y) :: R.map (runV cs))) (σ':=s34 b src cs (sO cs size [] (x :: y :: R) t T pl)) (bin_e (x:=.olist [runV cs (mg cs x y)]) (y:=.olist (R.map (runV cs)))
  (list1_e (x:=.olist ((mg cs x y).map (ent cs))) (call_e (vs:=[runV cs x,runV cs y]) (σ':=s34 b src cs (sO cs size [] (x :: y :: R) t T pl)) (es2_e (x:=.val (runV cs x)) (y:=.val (runV cs y))
   (subF_e (l:=runV cs x :: runV cs y :: R.map (runV cs)) rfl (subv_l0 (up (Nat.succ_le_succ lm) rfl))) (subF_e (l:=runV cs x :: runV cs y :: R.map (runV cs)) rfl (subv_l1 (up lm rfl)))) tc29 (@c29 n cs false _ x y lx ly hd)))
  (slcF_e (l:=runV cs x :: runV cs y :: R.map (runV cs)) rfl (slcv_from (i:=2) (up (Nat.succ_le_succ (Nat.succ_le_succ lm)) rfl) (Nat.le_add_left 2 _))) (bin_addl (a:=[runV cs (mg cs x y)]) (Nat.le_trans (Nat.add_le_add_left lm _) (Nat.le_of_ble_eq_true rfl)))) rfl rfl) rfl
theorem loop34 {n b src cs size t T pl} (k:Nat):∀ (R:List (List Item)),1≤k→R.length≤k→R.length≤60→R.flatten.length≤60→Dst R.flatten→(∀ r∈R,Srt cs r) →
  ∃ R':List (List Item),whlGo (evE tabs (cv (n + 1)) C34) (exSs tabs (cv (n + 1)) B34) k (s34 b src cs (sO cs size [] R t T pl))=some (.next,s34 b src cs (sO cs size [] R' t T pl))
   ∧ R'.length≤1∧R'.flatten.Perm R.flatten∧(∀ r∈R',Srt cs r):=by
 induction k with
 | zero=>exact λR h=>absurd h (Nat.not_succ_le_zero 0)
 | succ k ih =>
  intro R _ hk hR hf hd hs
  cases R with
  | nil=>exact ⟨[],whl_f (cond34 hR) rfl,Nat.zero_le _,.refl _,hs⟩
  | cons x R=>cases R with
   | nil=>exact ⟨[x],whl_f (cond34 hR) rfl,Nat.le_refl _,.refl _,hs⟩
   | cons y R =>
    have lx:=Nat.le_trans (@mem_len (x :: y :: R) x (.head _)) hf
    have ly:=Nat.le_trans (@mem_len (x :: y :: R) y (.tail _ (.head _))) hf
    have hxy:∀ a∈x,∀ b∈y,a.2≠b.2:=(List.pairwise_cons.1 (List.pairwise_flatten.1 hd).2).1 y (.head _)
    have hp:(mg cs x y :: R).flatten.Perm (x :: y :: R).flatten:=by
     rw [List.flatten_cons,List.flatten_cons,List.flatten_cons,←List.append_assoc]; exact (mg_perm x y).append_right _
    have hk1:1≤k:=Nat.le_trans (Nat.succ_le_succ (Nat.zero_le _)) (Nat.le_of_succ_le_succ hk)
    obtain ⟨R',g,a,c,d⟩:=ih (mg cs x y :: R) hk1 (Nat.le_of_succ_le_succ hk) (Nat.le_of_succ_le hR) (by rw [hp.length_eq]; exact hf) (hd.perm hp.symm) (by
     intro r hr
     rcases List.mem_cons.1 hr with rfl | hr
     ·exact mg_srt (hs x (.head _)) (hs y (.tail _ (.head _))) hxy
     ·exact hs r (.tail _ (.tail _ hr)))
    exact ⟨R',whl_t (cond34 hR) (congrArg some (decide_eq_true (Int.ofNat_lt.2 (Nat.succ_lt_succ (Nat.zero_lt_succ _))))) (body34 (Nat.le_of_succ_le (Nat.le_of_succ_le hR)) lx ly hxy) g,a,c.trans hp,d⟩
noncomputable abbrev E34:MSs:=(.cons (.setAttr 0 7 (.ite (.truF 0 5) (.subF 0 5 0) (.list .nil))) (.cons (.setAttr 0 8 (.const (.int 0))) (.cons (.ret (.meth (.var 0) 36 .nil)) .nil)))
theorem end34 {n b src cs size t T pl} {R:List (List Item)} {m:List Item} {x:LV} (he:evE tabs (cv (n + 1)) (.ite (.truF 0 5) (.subF 0 5 0) (.list .nil)) (s34 b src cs (sO cs size [] R t T pl))=some (x,s34 b src cs (sO cs size [] R t T pl))) (hx:listOf? x=some (m.map (ent cs))) (hm:m.length≤60) :
  fin false (exSs tabs (cv (n + 1)) E34 (s34 b src cs (sO cs size [] R t T pl)))=some (.val (.bool (!m.isEmpty)),W b src cs (sO cs size [] R t x 0)):=by
 have h36:=@c36 n b src cs size [] R t x 0 m hx hm
 have e:(decide ((0:Int)≤0) && decide ((0:Int) < m.length))=!m.isEmpty:=by
  cases m with
  | nil=>rfl
  | cons a l=>exact congrArg (λb=>true && b) (decide_eq_true (Int.ofNat_lt.2 (Nat.zero_lt_succ _)))
 rw [e] at h36
 exact fin_r (x_nx (setAttr_e (k:=6) (σ':=s34 b src cs (sO cs size [] R t T pl)) (σ2:=s34 b src cs (sO cs size [] R t x pl)) he rfl rfl) (x_nx (σ':=s34 b src cs (sO cs size [] R t x 0)) rfl (x_rt (ret_e (meth_e (k:=6) (σ1:=s34 b src cs (sO cs size [] R t x 0)) (σ2:=s34 b src cs (sO cs size [] R t x 0)) rfl rfl tc36 rfl h36)))))
structure R34 (cs:List Col) (m0 m:List Item) (R':List (List Item)) (T':LV):Prop where
 srt:Srt cs m
 perm:m.Perm m0
 flat:R'.flatten=m
 len:R'.length≤1
 all:∀ r∈R',Srt cs r
 lst:listOf? T'=some (m.map (ent cs))
 val:m≠[]→T'=.val (runV cs m)
theorem tail34 {n b src cs size t T pl} {R:List (List Item)} (hR:R.length≤60) (hf:R.flatten.length≤60) (hd:Dst R.flatten) (hs:∀ r∈R,Srt cs r) :
  ∃ (m:List Item) (R':List (List Item)) (T':LV),fin false (exSs tabs (cv (n + 1)) (.cons (.whl C34 B34) E34) (s34 b src cs (sO cs size [] R t T pl)))
   = some (.val (.bool (!m.isEmpty)),W b src cs (sO cs size [] R' t T' 0))∧R34 cs R.flatten m R' T':=by
 obtain ⟨R',h,h1,h2,h3⟩:=@loop34 n b src cs size t T pl 200 R (by decide) (up hR rfl) hR hf hd hs
 have hle:=Nat.le_trans (Nat.le_of_eq h2.length_eq) hf
 rw [x_cons,x_whl,h,sq_next]
 rcases flat_one h1 with rfl | ⟨r,rfl⟩
 ·exact ⟨[],[],.olist [],end34 (iteE_f (truF_e (l:=[]) rfl (Nat.zero_le _)) rfl rfl) rfl (Nat.zero_le _),.nil,h2,rfl,Nat.zero_le _,h3,rfl,λh=>absurd rfl h⟩
 ·rw [List.flatten_cons,List.flatten_nil,List.append_nil] at h2 hle
  exact ⟨r,[r],.val (runV cs r),end34 (iteE_t (truF_e (l:=[runV cs r]) rfl (Nat.le_of_ble_eq_true rfl)) rfl (subF_e (l:=[runV cs r]) rfl rfl)) rfl hle,h3 r (.head _),h2,by rw [List.flatten_cons,List.flatten_nil,List.append_nil],Nat.le_refl 1,h3,rfl,λ_=>rfl⟩
theorem c34 {n b src cs size G R t T pl} (hR:R.length≤59) (hf:(R.flatten ++ G).length≤60) (hd:Dst (R.flatten ++ G)) (hs:∀ r∈R,Srt cs r) :
  ∃ (m:List Item) (R':List (List Item)) (T':LV),cv (n + 4) 34 [.obj 6] false (W b src cs (sO cs size G R t T pl))=some (.val (.bool (!m.isEmpty)),W b src cs (sO cs size [] R' t T' 0))
   ∧ R34 cs (R.flatten ++ G) m R' T':=by
 have hb:b34=(.cons (.ite (.truF 0 4) (.cons (.expr (.meth (.var 0) 33 .nil)) .nil) .nil) (.cons (.whl C34 B34) E34)):=rfl
 have hfl:R.flatten.length + G.length≤60:=by rw [←List.length_append]; exact hf
 rw [cv34,hb]
 cases G with
 | nil =>
  rw [List.append_nil] at hf hd ⊢
  obtain ⟨m,R',T',h,rest⟩:=@tail34 (n + 2) b src cs size t T pl R (up hR rfl) hf hd hs
  exact ⟨m,R',T',(congrArg (fin false) (x_nx (ite_n (truF_e (l:=[]) rfl (Nat.zero_le _)) rfl) rfl)).trans h,rest⟩
 | cons g G =>
  have hl:(g :: G).length≤60:=Nat.le_trans (Nat.le_add_left _ _) hfl
  obtain ⟨r,h33,hr1,hr2⟩:=@c33 n b src cs size (g :: G) R t T pl hl (List.pairwise_append.1 hd).2.1 (up hR rfl)
  have hp:(R ++ [r]).flatten.Perm (R.flatten ++ (g :: G)):=by rw [List.flatten_append,List.flatten_cons,List.flatten_nil,List.append_nil]; exact hr2.append_left _
  obtain ⟨m,R',T',h,q⟩:=@tail34 (n + 2) b src cs size t T pl (R ++ [r]) (app_l1 hR) (by rw [hp.length_eq]; exact hf) (hd.perm hp.symm) (by
   intro x hx
   rcases List.mem_append.1 hx with hx | hx
   ·exact hs x hx
   ·rw [List.mem_singleton.1 hx]; exact hr1)
  exact ⟨m,R',T',(congrArg (fin false) (x_nx ((ite_t (truF_e (l:=(g :: G).map (ent cs)) rfl (by rw [List.length_map]; exact up hl rfl)) rfl).trans (x_nx (expr_e (meth_e (k:=6) (σ1:=s34 b src cs (sO cs size (g :: G) R t T pl)) (σ2:=s34 b src cs (sO cs size (g :: G) R t T pl)) rfl rfl tc33 rfl h33)) rfl)) rfl)).trans h,
   { q with perm:=q.perm.trans hp }⟩
theorem menu_veq:∀ v∈menu,veq v v=some true∧(∀ n,vshal n v=true):=by
 apply forall_menu
 refine ⟨?_,?_,?_,?_,?_,?_,?_,?_,?_,?_,?_,?_,?_⟩ <;> exact ⟨rfl,λn=>by cases n <;> rfl⟩
theorem veqs_refl:∀ {l:List Val},(∀ v∈l,veq v v=some true)→veqs l l=some true
 | [],_=>by simp
 | v :: l,h=>by
  have h1:=veqs_refl (l:=l) (λv hv=>h v (by simp [hv]))
  simp [h v (by simp),h1]
theorem ne_self {l:List Val} (h:∀ v∈l,veq v v=some true∧(∀ n,vshal n v=true)):cmpop .NotEq (.list l) (.list l)=some false:=by
 have h1:vshal 20 (.list l)=true:=by
  rw [vs7,List.all_eq_true]
  exact λv hv=>(h v hv).2 19
 have h2:veq (.list l) (.list l)=some true:=by show veqs _ _=_; exact veqs_refl λv hv=>(h v hv).1
 simp [cmp_gt,cmp_lt,cmp_le,cmp_ge,cmp_ei,cmp_ni,cmp_e,cmp_n,h1,h2]
theorem ne_bytes {l:List UInt8}:cmpop .NotEq (.bytes l) (.bytes l)=some false:=by simp [cmp_gt,cmp_lt,cmp_le,cmp_ge,cmp_ei,cmp_ni,cmp_e,cmp_n]
theorem ne_row {r} (h:Row r):cmpop .NotEq (.list r) (.list r)=some false:=ne_self λv hv=>menu_veq v (h.2 v hv)
theorem ne_row1 {r} (h:Row r):cmpop .NotEq (.list (r ++ [.none])) (.list (r ++ [.none]))=some false:=ne_self λv hv=>by
 rcases List.mem_append.1 hv with hv | hv
 ·exact menu_veq v (h.2 v hv)
 ·simp at hv; subst hv; exact menu_veq .none (by simp [menu])
theorem rngFrom_eq:∀ (n:Nat) (a:Int),rngFrom a n=(List.range n).map λ(k:Nat)=>.int (a + k)
 | 0,_=>rfl
 | n + 1,a=>by
  rw [rngFrom,rngFrom_eq n,List.range_succ_eq_map]
  simp only [List.map_cons,List.map_map]
  congr 1
  ·simp
  ·apply List.map_congr_left
   intro k _
   simp only [Function.comp,Nat.succ_eq_add_one]
   congr 1
   omega
theorem range_n {n:Nat} (h:n≤1000):range? [.int (n:Nat)]=some ((List.range n).map λ(k:Nat)=>Val.int k):=by
 have m:mid (n:Int)=true:=by simp [mid_eq]; omega
 simp only [qr1,qr2,qr3,m,if_true,Int.toNat_natCast,rngFrom_eq,Int.zero_add]
theorem range_row {r:List Val}:((List.range (r.length + 1)).map λk=>r[k]?.getD .none)=r ++ [.none]:=by
 apply List.ext_getElem?
 intro i
 rw [List.getElem?_map]
 by_cases h:i < r.length + 1
 ·rw [List.getElem?_range h,Option.map_some]
  by_cases h2:i < r.length
  ·rw [List.getElem?_append_left h2,List.getElem?_eq_getElem h2]; rfl
  ·have:i=r.length:=by omega
   subst this
   simp
 ·rw [List.getElem?_eq_none (by simp; omega),List.getElem?_eq_none (by simp; omega)]; rfl
noncomputable abbrev B49:MSs:=(.cons (.ite (.or (.not (.var 4)) (.or (.cmp .NotEq (.meth (.var 0) 38 .nil) (.var 5)) (.cmp .NotEq (.meth (.var 0) 37 .nil) (.call 18 (.cons (.var 5) .nil))))) (.cons (.ret (.const (.bool false))) .nil) .nil) (.cons (.ite (.cmp .NotEq (.comp (.meth (.var 0) 39 (.cons (.var 6) .nil)) [6] (.rng (.cons (.bin .Add (.bi .len (.cons (.var 5) .nil)) (.const (.int 1))) .nil)) (.const (.bool true))) (.bin .Add (.var 5) (.list (.cons (.const .none) .nil)))) (.cons (.ret (.const (.bool false))) .nil) .nil) (.cons (.assign 4 (.meth (.var 0) 35 .nil)) .nil)))
noncomputable abbrev u49 (b:Base) (src:List Val) (cs:List Col) (S:SObj) (v1 v2 v3 v4 v5 v6:Option LV):St:=⟨[some (.val (.obj 6)),v1,v2,v3,v4,v5,v6],W b src cs S,false⟩
theorem m49 {n b src cs S v1 v2 v3 v4 v5 v6 j es vs r S'} (hc:tabs.cls j=some 1) (hes:evEs tabs (cv n) es (u49 b src cs (.inst 1 S) v1 v2 v3 v4 v5 v6)=some (vs,u49 b src cs (.inst 1 S) v1 v2 v3 v4 v5 v6)) (h:cv n j (.obj 6 :: vs) false (W b src cs (.inst 1 S))=some (r,W b src cs S')) :
  evE tabs (cv n) (.meth (.var 0) j es) (u49 b src cs (.inst 1 S) v1 v2 v3 v4 v5 v6)=some (r,u49 b src cs S' v1 v2 v3 v4 v5 v6) :=
 meth_e (k:=6) (σ1:=u49 b src cs (.inst 1 S) v1 v2 v3 v4 v5 v6) (σ2:=u49 b src cs (.inst 1 S) v1 v2 v3 v4 v5 v6) rfl rfl hc hes h
theorem nx35 {pl:Nat} {m:Nat}:(decide ((0:Int)≤(pl:Int) + 1) && decide ((pl:Int) + 1 < m))=decide (pl + 1 < m):=by
 rw [show decide ((0:Int)≤(pl:Int) + 1)=true from decide_eq_true (Int.natCast_nonneg (pl + 1)),Bool.true_and]
 exact dni_lt (a:=pl + 1)
theorem turn49 {n b src cs size R t v1 v2 v3 v5 v6} {m:List Item} {pl:Nat} {p:Item} (hm:m.length≤60) (hp:m[pl]?=some p) (hr:Row p.1) :
  ∃ w5 w6,stp [5] (exSs tabs (cv (n + 8)) B49) (.list p.1) (u49 b src cs (sO cs size [] R t (.val (runV cs m)) pl) v1 v2 v3 (some (.val (.bool true))) v5 v6)
   = some (.next,u49 b src cs (sO cs size [] R t (.val (runV cs m)) ((pl + 1:Nat):Int)) v1 v2 v3 (some (.val (.bool (decide (pl + 1 < m.length))))) w5 w6):=by
 have h35:=@c35 (n + 6) b src cs size [] R t (.val (runV cs m)) pl m rfl hm
 rw [nx35] at h35
 have h3:=hr.1.2
 obtain ⟨y,hy⟩:=@compGo_mp Nat (compStep [6] (evE tabs (cv (n + 8)) (.const (.bool true))) (evE tabs (cv (n + 8)) (.meth (.var 0) 39 (.cons (.var 6) .nil))))
  (λy=>u49 b src cs (sO cs size [] R t (.val (runV cs m)) pl) v1 v2 v3 (some (.val (.bool true))) (some (.val (.list p.1))) y) (λk=>.int (k:Nat)) (λk=>p.1[k]?.getD .none) (List.range (p.1.length + 1)) (by
  intro k hk y
  exact ⟨some (.val (.int k)),(cstep_true.trans (congrArg (λo=>kcs o _) bind1)).trans (kcs_some (z:=.val (p.1[k]?.getD .none)) (m49 tc39 rfl (@c39 n b src cs size [] R t m pl p hm hp hr k (Nat.le_of_lt_succ (List.mem_range.1 hk)))))⟩) v6
 rw [range_row] at hy
 have hrg:range? [.int ((p.1.length:Int) + 1)]=some ((List.range (p.1.length + 1)).map λ(k:Nat)=>Val.int k):=range_n (n:=p.1.length + 1) (up (Nat.succ_le_succ h3) rfl)
 have lr:((List.range (p.1.length + 1)).map λ(k:Nat)=>Val.int k).length≤4:=by rw [List.length_map,List.length_range]; exact Nat.succ_le_succ h3
 generalize ((List.range (p.1.length + 1)).map λ(k:Nat)=>Val.int k)=ks at hrg lr hy
 have e1:exS tabs (cv (n + 8)) (.ite (.or (.not (.var 4)) (.or (.cmp .NotEq (.meth (.var 0) 38 .nil) (.var 5)) (.cmp .NotEq (.meth (.var 0) 37 .nil) (.call 18 (.cons (.var 5) .nil))))) (.cons (.ret (.const (.bool false))) .nil) .nil) (u49 b src cs (sO cs size [] R t (.val (runV cs m)) pl) v1 v2 v3 (some (.val (.bool true))) (some (.val (.list p.1))) v6)
   = some (.next,u49 b src cs (sO cs size [] R t (.val (runV cs m)) pl) v1 v2 v3 (some (.val (.bool true))) (some (.val (.list p.1))) v6) :=
  ite_n (or_f (x:=.val (.bool false)) (σ1:=u49 b src cs (sO cs size [] R t (.val (runV cs m)) pl) v1 v2 v3 (some (.val (.bool true))) (some (.val (.list p.1))) v6) rfl rfl (or_f (cmp_e' (x:=.val (.list p.1)) (y:=.val (.list p.1)) (m49 tc38 rfl (@c38 n b src cs size [] R t m pl p hm hp hr)) rfl (ne_row hr)) rfl
   (cmp_e' (x:=.val (.bytes (enc p.1))) (y:=.val (.bytes (enc p.1))) (m49 tc37 rfl (@c37 (n + 7) b src cs size [] R t m pl p hm hp)) (call_e (vs:=[.list p.1]) (σ':=u49 b src cs (sO cs size [] R t (.val (runV cs m)) pl) v1 v2 v3 (some (.val (.bool true))) (some (.val (.list p.1))) v6) rfl tc18 (@c18 (n + 2) false _ p.1 hr)) ne_bytes))) rfl
 have ecomp:evE tabs (cv (n + 8)) (.comp (.meth (.var 0) 39 (.cons (.var 6) .nil)) [6] (.rng (.cons (.bin .Add (.bi .len (.cons (.var 5) .nil)) (.const (.int 1))) .nil)) (.const (.bool true))) (u49 b src cs (sO cs size [] R t (.val (runV cs m)) pl) v1 v2 v3 (some (.val (.bool true))) (some (.val (.list p.1))) v6)
   = some (.olist (p.1 ++ [.none]),u49 b src cs (sO cs size [] R t (.val (runV cs m)) pl) v1 v2 v3 (some (.val (.bool true))) (some (.val (.list p.1))) none) :=
  compR_e (vs:=[.int ((p.1.length:Int) + 1)]) (σ1:=u49 b src cs (sO cs size [] R t (.val (runV cs m)) pl) v1 v2 v3 (some (.val (.bool true))) (some (.val (.list p.1))) v6) (es1_e (x:=.val (.int ((p.1.length:Int) + 1))) (bin_e (x:=.val (.int p.1.length)) (y:=.val (.int 1)) (bi1_e (x:=.val (.list p.1)) rfl (len_li (up h3 rfl))) rfl bin_add)) hrg (up lr rfl) hy
 have e2:exS tabs (cv (n + 8)) (.ite (.cmp .NotEq (.comp (.meth (.var 0) 39 (.cons (.var 6) .nil)) [6] (.rng (.cons (.bin .Add (.bi .len (.cons (.var 5) .nil)) (.const (.int 1))) .nil)) (.const (.bool true))) (.bin .Add (.var 5) (.list (.cons (.const .none) .nil)))) (.cons (.ret (.const (.bool false))) .nil) .nil) (u49 b src cs (sO cs size [] R t (.val (runV cs m)) pl) v1 v2 v3 (some (.val (.bool true))) (some (.val (.list p.1))) v6)
   = some (.next,u49 b src cs (sO cs size [] R t (.val (runV cs m)) pl) v1 v2 v3 (some (.val (.bool true))) (some (.val (.list p.1))) none) :=
  ite_n (cmp_e' (x:=.olist (p.1 ++ [Val.none])) (y:=.olist (p.1 ++ [Val.none])) ecomp (bin_e (x:=.val (.list p.1)) (y:=.olist [Val.none]) rfl (list1_e (x:=.val .none) rfl) (bin_addl (a:=p.1) (b:=[Val.none]) (up (Nat.succ_le_succ h3) rfl))) (ne_row1 hr)) rfl
 rw [stp1]
 exact ⟨_,_,x_nx e1 (x_nx e2 (x_nx (asg_e (x:=.val (.bool (decide (pl + 1 < m.length)))) (m49 tc35 rfl h35)) rfl))⟩
theorem loop49 {n b src cs size R t v1 v2 v3} {m:List Item} (hm:m.length≤60) (hr:∀ p∈m,Row p.1) (rest:List Item):∀ (don:List Item) (v5 v6:Option LV),m=don ++ rest →
  ∃ w5 w6,forGo (stp [5] (exSs tabs (cv (n + 8)) B49)) (rowsV (rest.map (·.1))) (u49 b src cs (sO cs size [] R t (.val (runV cs m)) (don.length:Nat)) v1 v2 v3 (some (.val (.bool (!rest.isEmpty)))) v5 v6)
   = some (.next,u49 b src cs (sO cs size [] R t (.val (runV cs m)) (m.length:Nat)) v1 v2 v3 (some (.val (.bool false))) w5 w6):=by
 induction rest with
 | nil=>exact λdon v5 v6 h=>⟨v5,v6,by rw [h,List.append_nil]; rfl⟩
 | cons p rest ih =>
  intro don v5 v6 h
  have hp:m[don.length]?=some p:=by rw [h,List.getElem?_append_right (Nat.le_refl _),Nat.sub_self]; rfl
  obtain ⟨a5,a6,h1⟩:=@turn49 n b src cs size R t v1 v2 v3 v5 v6 m don.length p hm hp (hr p (List.mem_of_getElem? hp))
  obtain ⟨w5,w6,h2⟩:=ih (don ++ [p]) a5 a6 (h.trans (List.append_cons ..))
  have e:decide (don.length + 1 < m.length)=!rest.isEmpty:=by
   rw [h,List.length_append,List.length_cons]
   cases rest with
   | nil=>exact decide_eq_false (Nat.lt_irrefl _)
   | cons a l=>exact decide_eq_true (Nat.add_lt_add_left (Nat.succ_lt_succ (Nat.zero_lt_succ _)) _)
  rw [e] at h1
  rw [List.length_append] at h2
  exact ⟨w5,w6,fg_c h1 h2⟩
theorem Grw.dst {l} (h:Grw l):Dst l:=h.imp Nat.ne_of_lt
noncomputable abbrev s49 (b:Base) (src:List Val) (cs:List Col) (S:SObj) (RA:List Val) (x3 x4 x5 x6:Option LV):St:=⟨[some (.val (.obj 6)),some (.val (.list RA)),some (.val (.list (cs.map colV))),x3,x4,x5,x6],W b src cs S,false⟩
theorem fin49 {n b src cs S RA x3 x5 x6} (h36:cv (n + 8) 36 [.obj 6] false (W b src cs (.inst 1 S))=some (.val (.bool false),W b src cs (.inst 1 S))) :
  fin false (exSs tabs (cv (n + 8)) (.cons (.ret (.and (.not (.var 4)) (.not (.meth (.var 0) 36 .nil)))) .nil) (s49 b src cs (.inst 1 S) RA x3 (some (.val (.bool false))) x5 x6))=some (.val (.bool true),W b src cs (.inst 1 S)):=by
 have e:evE tabs (cv (n + 8)) (.meth (.var 0) 36 .nil) (s49 b src cs (.inst 1 S) RA x3 (some (.val (.bool false))) x5 x6)=some (.val (.bool false),s49 b src cs (.inst 1 S) RA x3 (some (.val (.bool false))) x5 x6) :=
  meth_e (k:=6) (σ1:=s49 b src cs (.inst 1 S) RA x3 (some (.val (.bool false))) x5 x6) (σ2:=s49 b src cs (.inst 1 S) RA x3 (some (.val (.bool false))) x5 x6) rfl rfl tc36 rfl h36
 exact fin_r (x_rt (ret_e (and_t (x:=.val (.bool true)) (σ1:=s49 b src cs (.inst 1 S) RA x3 (some (.val (.bool false))) x5 x6) rfl rfl (by rw [e_not,e]; rfl))))
theorem c49 {n b src cs size G R t T pl} {all:List Item} (hc:okC cs) (hrow:∀ q∈all,RowC cs q.1) (hg:Grw all) (hl:all.length≤60) (hp:(R.flatten ++ G).Perm all) (hs:∀ r∈R,Srt cs r) (hR:R.length≤59) :
  ∃ R' T' pl',cv (n + 9) 49 [.obj 6,.list (rowsV (all.map (·.1))),.list (cs.map colV)] false (W b src cs (sO cs size G R t T pl))=some (.val (.bool true),W b src cs (sO cs size [] R' t T' pl'))
   ∧ R'.flatten.Perm all∧R'.length≤1∧(∀ r∈R',Srt cs r):=by
 obtain ⟨m,R',T',h34,q⟩:=@c34 (n + 4) b src cs size G R t T pl hR (by rw [hp.length_eq]; exact hl) (hg.dst.perm hp.symm) hs
 have hpa:m.Perm all:=q.perm.trans hp
 have hml:m.length≤60:=by rw [hpa.length_eq]; exact hl
 have h46:=@c46 (n + 5) cs false (W b src cs (sO cs size G R t T pl)) (all.map (·.1)) hc (by
  intro q hq
  obtain ⟨p,hp,rfl⟩:=List.mem_map.1 hq
  exact hrow p hp) (by rw [List.length_map]; exact hl)
 rw [←srt_law hc hrow hg q.srt hpa] at h46
 have hpf:R'.flatten.Perm all:=by rw [q.flat]; exact hpa
 have hb:b49=.cons (.assign 3 (.call 46 (.cons (.var 1) (.cons (.var 2) .nil)))) (.cons (.assign 4 (.meth (.var 0) 34 .nil)) (.cons (.for_ [5] (.ex (.var 3)) B49) (.cons (.ret (.and (.not (.var 4)) (.not (.meth (.var 0) 36 .nil)))) .nil))):=rfl
 have pre:∀ {RA σ'},cv (n + 8) 46 [.list RA,.list (cs.map colV)] false (W b src cs (sO cs size G R t T pl))=some (.val (.list (rowsV (m.map (·.1)))),W b src cs (sO cs size G R t T pl)) →
   forGo (stp [5] (exSs tabs (cv (n + 8)) B49)) (rowsV (m.map (·.1))) (s49 b src cs (sO cs size [] R' t T' 0) RA (some (.val (.list (rowsV (m.map (·.1)))))) (some (.val (.bool (!m.isEmpty)))) none none)=some (.next,σ') →
   exSs tabs (cv (n + 8)) (.cons (.assign 3 (.call 46 (.cons (.var 1) (.cons (.var 2) .nil)))) (.cons (.assign 4 (.meth (.var 0) 34 .nil)) (.cons (.for_ [5] (.ex (.var 3)) B49) (.cons (.ret (.and (.not (.var 4)) (.not (.meth (.var 0) 36 .nil)))) .nil)))) (s49 b src cs (sO cs size G R t T pl) RA none none none none)
    = exSs tabs (cv (n + 8)) (.cons (.ret (.and (.not (.var 4)) (.not (.meth (.var 0) 36 .nil)))) .nil) σ':=λ {RA σ'} h46 h =>
  x_nx (asg_e (x:=.val (.list (rowsV (m.map (·.1))))) (call_e (vs:=[.list RA,.list (cs.map colV)]) (σ':=s49 b src cs (sO cs size G R t T pl) RA none none none none) rfl tc46 h46))
   (x_nx (σ':=s49 b src cs (sO cs size [] R' t T' 0) RA (some (.val (.list (rowsV (m.map (·.1)))))) (some (.val (.bool (!m.isEmpty)))) none none) (asg_e (x:=.val (.bool (!m.isEmpty))) (σ':=s49 b src cs (sO cs size [] R' t T' 0) RA (some (.val (.list (rowsV (m.map (·.1)))))) none none none)
    (meth_e (k:=6) (σ1:=s49 b src cs (sO cs size G R t T pl) RA (some (.val (.list (rowsV (m.map (·.1)))))) none none none) (σ2:=s49 b src cs (sO cs size G R t T pl) RA (some (.val (.list (rowsV (m.map (·.1)))))) none none none) rfl rfl tc34 rfl h34))
    (x_nx (b:=.cons (.ret (.and (.not (.var 4)) (.not (.meth (.var 0) 36 .nil)))) .nil) (for_e (tg:=[5]) (im:=.ex (.var 3)) (b:=B49) (σ':=s49 b src cs (sO cs size [] R' t T' 0) RA (some (.val (.list (rowsV (m.map (·.1)))))) (some (.val (.bool (!m.isEmpty)))) none none) rfl h) rfl))
 rw [cv49,hb]
 cases m with
 | nil =>
  have h36:=@c36 (n + 7) b src cs size [] R' t T' 0 [] q.lst (Nat.zero_le _)
  exact ⟨R',T',0,(congrArg (fin false) (pre h46 rfl)).trans (fin49 h36),hpf,q.len,q.all⟩
 | cons x m =>
  obtain ⟨w5,w6,hlp⟩:=@loop49 n b src cs size R' t (some (.val (.list (rowsV (all.map (·.1)))))) (some (.val (.list (cs.map colV)))) (some (.val (.list (rowsV ((x :: m).map (·.1)))))) (x :: m) hml (λp hp=>(hrow p (hpa.mem_iff.1 hp)).1) (x :: m) [] none none rfl
  have h36:=@c36 (n + 7) b src cs size [] R' t (.val (runV cs (x :: m))) ((x :: m).length:Nat) (x :: m) rfl hml
  rw [decide_eq_false (Int.lt_irrefl _),Bool.and_false] at h36
  rw [←q.val (List.cons_ne_nil _ _)] at hlp h36
  exact ⟨R',T',_,(congrArg (fin false) (pre h46 hlp)).trans (fin49 h36),hpf,q.len,q.all⟩
theorem compGo_mb {α β:Type} {step:Val→St→Option (List Val×St)} {mk:β→St} {f:α→Val} {g:α→Val}:∀ {xs:List α},(∀ x∈xs,∀ y,∃ y',step (f x) (mk y)=some ([g x],mk y')) →
  ∀ y,∃ y',compGo step (xs.map f) (mk y)=some (xs.map g,mk y')
 | [],_,y=>⟨y,rfl⟩
 | x :: xs,h,y=>by
  obtain ⟨y1,h1⟩:=h x (by simp) y
  obtain ⟨y2,h2⟩:=compGo_mb (xs:=xs) (λx hx=>h x (by simp [hx])) y1
  exact ⟨y2,by simp only [List.map_cons,compGo,h1,h2,List.singleton_append]⟩
noncomputable def recs (l:List Item):List Val:=l.map λp=>.bytes (enc p.1)
noncomputable def encs (l:List (List Val)):List Val:=l.map λr=>.bytes (enc r)
theorem recs_eq {l:List Item}:recs l=encs (l.map (·.1)):=by simp [recs,encs]
theorem in1 {cf cs ro st v0 v1 v2 v3 v4 v5 v9 v10 v11 v12 v13 v14} {l:List Item}:∃ a b c,compGo (compStep [6,7,8] (evE tabs cf (.const (.bool true))) (evE tabs cf (.var 8))) (l.map (ent cs)) ⟨[v0,v1,v2,v3,v4,v5,none,none,none,v9,v10,v11,v12,v13,v14],st,ro⟩
  = some (recs l,⟨[v0,v1,v2,v3,v4,v5,a,b,c,v9,v10,v11,v12,v13,v14],st,ro⟩):=by
 obtain ⟨⟨a,b,c⟩,h⟩:=@compGo_mb Item (Option LV×Option LV×Option LV) (compStep [6,7,8] (evE tabs cf (.const (.bool true))) (evE tabs cf (.var 8)))
  (λy=>⟨[v0,v1,v2,v3,v4,v5,y.1,y.2.1,y.2.2,v9,v10,v11,v12,v13,v14],st,ro⟩) (ent cs) (λp=>.bytes (enc p.1)) l (by
  intro p _ y
  refine ⟨(some (.val (.bytes (key cs p.1))),some (.val (.int p.2)),some (.val (.bytes (enc p.1)))),?_⟩
  rw [cstep_true]
  exact kcs_some (z:=.val (.bytes (enc p.1))) (by simp (implicitDefEqProofs:=false))) (none,none,none)
 exact ⟨a,b,c,h⟩
theorem in2 {cf cs ro st v0 v1 v2 v3 v4 v5 v6 v7 v8 v9 v10 v14} {l:List Item}:∃ a b c,compGo (compStep [11,12,13] (evE tabs cf (.const (.bool true))) (evE tabs cf (.var 13))) (l.map (ent cs)) ⟨[v0,v1,v2,v3,v4,v5,v6,v7,v8,v9,v10,none,none,none,v14],st,ro⟩
  = some (recs l,⟨[v0,v1,v2,v3,v4,v5,v6,v7,v8,v9,v10,a,b,c,v14],st,ro⟩):=by
 obtain ⟨⟨a,b,c⟩,h⟩:=@compGo_mb Item (Option LV×Option LV×Option LV) (compStep [11,12,13] (evE tabs cf (.const (.bool true))) (evE tabs cf (.var 13)))
  (λy=>⟨[v0,v1,v2,v3,v4,v5,v6,v7,v8,v9,v10,y.1,y.2.1,y.2.2,v14],st,ro⟩) (ent cs) (λp=>.bytes (enc p.1)) l (by
  intro p _ y
  refine ⟨(some (.val (.bytes (key cs p.1))),some (.val (.int p.2)),some (.val (.bytes (enc p.1)))),?_⟩
  rw [cstep_true]
  exact kcs_some (z:=.val (.bytes (enc p.1))) (by simp (implicitDefEqProofs:=false))) (none,none,none)
 exact ⟨a,b,c,h⟩
theorem out1 {cf cs ro st v0 v1 v2 v3 v4 v9 v10 v11 v12 v13 v14} {R:List (List Item)} (hl:∀ r∈R,r.length≤60):∃ y,compGo (compStep [5] (evE tabs cf (.const (.bool true))) (evE tabs cf (.comp (.var 8) [6,7,8] (.ex (.var 5)) (.const (.bool true))))) (R.map (runV cs)) ⟨[v0,v1,v2,v3,v4,none,none,none,none,v9,v10,v11,v12,v13,v14],st,ro⟩
  = some (R.map λr=>.list (recs r),⟨[v0,v1,v2,v3,v4,y,none,none,none,v9,v10,v11,v12,v13,v14],st,ro⟩):=by
 exact @compGo_mb (List Item) (Option LV) (compStep [5] (evE tabs cf (.const (.bool true))) (evE tabs cf (.comp (.var 8) [6,7,8] (.ex (.var 5)) (.const (.bool true)))))
  (λy=>⟨[v0,v1,v2,v3,v4,y,none,none,none,v9,v10,v11,v12,v13,v14],st,ro⟩) (runV cs) (λr=>.list (recs r)) R (by
  intro r hr y
  obtain ⟨a,b,c,h⟩:=@in1 cf cs ro st v0 v1 v2 v3 v4 (some (.val (runV cs r))) v9 v10 v11 v12 v13 v14 r
  have ok:okLen (r.map (ent cs)).length=true:=okLen_t (by have:=hl r hr; simp; omega)
  have hit:items? (runV cs r)=some (r.map (ent cs)):=rfl
  refine ⟨some (.val (runV cs r)),?_⟩
  rw [cstep_true,bind1]
  refine kcs_some (z:=.olist (recs r)) ?_
  generalize r.map (ent cs)=L at *
  simp [-Int.ofNat_lt,-Int.ofNat_le,hit,ok,h,unset]) none
theorem in3 {n cs ro st v0 v1 v2 v3 v4 v5 v6 v7 v8 v9 v11 v12 v13 v14} {l:List (List Val)} (hr:∀ r∈l,RowC cs r):∃ a,compGo (compStep [10] (evE tabs (cv (n + 6)) (.const (.bool true))) (evE tabs (cv (n + 6)) (.call 18 (.cons (.var 10) .nil)))) (rowsV l) ⟨[v0,v1,v2,v3,v4,v5,v6,v7,v8,v9,none,v11,v12,v13,v14],st,ro⟩
  = some (encs l,⟨[v0,v1,v2,v3,v4,v5,v6,v7,v8,v9,a,v11,v12,v13,v14],st,ro⟩) :=
 @compGo_mb (List Val) (Option LV) (compStep [10] (evE tabs (cv (n + 6)) (.const (.bool true))) (evE tabs (cv (n + 6)) (.call 18 (.cons (.var 10) .nil))))
  (λy=>⟨[v0,v1,v2,v3,v4,v5,v6,v7,v8,v9,y,v11,v12,v13,v14],st,ro⟩) .list (λr=>.bytes (enc r)) l (by
  intro r h y
  have h18:=λst=>@c18 n ro st r (hr r h).1
  refine ⟨some (.val (.list r)),?_⟩
  rw [cstep_true,bind1]
  exact kcs_some (z:=.val (.bytes (enc r))) (by simp [-Int.ofNat_lt,-Int.ofNat_le,h18])) none
theorem in4 {n cs ro st v0 v1 v2 v3 v4 v5 v6 v7 v8 v9 v10 v11 v12 v13} {l:List (List Val)} (hr:∀ r∈l,RowC cs r):∃ a,compGo (compStep [14] (evE tabs (cv (n + 6)) (.const (.bool true))) (evE tabs (cv (n + 6)) (.call 18 (.cons (.var 14) .nil)))) (rowsV l) ⟨[v0,v1,v2,v3,v4,v5,v6,v7,v8,v9,v10,v11,v12,v13,none],st,ro⟩
  = some (encs l,⟨[v0,v1,v2,v3,v4,v5,v6,v7,v8,v9,v10,v11,v12,v13,a],st,ro⟩) :=
 @compGo_mb (List Val) (Option LV) (compStep [14] (evE tabs (cv (n + 6)) (.const (.bool true))) (evE tabs (cv (n + 6)) (.call 18 (.cons (.var 14) .nil))))
  (λy=>⟨[v0,v1,v2,v3,v4,v5,v6,v7,v8,v9,v10,v11,v12,v13,y],st,ro⟩) .list (λr=>.bytes (enc r)) l (by
  intro r h y
  have h18:=λst=>@c18 n ro st r (hr r h).1
  refine ⟨some (.val (.list r)),?_⟩
  rw [cstep_true,bind1]
  exact kcs_some (z:=.val (.bytes (enc r))) (by simp [-Int.ofNat_lt,-Int.ofNat_le,h18])) none
theorem sortR_mem {cs}:∀ (rows acc:List (List Val)),∀ r∈rows.foldl (insR cs) acc,r∈acc∨r∈rows
 | [],acc,r,h=>.inl h
 | p :: rows,acc,r,h=>by
  rcases sortR_mem rows (insR cs acc p) r h with h | h
  ·simp only [insR,List.mem_append,List.mem_singleton] at h
   rcases h with (h | rfl) | h
   ·exact .inl (List.mem_of_mem_take h)
   ·exact .inr (by simp)
   ·exact .inl (List.mem_of_mem_drop h)
  ·exact .inr (by simp [h])
theorem sortR_len {cs}:∀ (rows acc:List (List Val)),(rows.foldl (insR cs) acc).length=acc.length + rows.length
 | [],acc=>rfl
 | p :: rows,acc=>by rw [List.foldl_cons,sortR_len rows,insR_len,List.length_cons]; omega
theorem out2 {n cs ro st v0 v1 v2 v4 v5 v6 v7 v8 v11 v12 v13 v14} {Q:List (List (List Val))} (hc:okC cs) (hl:∀ q∈Q,q.length≤60) (hr:∀ q∈Q,∀ r∈q,RowC cs r):∃ y,compGo (compStep [9] (evE tabs (cv (n + 6)) (.const (.bool true))) (evE tabs (cv (n + 6)) (.comp (.call 18 (.cons (.var 10) .nil)) [10] (.ex (.call 46 (.cons (.var 9) (.cons (.var 3) .nil)))) (.const (.bool true)))))
  (Q.map λq=>.list (rowsV q)) ⟨[v0,v1,v2,some (.val (.list (cs.map colV))),v4,v5,v6,v7,v8,none,none,v11,v12,v13,v14],st,ro⟩
  = some (Q.map λq=>.list (encs (sortR cs q)),⟨[v0,v1,v2,some (.val (.list (cs.map colV))),v4,v5,v6,v7,v8,y,none,v11,v12,v13,v14],st,ro⟩) :=
 @compGo_mb (List (List Val)) (Option LV) (compStep [9] (evE tabs (cv (n + 6)) (.const (.bool true))) (evE tabs (cv (n + 6)) (.comp (.call 18 (.cons (.var 10) .nil)) [10] (.ex (.call 46 (.cons (.var 9) (.cons (.var 3) .nil)))) (.const (.bool true)))))
  (λy=>⟨[v0,v1,v2,some (.val (.list (cs.map colV))),v4,v5,v6,v7,v8,y,none,v11,v12,v13,v14],st,ro⟩) (λq=>.list (rowsV q)) (λq=>.list (encs (sortR cs q))) Q (by
  intro q hq y
  have h46:=λst=>@c46 (n + 3) cs ro st q hc (hr q hq) (hl q hq)
  obtain ⟨a,h⟩:=@in3 n cs ro st v0 v1 v2 (some (.val (.list (cs.map colV)))) v4 v5 v6 v7 v8 (some (.val (.list (rowsV q)))) v11 v12 v13 v14 (sortR cs q) (by
   intro r hr'
   rcases sortR_mem q [] r hr' with h | h
   ·simp at h
   ·exact hr q hq r h)
  have ok:okLen (rowsV (sortR cs q)).length=true:=okLen_t (by
   have:=hl q hq
   rw [rowsV,List.length_map,sortR,sortR_len]; simp; omega)
  have hit:∀ l,items? (.list l)=some l:=λl=>rfl
  refine ⟨some (.val (.list (rowsV q))),?_⟩
  rw [cstep_true,bind1]
  refine kcs_some (z:=.olist (encs (sortR cs q))) ?_
  generalize rowsV (sortR cs q)=L at *
  generalize rowsV q=L' at *
  simp [-Int.ofNat_lt,-Int.ofNat_le,h46,hit,ok,h,unset]) none
theorem enc_veqs:∀ l:List (List Val),veqs (encs l) (encs l)=some true
 | []=>by simp [encs]
 | r :: l=>by
  have h:=enc_veqs l
  simp only [encs] at h
  simp [encs,h]
theorem enc2_veqs:∀ Q:List (List (List Val)),veqs (Q.map λq=>.list (encs q)) (Q.map λq=>.list (encs q))=some true
 | []=>by simp
 | q :: Q=>by
  have h:=enc2_veqs Q
  have h1:=enc_veqs q
  simp [h,h1]
theorem enc_shal {n} (l:List (List Val)):(encs l).all (vshal n)=true:=by
 simp only [List.all_eq_true,encs]
 intro v hv
 obtain ⟨r,_,rfl⟩:=List.mem_map.1 hv
 cases n <;> simp
theorem ne_enc2 {Q:List (List (List Val))}:cmpop .NotEq (.list (Q.map λq=>.list (encs q))) (.list (Q.map λq=>.list (encs q)))=some false:=by
 have h1:vshal 20 (.list (Q.map λq=>.list (encs q)))=true:=by
  rw [vs7,List.all_eq_true]
  intro v hv
  obtain ⟨r,_,rfl⟩:=List.mem_map.1 hv
  show (encs r).all (vshal 18)=true
  exact enc_shal r
 have h2:veq (.list (Q.map λq=>.list (encs q))) (.list (Q.map λq=>.list (encs q)))=some true:=by show veqs _ _=_; exact enc2_veqs Q
 simp [cmp_gt,cmp_lt,cmp_le,cmp_ge,cmp_ei,cmp_ni,cmp_e,cmp_n,h1,h2]
theorem eq_enc {l:List (List Val)}:cmpop .Eq (.list (encs l)) (.list (encs l))=some true:=by
 have h1:vshal 20 (.list (encs l))=true:=(enc_shal l:(encs l).all (vshal 19)=true)
 have h2:veq (.list (encs l)) (.list (encs l))=some true:=by show veqs _ _=_; exact enc_veqs l
 simp [cmp_gt,cmp_lt,cmp_le,cmp_ge,cmp_ei,cmp_ni,cmp_e,cmp_n,h1,h2]
theorem c48 {n b src cs size R t T pl} {G:List Item} {Q:List (List (List Val))} {wt:List (List Val)} (hc:okC cs)
  (hQl:∀ q∈Q,q.length≤60) (hQ:∀ q∈Q,∀ r∈q,RowC cs r) (hw:∀ r∈wt,RowC cs r) (hwl:wt.length≤60) (hRl:∀ r∈R,r.length≤60) (hR1:R.length≤60)
  (hR:R.map (λr=>r.map (·.1))=Q.map (sortR cs)) (hG:G.map (·.1)=wt) :
  cv (n + 7) 48 [.obj 6,.list (Q.map λq=>.list (rowsV q)),.list (rowsV wt),.list (cs.map colV)] false (W b src cs (sO cs size G R t T pl))
   = some (.val (.bool true),W b src cs (sO cs size G R t T pl)):=by
 obtain ⟨y1,h1⟩:=@out1 (cv (n + 6)) cs true (W b src cs (sO cs size G R t T pl)) (some (.val (.obj 6))) (some (.val (.list (Q.map λq=>.list (rowsV q))))) (some (.val (.list (rowsV wt)))) (some (.val (.list (cs.map colV)))) none none none none none none none R hRl
 have eR:(R.map λr=>Val.list (recs r))=(Q.map (sortR cs)).map λq=>Val.list (encs q):=by
  rw [←hR,List.map_map]; apply List.map_congr_left; intro r _; simp only [Function.comp,recs_eq]
 have eQ:(Q.map λq=>Val.list (encs (sortR cs q)))=(Q.map (sortR cs)).map λq=>Val.list (encs q):=by rw [List.map_map]; rfl
 rw [eR] at h1
 obtain ⟨y2,h2⟩:=@out2 n cs false (W b src cs (sO cs size G R t T pl)) (some (.val (.obj 6))) (some (.val (.list (Q.map λq=>.list (rowsV q))))) (some (.val (.list (rowsV wt)))) (some (.val (.list ((Q.map (sortR cs)).map λq=>Val.list (encs q))))) none none none none none none none none Q hc hQl hQ
 rw [eQ] at h2
 have hne:=@ne_enc2 (Q.map (sortR cs))
 have heq:=@eq_enc wt
 have lR:(R.map (runV cs)).length≤1000000:=by simp; omega
 have lQ:(Q.map λq=>Val.list (rowsV q)).length≤1000000:=by
  have:=congrArg List.length hR
  simp at this ⊢; omega
 obtain ⟨a,b',c,h3⟩:=@in2 (cv (n + 6)) cs true (W b src cs (sO cs size G R t T pl)) (some (.val (.obj 6))) (some (.val (.list (Q.map λq=>.list (rowsV q))))) (some (.val (.list (rowsV wt)))) (some (.val (.list (cs.map colV)))) (some (.val (.list ((Q.map (sortR cs)).map λq=>Val.list (encs q))))) none none none none none none none G
 rw [recs_eq,hG] at h3
 obtain ⟨d,h4⟩:=@in4 n cs false (W b src cs (sO cs size G R t T pl)) (some (.val (.obj 6))) (some (.val (.list (Q.map λq=>.list (rowsV q))))) (some (.val (.list (rowsV wt)))) (some (.val (.list (cs.map colV)))) (some (.val (.list ((Q.map (sortR cs)).map λq=>Val.list (encs q))))) none none none none none none none none none wt hw
 have lG:(G.map (ent cs)).length≤1000000:=by
  have:=congrArg List.length hG
  simp at this ⊢; omega
 have lW:(rowsV wt).length≤1000000:=by simp [rowsV]; omega
 have hit:∀ l,items? (.list l)=some l:=λl=>rfl
 have k1:=okLen_t lR
 have k2:=okLen_t lQ
 have k3:=okLen_t lG
 have k4:=okLen_t lW
 rw [cv48]
 generalize (Q.map (sortR cs)).map (λq=>Val.list (encs q))=X at *
 generalize (Q.map λq=>Val.list (rowsV q))=Y at *
 generalize encs wt=Z at *
 generalize rowsV wt=V at *
 simp only [W,sO] at h1 h2 h3 h4 ⊢
 generalize G.map (ent cs)=GG at *
 generalize R.map (runV cs)=RR at *
 simp [-Int.ofNat_lt,-Int.ofNat_le,b48,fget,h1,h2,h3,h4,hit,k1,k2,k3,k4,unset,hne,heq]
noncomputable abbrev S4 (b:Base) (x y:Int) (rest:List SObj):List SObj:=b.o0 :: b.o1 :: b.o2 :: b.o3 :: .slist [.int x,.int y] :: rest
theorem sub_p0 {x y:Val}:subv (.list [x,y]) (.int 0)=some x:=rfl
theorem sub_p1 {x y:Val}:subv (.list [x,y]) (.int 1)=some y:=rfl
theorem set_0 {b:Base} {vars rest} {x y:Val} {v:LV}:sIB (some (.val (.obj 4))) 0 v ⟨vars,b.o0 :: b.o1 :: b.o2 :: b.o3 :: .slist [x,y] :: rest,false⟩=some (.next,⟨vars,b.o0 :: b.o1 :: b.o2 :: b.o3 :: .slist [v.frz,y] :: rest,false⟩):=rfl
theorem set_1 {b:Base} {vars rest} {x y:Val} {v:LV}:sIB (some (.val (.obj 4))) 1 v ⟨vars,b.o0 :: b.o1 :: b.o2 :: b.o3 :: .slist [x,y] :: rest,false⟩=some (.next,⟨vars,b.o0 :: b.o1 :: b.o2 :: b.o3 :: .slist [x,v.frz] :: rest,false⟩):=rfl
theorem bin_mod {a b:Int} (h:0 < b):binop .Mod (.int a) (.int b)=some (.val (.int (a % b))):=by
 simp only [qo1,qo2,qo3,qo4,qo5,qo6,qo7,qo8,qo9,qo10,qo11]
 rw [if_neg (by omega),Int.fmod_eq_emod_of_nonneg _ (by omega)]
theorem bin_div {a b:Int} (h:0 < b) (h2:b < 1000):binop .FloorDiv (.int a) (.int b)=some (.val (.int (a / b))):=by
 simp only [qo1,qo2,qo3,qo4,qo5,qo6,qo7,qo8,qo9,qo10,qo11]
 rw [if_pos (by omega),Int.fdiv_eq_ediv_of_nonneg _ (by omega)]
theorem bin_mul {a b:Int} (h:-1000000000000 < b) (h2:b < 1000000000000):binop .Mult (.int a) (.int b)=some (.val (.int (a * b))):=by
 have:small b=true:=by simp [small_eq]; omega
 simp only [qo1,qo2,qo3,qo4,qo5,qo6,qo7,qo8,qo9,qo10,qo11,this,if_true]
theorem bi_int {a:Int}:biop .int [.int a]=some (.val (.int a)):=rfl
theorem c41 {n bs x y rest} {top:Int} (h0:0 < top) (h1:top < 1000):∃ d x' y',0≤d∧d < top∧cv (n + 1) 41 [.obj 4,.int top] false (S4 bs x y rest)=some (.val (.int d),S4 bs x' y' rest):=by
 by_cases h:0 < x
 ·refine ⟨x % top,x / top,y,Int.emod_nonneg _ (by omega),Int.emod_lt_of_pos _ h0,?_⟩
  rw [cv41]
  simp [-Int.ofNat_lt,-Int.ofNat_le,b41,sub_p0,sub_p1,cmp_gt,h,bi_int,bin_mod h0,bin_div h0 h1,set_0]
 ·obtain ⟨y',hy⟩:∃ y',y'=(y * 39373 + 7) % 2147483647:=⟨_,rfl⟩
  have b1:0≤y':=by rw [hy]; exact Int.emod_nonneg _ (by decide)
  have b2:y' < 2147483647:=by rw [hy]; exact Int.emod_lt_of_pos _ (by decide)
  have m1:=@bin_mul y 39373 (by decide) (by decide)
  have m2:=@bin_mul y' y' (by omega) (by omega)
  have m3:=@bin_mod (y * 39373 + 7) 2147483647 (by decide)
  have m4:=@bin_mod (y' * y') 2147483629 (by decide)
  have m5:=@bin_div (y' * y' % 2147483629) 32 (by decide) (by decide)
  have m6:=@bin_mod (y' * y' % 2147483629 / 32) top h0
  rw [←hy] at m3
  refine ⟨y' * y' % 2147483629 / 32 % top,x,y',Int.emod_nonneg _ (by omega),Int.emod_lt_of_pos _ h0,?_⟩
  rw [cv41]
  simp [-Int.ofNat_lt,-Int.ofNat_le,b41,sub_p0,sub_p1,cmp_gt,h,bi_int,m1,m2,m3,m4,m5,m6,bin_add,set_1]
theorem c42 {n bs x y rest} {l:List Val} (h0:0 < l.length) (h1:l.length < 1000):∃ v∈l,∃ x' y',cv (n + 2) 42 [.obj 4,.list l] false (S4 bs x y rest)=some (.val v,S4 bs x' y' rest):=by
 obtain ⟨d,x',y',hd,hd2,h⟩:=@c41 n bs x y rest l.length (Int.ofNat_lt.2 h0) (Int.ofNat_lt.2 h1)
 obtain ⟨e,rfl⟩:=Int.eq_ofNat_of_zero_le hd
 have he:=Int.ofNat_lt.1 hd2
 refine ⟨l[e],List.getElem_mem _,x',y',?_⟩
 rw [cv42]
 exact fin_r (x_rt (ret_e (sub_e (x:=.val (.list l)) (y:=.val (.int e)) rfl (call_e (vs:=[.obj 4,.int l.length]) (σ':=⟨[some (.val (.obj 4)),some (.val (.list l))],S4 bs x y rest,false⟩) (es2_e (x:=.val (.obj 4)) (y:=.val (.int l.length)) rfl (bi1_e (x:=.val (.list l)) rfl (len_li (Nat.le_of_lt (Nat.lt_trans h1 (by decide)))))) tc41 h) (subv_at (Nat.le_of_lt h1) (List.getElem?_eq_getElem he)))))
noncomputable def menu1:List Val:=[.none,.int 0,.int (-7),.int 1099511627776,.str [],.str [97],.str [65],.str [97,32],.str [98],.bytes [],.bytes [97]]
theorem menu_in {v d} (h0:0≤d) (h3:d < 3) (h:v∈menu1 ++ [.int d]):v∈menu:=by
 rcases List.mem_append.1 h with h | h
 ·exact List.mem_append_left [.int 1,.int 2] h
 ·obtain rfl:=List.mem_singleton.1 h
  have hd:d=0∨d=1∨d=2:=by clear h; omega
  rcases hd with rfl | rfl | rfl
  ·exact .tail _ (.head _)
  ·exact List.mem_append_right menu1 (.head _)
  ·exact List.mem_append_right menu1 (.tail _ (.head _))
theorem c47 {n bs x y rest}:∃ v∈menu,∃ x' y',cv (n + 3) 47 [.obj 4] false (S4 bs x y rest)=some (.val v,S4 bs x' y' rest):=by
 obtain ⟨d,x1,y1,hd,hd2,h⟩:=@c41 (n + 1) bs x y rest 3 (by decide) (by decide)
 obtain ⟨v,hv,x',y',h'⟩:=@c42 n bs x1 y1 rest [.none,.int 0,.int (-7),.int 1099511627776,.str [],.str [97],.str [65],.str [97,32],.str [98],.bytes [],.bytes [97],.int d] (Nat.le_of_ble_eq_true rfl) (Nat.le_of_ble_eq_true rfl)
 refine ⟨v,menu_in hd hd2 hv,x',y',?_⟩
 have hp:binop .Pow (.int 2) (.int 40)=some (.val (.int 1099511627776)):=rfl
 rw [cv47]
 simp [-Int.ofNat_lt,-Int.ofNat_le,b47,hp,h,h',lsV,okLen]
theorem compGo_ex {β:Type} {step:Val→St→Option (List Val×St)} {mk:β→St} {P:Val→Prop}:∀ {xs:List Val},(∀ x∈xs,∀ y,∃ v y',P v∧step x (mk y)=some ([v],mk y')) →
  ∀ y,∃ vs y',vs.length=xs.length∧(∀ v∈vs,P v)∧compGo step xs (mk y)=some (vs,mk y')
 | [],_,y=>⟨[],y,rfl,by simp,rfl⟩
 | x :: xs,h,y=>by
  obtain ⟨v,y1,hv,h1⟩:=h x (by simp) y
  obtain ⟨vs,y2,a,b,h2⟩:=compGo_ex (xs:=xs) (λx hx=>h x (by simp [hx])) y1
  refine ⟨v :: vs,y2,by simp [a],?_,by simp only [compGo,h1,h2,List.singleton_append]⟩
  intro u hu
  rcases List.mem_cons.1 hu with rfl | hu
  ·exact hv
  ·exact b u hu
noncomputable def QV (Q:List (List (List Val))):List Val:=Q.map λq=>.list (rowsV q)
noncomputable abbrev VV (cs:List Col) (x2:Option LV) (size:Int) (A:List (List Val)) (Q:List (List (List Val))) (wt:List (List Val)) (x8 x9:Option LV):List (Option LV) :=
 [some (.val (.obj 4)),some (.val (.list (cs.map colV))),x2,some (.val (.int size)),some (.val (.obj 6)),some (.val (.list (rowsV A))),some (.val (.list (QV Q))),some (.val (.list (rowsV wt))),x8,x9,none,none,none,none]
noncomputable abbrev s50a:MS:=(.assign 8 (.comp (.call 47 (.cons (.var 0) .nil)) [12] (.rng (.cons (.bin .Add (.bi .len (.cons (.var 1) .nil)) (.call 41 (.cons (.var 0) (.cons (.const (.int 2)) .nil)))) .nil)) (.const (.bool true))))
noncomputable abbrev s50b:MS:=(.assignT [5,7] (.tuple (.cons (.bin .Add (.var 5) (.list (.cons (.var 8) .nil))) (.cons (.bin .Add (.var 7) (.list (.cons (.var 8) .nil))) .nil))))
noncomputable abbrev s50c:MS:=(.expr (.meth (.var 4) 32 (.cons (.call 18 (.cons (.var 8) .nil)) .nil)))
noncomputable abbrev s50d:MS:=(.ite (.cmp .Eq (.bi .len (.cons (.var 7) .nil)) (.var 3)) (.cons (.assignT [6,7] (.tuple (.cons (.bin .Add (.var 6) (.list (.cons (.var 7) .nil))) (.cons (.list .nil) .nil)))) .nil) .nil)
noncomputable abbrev s50e:MS:=(.ite (.cmp .Eq (.call 41 (.cons (.var 0) (.cons (.const (.int 4)) .nil))) (.const (.int 0))) (.cons (.expr (.meth (.var 4) 33 .nil)) (.cons (.assignT [6,7] (.tuple (.cons (.bin .Add (.var 6) (.list (.cons (.var 7) .nil))) (.cons (.list .nil) .nil)))) .nil)) .nil)
theorem rf_len (n:Nat):∀ {a:Int},(rngFrom a n).length=n:=by
 induction n with
 | zero=>intro a; rfl
 | succ n ih=>intro a; exact congrArg Nat.succ ih
theorem s50a_ok {n bs x y cs x2 size A Q wt x8 S} (hc:okC cs):∃ r x' y',RowC cs r∧exS tabs (cv (n + 9)) s50a ⟨VV cs x2 size A Q wt x8 none,W bs [.int x,.int y] cs S,false⟩
  = some (.next,⟨VV cs x2 size A Q wt (some (.olist r)) none,W bs [.int x',.int y'] cs S,false⟩):=by
 obtain ⟨d,x1,y1,hd,hd2,h41⟩:=@c41 (n + 8) bs x y [kiObj cs,S] 2 (by decide) (by decide)
 obtain ⟨e,rfl⟩:=Int.eq_ofNat_of_zero_le hd
 have he:e≤1:=Nat.le_of_lt_succ (Int.ofNat_lt.1 hd2)
 clear hd hd2
 obtain ⟨vs,⟨z,x',y'⟩,hlen,hvs,h⟩:=@compGo_ex (Option LV×Int×Int) (compStep [12] (evE tabs (cv (n + 9)) (.const (.bool true))) (evE tabs (cv (n + 9)) (.call 47 (.cons (.var 0) .nil))))
  (λs=>⟨[some (.val (.obj 4)),some (.val (.list (cs.map colV))),x2,some (.val (.int size)),some (.val (.obj 6)),some (.val (.list (rowsV A))),some (.val (.list (QV Q))),some (.val (.list (rowsV wt))),x8,none,none,none,s.1,none],W bs [.int s.2.1,.int s.2.2] cs S,false⟩) (·∈menu)
  (rngFrom 0 (cs.length + e)) (by
  intro i _ s
  obtain ⟨v,hv,x',y',h⟩:=@c47 (n + 6) bs s.2.1 s.2.2 [kiObj cs,S]
  exact ⟨v,(some (.val i),x',y'),hv,(cstep_true.trans (congrArg (λo=>kcs o _) bind1)).trans (kcs_some (call_e (vs:=[.obj 4]) (σ':=⟨[some (.val (.obj 4)),some (.val (.list (cs.map colV))),x2,some (.val (.int size)),some (.val (.obj 6)),some (.val (.list (rowsV A))),some (.val (.list (QV Q))),some (.val (.list (rowsV wt))),x8,none,none,none,some (.val i),none],W bs [.int s.2.1,.int s.2.2] cs S,false⟩) rfl tc47 h))⟩) (none,x1,y1)
 rw [rf_len] at hlen
 have h3:cs.length + e≤3:=Nat.add_le_add hc.1.2 he
 have h1:cs.length≤cs.length + e:=Nat.le_add_right _ _
 refine ⟨vs,x',y',⟨⟨⟨by rw [hlen]; exact Nat.le_trans hc.1.1 h1,by rw [hlen]; exact h3⟩,hvs⟩,by rw [hlen]; exact h1⟩,?_⟩
 have lc:biop .len [.list (cs.map colV)]=some (.val (.int cs.length)):=by rw [len_li (by rw [List.length_map]; exact up hc.1.2 rfl),List.length_map]
 have hr:range? [.int ((cs.length + e:Nat):Int)]=some (rngFrom 0 (cs.length + e)):=by rw [qr1,mid_in (Int.natCast_nonneg _) (Int.ofNat_le.2 (up h3 rfl))]; rfl
 exact asg_e (x:=.olist vs) (compR_e (vs:=[.int ((cs.length + e:Nat):Int)]) (σ1:=⟨VV cs x2 size A Q wt x8 none,W bs [.int x1,.int y1] cs S,false⟩) (es1_e (x:=.val (.int ((cs.length + e:Nat):Int))) (bin_e (x:=.val (.int cs.length)) (y:=.val (.int e)) (bi1_e (x:=.val (.list (cs.map colV))) rfl lc)
  (call_e (vs:=[.obj 4,.int 2]) (σ':=⟨VV cs x2 size A Q wt x8 none,W bs [.int x,.int y] cs S,false⟩) rfl tc41 h41) rfl)) hr (by rw [rf_len]; exact up h3 rfl) h)
theorem rows_add {A:List (List Val)} {r:List Val} (hA:A.length≤100):binop .Add (.list (rowsV A)) (.list [.list r])=some (.olist (rowsV (A ++ [r]))):=by
 rw [bin_addl (by rw [rowsV,List.length_map]; exact up (Nat.succ_le_succ hA) rfl),rowsV,rowsV,List.map_append]; rfl
theorem s50b_ok {n st cs x2 size A Q wt r} (hA:A.length≤100) (hw:wt.length≤100):exS tabs (cv n) s50b ⟨VV cs x2 size A Q wt (some (.olist r)) none,st,false⟩
  = some (.next,⟨VV cs x2 size (A ++ [r]) Q (wt ++ [r]) (some (.val (.list r))) none,st,false⟩) :=
 asgT_e (l:=[.list (rowsV (A ++ [r])),.list (rowsV (wt ++ [r]))]) (σ':=⟨VV cs x2 size A Q wt (some (.val (.list r))) none,st,false⟩) (tup2_e (x:=.olist (rowsV (A ++ [r]))) (y:=.olist (rowsV (wt ++ [r]))) (σ1:=⟨VV cs x2 size A Q wt (some (.val (.list r))) none,st,false⟩)
  (bin_e (x:=.val (.list (rowsV A))) (y:=.olist [.list r]) rfl (list1_e (x:=.val (.list r)) rfl) (rows_add hA)) (bin_e (x:=.val (.list (rowsV wt))) (y:=.olist [.list r]) rfl (list1_e (x:=.val (.list r)) rfl) (rows_add hw))) rfl rfl
theorem add_Q {Q:List (List (List Val))} {wt:List (List Val)} (hQ:Q.length≤100):binop .Add (.list (QV Q)) (.list [.list (rowsV wt)])=some (.olist (QV (Q ++ [wt]))):=by
 rw [bin_addl (by rw [QV,List.length_map]; exact up (Nat.succ_le_succ hQ) rfl),QV,QV,List.map_append]; rfl
theorem dQ {n st cs x2 size A Q wt x8} (hQ:Q.length≤100):exSs tabs (cv n) (.cons (.assignT [6,7] (.tuple (.cons (.bin .Add (.var 6) (.list (.cons (.var 7) .nil))) (.cons (.list .nil) .nil)))) .nil) ⟨VV cs x2 size A Q wt x8 none,st,false⟩
  = some (.next,⟨VV cs x2 size A (Q ++ [wt]) [] x8 none,st,false⟩) :=
 x_nx (asgT_e (l:=[.list (QV (Q ++ [wt])),.list []]) (σ':=⟨VV cs x2 size A Q wt x8 none,st,false⟩) (tup2_e (x:=.olist (QV (Q ++ [wt]))) (y:=.olist []) (σ1:=⟨VV cs x2 size A Q wt x8 none,st,false⟩)
  (bin_e (x:=.val (.list (QV Q))) (y:=.olist [.list (rowsV wt)]) rfl (list1_e (x:=.val (.list (rowsV wt))) rfl) (add_Q hQ)) rfl) rfl rfl) rfl
theorem cond50 {n st cs x2 size A Q wt x8} (hw:wt.length≤100):evE tabs (cv n) (.cmp .Eq (.bi .len (.cons (.var 7) .nil)) (.var 3)) ⟨VV cs x2 size A Q wt x8 none,st,false⟩=some (.val (.bool (decide ((wt.length:Int)=size))),⟨VV cs x2 size A Q wt x8 none,st,false⟩) :=
 cmp_e' (x:=.val (.int wt.length)) (y:=.val (.int size)) (bi1_e (x:=.val (.list (rowsV wt))) rfl (by
  have:=@len_li (rowsV wt) (by rw [rowsV,List.length_map]; exact up hw rfl)
  rw [rowsV,List.length_map] at this; exact this)) rfl cmp_ei
theorem s50d_t {n st cs x2 A Q wt x8} (hw:wt.length≤100) (hQ:Q.length≤100):exS tabs (cv n) s50d ⟨VV cs x2 (wt.length:Nat) A Q wt x8 none,st,false⟩
  = some (.next,⟨VV cs x2 (wt.length:Nat) A (Q ++ [wt]) [] x8 none,st,false⟩):=(ite_t (cond50 hw) (congrArg some (decide_eq_true rfl))).trans (dQ hQ)
theorem s50d_f {n st cs x2 size A Q wt x8} (hw:wt.length≤100) (h:(wt.length:Int)≠size):exS tabs (cv n) s50d ⟨VV cs x2 size A Q wt x8 none,st,false⟩
  = some (.next,⟨VV cs x2 size A Q wt x8 none,st,false⟩):=ite_n (cond50 hw) (congrArg some (decide_eq_false h))
structure Inv (cs:List Col) (all G:List Item) (R:List (List Item)) (A:List (List Val)) (Q:List (List (List Val))) (wt:List (List Val)) (k j:Nat):Prop where
 row:∀ q∈all,RowC cs q.1
 grw:Grw all
 num:∀ q∈all,q.2 < all.length
 len:all.length≤k
 runs:R.length≤j
 perm:(R.flatten ++ G).Perm all
 srt:∀ r∈R,Srt cs r
 eqR:R.map (λr=>r.map (·.1))=Q.map (sortR cs)
 eqG:G.map (·.1)=wt
 grwG:Grw G
 eqA:A=all.map (·.1)
 Qrow:∀ q∈Q,∀ r∈q,RowC cs r
 Qlen:∀ q∈Q,q.length≤k
theorem Inv.lenG {cs all G R A Q wt k j} (h:Inv cs all G R A Q wt k j):G.length≤k:=by
 have:=h.perm.length_eq
 have:=h.len
 simp only [List.length_append] at *
 omega
theorem Inv.wtl {cs all G R A Q wt k j} (h:Inv cs all G R A Q wt k j):wt.length=G.length:=by rw [←h.eqG,List.length_map]
theorem Inv.Al {cs all G R A Q wt k j} (h:Inv cs all G R A Q wt k j):A.length=all.length:=by rw [h.eqA,List.length_map]
theorem Inv.Ql {cs all G R A Q wt k j} (h:Inv cs all G R A Q wt k j):Q.length=R.length:=by
 have:=congrArg List.length h.eqR
 simpa using this.symm
theorem Inv.memG {cs all G R A Q wt k j} (h:Inv cs all G R A Q wt k j):∀ q∈G,q∈all:=λq hq=>h.perm.mem_iff.1 (by simp [hq])
theorem Inv.ins {cs all G R A Q wt k j r} (h:Inv cs all G R A Q wt k j) (hr:RowC cs r):Inv cs (all ++ [(r,all.length)]) (G ++ [(r,all.length)]) R (A ++ [r]) Q (wt ++ [r]) (k + 1) j where
 row:=λq hq=>by
  rcases List.mem_append.1 hq with hq | hq
  ·exact h.row q hq
  ·simp at hq; subst hq; exact hr
 grw:=by
  refine List.pairwise_append.2 ⟨h.grw,by simp,λa ha b hb=>?_⟩
  simp at hb; subst hb; exact h.num a ha
 num:=λq hq=>by
  rcases List.mem_append.1 hq with hq | hq
  ·have:=h.num q hq; simp; omega
  ·simp at hq; subst hq; simp
 len:=by have:=h.len; simp; omega
 runs:=h.runs
 perm:=by rw [←List.append_assoc]; exact h.perm.append_right _
 srt:=h.srt
 eqR:=h.eqR
 eqG:=by simp [h.eqG]
 grwG:=by
  refine List.pairwise_append.2 ⟨h.grwG,by simp,λa ha b hb=>?_⟩
  simp at hb; subst hb; exact h.num a (h.memG a ha)
 eqA:=by simp [h.eqA]
 Qrow:=h.Qrow
 Qlen:=λq hq=>by have:=h.Qlen q hq; omega
theorem Inv.fin {cs all G R A Q wt k j m} (hc:okC cs) (h:Inv cs all G R A Q wt k j) (hm:Srt cs m) (hp:m.Perm G):Inv cs all [] (R ++ [m]) A (Q ++ [wt]) [] k (j + 1) where
 row:=h.row
 grw:=h.grw
 num:=h.num
 len:=h.len
 runs:=by have:=h.runs; simp; omega
 perm:=by
  simp only [List.flatten_append,List.flatten_cons,List.flatten_nil,List.append_nil]
  exact (hp.append_left _).trans h.perm
 srt:=λr hr=>by
  rcases List.mem_append.1 hr with hr | hr
  ·exact h.srt r hr
  ·simp at hr; subst hr; exact hm
 eqR:=by
  have:=srt_law hc (λq hq=>h.row q (h.memG q hq)) h.grwG hm hp
  rw [h.eqG] at this
  simp [h.eqR,this]
 eqG:=rfl
 grwG:=.nil
 eqA:=h.eqA
 Qrow:=λq hq=>by
  rcases List.mem_append.1 hq with hq | hq
  ·exact h.Qrow q hq
  ·simp at hq; subst hq
   intro r hr
   rw [←h.eqG] at hr
   obtain ⟨p,hp,rfl⟩:=List.mem_map.1 hr
   exact h.row p (h.memG p hp)
 Qlen:=λq hq=>by
  rcases List.mem_append.1 hq with hq | hq
  ·exact h.Qlen q hq
  ·simp at hq; subst hq; rw [h.wtl]; exact h.lenG
noncomputable abbrev B50:MSs:=.cons s50a (.cons s50b (.cons s50c (.cons s50d (.cons s50e .nil))))
theorem s50e_ok {n bs x y cs x2 size A Q wt x8 G R t T pl} (hG:G.length≤60) (hd:Dst G) (hR:R.length≤60) (hQ:Q.length≤100) :
  ∃ x' y',(exS tabs (cv (n + 9)) s50e ⟨VV cs x2 size A Q wt x8 none,W bs [.int x,.int y] cs (sO cs size G R t T pl),false⟩
    = some (.next,⟨VV cs x2 size A Q wt x8 none,W bs [.int x',.int y'] cs (sO cs size G R t T pl),false⟩)) ∨
   (∃ m,exS tabs (cv (n + 9)) s50e ⟨VV cs x2 size A Q wt x8 none,W bs [.int x,.int y] cs (sO cs size G R t T pl),false⟩
    = some (.next,⟨VV cs x2 size A (Q ++ [wt]) [] x8 none,W bs [.int x',.int y'] cs (sO cs size [] (R ++ [m]) t T pl),false⟩)∧Srt cs m∧m.Perm G):=by
 obtain ⟨d,x1,y1,hd1,hd2,h41⟩:=@c41 (n + 8) bs x y [kiObj cs,sO cs size G R t T pl] 4 (by decide) (by decide)
 have ec:evE tabs (cv (n + 9)) (.cmp .Eq (.call 41 (.cons (.var 0) (.cons (.const (.int 4)) .nil))) (.const (.int 0))) ⟨VV cs x2 size A Q wt x8 none,W bs [.int x,.int y] cs (sO cs size G R t T pl),false⟩
   = some (.val (.bool (decide (d=0))),⟨VV cs x2 size A Q wt x8 none,W bs [.int x1,.int y1] cs (sO cs size G R t T pl),false⟩) :=
  cmp_e' (x:=.val (.int d)) (y:=.val (.int 0)) (call_e (vs:=[.obj 4,.int 4]) (σ':=⟨VV cs x2 size A Q wt x8 none,W bs [.int x,.int y] cs (sO cs size G R t T pl),false⟩) rfl tc41 h41) rfl cmp_ei
 refine ⟨x1,y1,?_⟩
 by_cases h:d=0
 ·obtain ⟨m,h33,hm1,hm2⟩:=@c33 (n + 6) bs [.int x1,.int y1] cs size G R t T pl hG hd hR
  exact .inr ⟨m,(ite_t ec (congrArg some (decide_eq_true h))).trans (x_nx (expr_e (meth_e (k:=6) (σ1:=⟨VV cs x2 size A Q wt x8 none,W bs [.int x1,.int y1] cs (sO cs size G R t T pl),false⟩) (σ2:=⟨VV cs x2 size A Q wt x8 none,W bs [.int x1,.int y1] cs (sO cs size G R t T pl),false⟩) rfl rfl tc33 rfl h33)) (dQ hQ)),hm1,hm2⟩
 ·exact .inl (ite_n ec (congrArg some (decide_eq_false h)))
inductive T50 (cs:List Col) (bs:Base) (size:Int) (T:LV) (pl:Int) (r:Option (Fl×St)) (k j:Nat):Prop
 | mk {x' y':Int} {all' G' R' A' Q' wt' x2' x8'}:r=some (.next,⟨VV cs x2' size A' Q' wt' x8' none,W bs [.int x',.int y'] cs (sO cs size G' R' (all'.length) T pl),false⟩)→Inv cs all' G' R' A' Q' wt' k j→(G'.length:Int) < size→T50 cs bs size T pl r k j
theorem Inv.up {cs all G R A Q wt k j j'} (h:Inv cs all G R A Q wt k j) (hj:j≤j'):Inv cs all G R A Q wt k j':={ h with runs:=Nat.le_trans h.runs hj }
theorem z_sz {wt:List (List Val)} {r:List Val}:0 < (wt ++ [r]).length:=by simp
theorem len1 {α:Type} {l:List α} {a:α}:(l ++ [a]).length=l.length + 1:=by rw [List.length_append]; rfl
theorem l0_ {α:Type} {n:Nat}:([]:List α).length≤n:=Nat.zero_le n
theorem l1_ {α:Type} {l:List α} {a:α} {n:Nat} (h:l.length≤n):(l ++ [a]).length≤n + 1:=by rw [List.length_append]; exact Nat.succ_le_succ h
theorem turn50 {n bs x y cs x2 size A Q wt x8 all G R T pl k j} {i:Int} (hc:okC cs) (hi:Inv cs all G R A Q wt k j) (hk:k≤40) (hj:j≤40) (hlt:(G.length:Int) < size) :
  T50 cs bs size T pl (stp [2] (exSs tabs (cv (n + 9)) B50) (.int i) ⟨VV cs x2 size A Q wt x8 none,W bs [.int x,.int y] cs (sO cs size G R all.length T pl),false⟩) (k + 1) (j + 2):=by
 obtain ⟨r,x1,y1,hr,ha⟩:=@s50a_ok n bs x y cs (some (.val (.int i))) size A Q wt x8 (sO cs size G R all.length T pl) hc
 have hi2:=hi.ins hr
 have hal:=Nat.le_trans hi.len hk
 have hGl:=Nat.le_trans hi.lenG hk
 have hwl:wt.length≤40:=Nat.le_trans (Nat.le_of_eq hi.wtl) hGl
 have hRl:=Nat.le_trans hi.runs hj
 have hQl:Q.length≤40:=Nat.le_trans (Nat.le_of_eq hi.Ql) hRl
 have hAl:A.length≤40:=Nat.le_trans (Nat.le_of_eq hi.Al) hal
 have hb:=@s50b_ok (n + 9) (W bs [.int x1,.int y1] cs (sO cs size G R all.length T pl)) cs (some (.val (.int i))) size A Q wt r (up hAl rfl) (up hwl rfl)
 have hdG:Dst (G ++ [(r,all.length)]):=hi2.grwG.dst
 obtain ⟨G2,R2,h32,hcase⟩:=@c32 (n + 1) bs [.int x1,.int y1] cs size G R all.length T pl r hc hr (up (Nat.succ_le_succ hGl) rfl) hdG (up hRl rfl)
 have hcc:exS tabs (cv (n + 9)) s50c ⟨VV cs (some (.val (.int i))) size (A ++ [r]) Q (wt ++ [r]) (some (.val (.list r))) none,W bs [.int x1,.int y1] cs (sO cs size G R all.length T pl),false⟩
   = some (.next,⟨VV cs (some (.val (.int i))) size (A ++ [r]) Q (wt ++ [r]) (some (.val (.list r))) none,W bs [.int x1,.int y1] cs (sO cs size G2 R2 (all ++ [(r,all.length)]).length T pl),false⟩):=by
  rw [len1]
  exact expr_e (meth_e (k:=6) (σ1:=⟨VV cs (some (.val (.int i))) size (A ++ [r]) Q (wt ++ [r]) (some (.val (.list r))) none,W bs [.int x1,.int y1] cs (sO cs size G R all.length T pl),false⟩) (σ2:=⟨VV cs (some (.val (.int i))) size (A ++ [r]) Q (wt ++ [r]) (some (.val (.list r))) none,W bs [.int x1,.int y1] cs (sO cs size G R all.length T pl),false⟩) rfl rfl tc32
   (es1_e (x:=.val (.bytes (enc r))) (call_e (vs:=[.list r]) (σ':=⟨VV cs (some (.val (.int i))) size (A ++ [r]) Q (wt ++ [r]) (some (.val (.list r))) none,W bs [.int x1,.int y1] cs (sO cs size G R all.length T pl),false⟩) rfl tc18 (@c18 (n + 3) false _ r hr.1))) h32)
 have go:=λ {σ' q} (h:exSs tabs (cv (n + 9)) (.cons s50d (.cons s50e .nil)) ⟨VV cs (some (.val (.int i))) size (A ++ [r]) Q (wt ++ [r]) (some (.val (.list r))) none,W bs [.int x1,.int y1] cs (sO cs size G2 R2 (all ++ [(r,all.length)]).length T pl),false⟩=some (q,σ'))=>x_nx ha (x_nx hb (x_nx hcc h))
 clear ha hb hcc
 have hlw:((wt ++ [r]).length:Int)=(G.length:Int) + 1:=by rw [←hi.wtl,len1]; rfl
 rcases hcase with ⟨hs,rfl,m,rfl,hm1,hm2⟩ | ⟨hs,rfl,rfl⟩
 ·obtain rfl:size=((wt ++ [r]).length:Nat):=hlw ▸ Int.le_antisymm hs hlt
  have hi3:=hi2.fin hc hm1 hm2
  have hdd:=@s50d_t (n + 9) (W bs [.int x1,.int y1] cs (sO cs ((wt ++ [r]).length:Nat) [] (R ++ [m]) (all ++ [(r,all.length)]).length T pl)) cs (some (.val (.int i))) (A ++ [r]) Q (wt ++ [r]) (some (.val (.list r))) (up (l1_ hwl) rfl) (up hQl rfl)
  obtain ⟨x',y',he⟩:=@s50e_ok n bs x1 y1 cs (some (.val (.int i))) ((wt ++ [r]).length:Nat) (A ++ [r]) (Q ++ [wt ++ [r]]) [] (some (.val (.list r))) [] (R ++ [m]) (all ++ [(r,all.length)]).length T pl l0_ .nil (up (l1_ hRl) rfl) (up (l1_ hQl) rfl)
  rcases he with he | ⟨m',he,hm1',hm2'⟩
  ·exact .mk (go (x_nx hdd (x_nx he rfl))) (hi3.up (Nat.le_succ _)) (Int.ofNat_lt.2 z_sz)
  ·exact .mk (go (x_nx hdd (x_nx he rfl))) (hi3.fin hc hm1' hm2') (Int.ofNat_lt.2 z_sz)
 ·have hdd:=@s50d_f (n + 9) (W bs [.int x1,.int y1] cs (sO cs size (G ++ [(r,all.length)]) R2 (all ++ [(r,all.length)]).length T pl)) cs (some (.val (.int i))) size (A ++ [r]) Q (wt ++ [r]) (some (.val (.list r))) (up (l1_ hwl) rfl) (by rw [hlw]; exact Int.ne_of_lt hs)
  obtain ⟨x',y',he⟩:=@s50e_ok n bs x1 y1 cs (some (.val (.int i))) size (A ++ [r]) Q (wt ++ [r]) (some (.val (.list r))) (G ++ [(r,all.length)]) R2 (all ++ [(r,all.length)]).length T pl (up (l1_ hGl) rfl) hdG (up hRl rfl) (up hQl rfl)
  rcases he with he | ⟨m',he,hm1',hm2'⟩
  ·exact .mk (go (x_nx hdd (x_nx he rfl))) (hi2.up (Nat.le_add_right _ 2)) (by rw [len1]; exact hs)
  ·exact .mk (go (x_nx hdd (x_nx he rfl))) ((hi2.fin hc hm1' hm2').up (Nat.le_succ _)) (Int.lt_of_le_of_lt (Int.natCast_nonneg _) hlt)
theorem loop50 {n bs cs size T pl} (hc:okC cs) (xs:List Int):∀ {x y x2 A Q wt x8 all G R k j},Inv cs all G R A Q wt k j→k + xs.length≤41→j + 2 * xs.length≤41→(G.length:Int) < size →
  T50 cs bs size T pl (forGo (stp [2] (exSs tabs (cv (n + 9)) B50)) (xs.map .int) ⟨VV cs x2 size A Q wt x8 none,W bs [.int x,.int y] cs (sO cs size G R all.length T pl),false⟩) (k + xs.length) (j + 2 * xs.length):=by
 induction xs with
 | nil=>exact λhi _ _ hlt=>.mk rfl hi hlt
 | cons i xs ih =>
  intro x y x2 A Q wt x8 all G R k j hi hk hj hlt
  have e1:k + (i :: xs).length=k + 1 + xs.length:=(Nat.succ_add k xs.length).symm
  have e2:j + 2 * (i :: xs).length=j + 2 + 2 * xs.length:=by rw [List.length_cons,Nat.mul_add,Nat.add_right_comm]; rfl
  rw [e1] at hk ⊢
  rw [e2] at hj ⊢
  obtain ⟨h1,hi1,hlt1⟩:=@turn50 n bs x y cs x2 size A Q wt x8 all G R T pl k j i hc hi (Nat.le_of_succ_le_succ (Nat.le_trans (Nat.le_add_right _ _) hk)) (Nat.le_trans (Nat.le_succ _) (Nat.le_of_succ_le_succ (Nat.le_trans (Nat.le_add_right _ _) hj))) hlt
  rw [List.map_cons,forGo_cons,h1,sq_next]
  exact ih hi1 hk hj hlt1
noncomputable abbrev PV (cs:List Col) (x2 x3:Option LV):List (Option LV):=[some (.val (.obj 4)),some (.olist (cs.map colV)),x2,x3,none,none,none,none,none,none,none,none,none,none]
noncomputable abbrev a50:MSs:=(.cons (.append 1 (.tuple (.cons (.call 42 (.cons (.var 0) (.cons (.list (.cons (.const (.str [98,105,110,97,114,121])) (.cons (.const (.str [110,111,99,97,115,101])) (.cons (.const (.str [114,116,114,105,109])) .nil)))) .nil))) (.cons (.cmp .Eq (.call 41 (.cons (.var 0) (.cons (.const (.int 2)) .nil))) (.const (.int 0))) .nil)))) .nil)
theorem turnA {n bs x y x2} {cs:List Col} {i:Int} (hl:cs.length≤10):∃ (c:Col) (x' y':Int) (w2:Option LV),c.1∈colls∧stp [2] (exSs tabs (cv (n + 9)) a50) (.int i) ⟨PV cs x2 none,S4 bs x y [],false⟩=some (.next,⟨PV (cs ++ [c]) w2 none,S4 bs x' y' [],false⟩):=by
 obtain ⟨v,hv,x1,y1,h42⟩:=@c42 (n + 7) bs x y [] [.str cB,.str cN,.str cR] (by simp) (by simp)
 obtain ⟨d,x',y',hd1,hd2,h41⟩:=@c41 (n + 8) bs x1 y1 [] 2 (by decide) (by decide)
 obtain ⟨c,hc,rfl⟩:∃ c∈colls,v=.str c:=by
  simp only [List.mem_cons,List.not_mem_nil,or_false] at hv
  rcases hv with rfl | rfl | rfl
  ·exact ⟨cB,by simp [colls],rfl⟩
  ·exact ⟨cN,by simp [colls],rfl⟩
  ·exact ⟨cR,by simp [colls],rfl⟩
 refine ⟨(c,decide (d=0)),x',y',some (.val (.int i)),hc,?_⟩
 have ok:okLen cs.length=true:=okLen_t (by omega)
 have l3:∀ a b c,lsV [a,b,c]=some (.olist [a,b,c]):=λa b c=>rfl
 have t2:∀ a b,tpV [a,b]=some (.val (.tuple [a,b])):=λa b=>rfl
 simp only [cB,cN,cR] at h42
 rw [stp1]
 simp [-Int.ofNat_lt,-Int.ofNat_le,h42,h41,l3,t2,cmp_ei,ok,colV]
theorem setA {n bs x y}:∃ (cs:List Col) (x' y':Int) (w2:Option LV),okC cs ∧
  exSs tabs (cv (n + 9)) (.cons (.assign 1 (.list .nil)) (.cons (.for_ [2] (.rng (.cons (.bin .Add (.const (.int 1)) (.call 41 (.cons (.var 0) (.cons (.const (.int 2)) .nil)))) .nil)) a50) .nil))
   ⟨[some (.val (.obj 4)),none,none,none,none,none,none,none,none,none,none,none,none,none],S4 bs x y [],false⟩=some (.next,⟨PV cs w2 none,S4 bs x' y' [],false⟩):=by
 obtain ⟨d,x1,y1,hd1,hd2,h41⟩:=@c41 (n + 8) bs x y [] 2 (by decide) (by decide)
 have l0:lsV []=some (.olist []):=rfl
 obtain ⟨c,x2,y2,w2,hc,h1⟩:=@turnA n bs x1 y1 none [] 0 (by simp)
 obtain ⟨c',x3,y3,w3,hc',h2⟩:=@turnA n bs x2 y2 w2 [c] 1 (by simp)
 simp only [List.nil_append,List.singleton_append,PV,List.map_nil,List.map_cons,List.cons_append] at h1 h2
 have hd:d=0∨d=1:=by omega
 rcases hd with rfl | rfl
 ·refine ⟨[c],x2,y2,w2,⟨by simp,by simpa using hc⟩,?_⟩
  have hr:range? [.int 1]=some [.int 0]:=rfl
  simp [-Int.ofNat_lt,-Int.ofNat_le,-x_append,l0,h41,bin_add,hr,forGo_cons,forGo_nil,h1]
 ·refine ⟨[c,c'],x3,y3,w3,⟨by simp,by simp [hc,hc']⟩,?_⟩
  have hr:range? [.int 2]=some [.int 0,.int 1]:=rfl
  simp [-Int.ofNat_lt,-Int.ofNat_le,-x_append,l0,h41,bin_add,hr,forGo_cons,forGo_nil,h1,h2]
theorem setB {n bs x y cs x2}:∃ (size x' y':Int),1≤size ∧
  exS tabs (cv (n + 9)) (.assign 3 (.call 42 (.cons (.var 0) (.cons (.list (.cons (.const (.int 1)) (.cons (.const (.int 2)) (.cons (.const (.int 3)) (.cons (.const (.int 6)) (.cons (.const (.int 64)) .nil)))))) .nil)))) ⟨PV cs x2 none,S4 bs x y [],false⟩
   = some (.next,⟨PV cs x2 (some (.val (.int size))),S4 bs x' y' [],false⟩):=by
 obtain ⟨v,hv,x1,y1,h42⟩:=@c42 (n + 7) bs x y [] [.int 1,.int 2,.int 3,.int 6,.int 64] (by simp) (by simp)
 obtain ⟨s,hs,rfl⟩:∃ s:Int,1≤s∧v=.int s:=by
  simp only [List.mem_cons,List.not_mem_nil,or_false] at hv
  rcases hv with rfl | rfl | rfl | rfl | rfl <;> exact ⟨_,by decide,rfl⟩
 refine ⟨s,x1,y1,hs,?_⟩
 have l5:∀ a b c d e,lsV [a,b,c,d,e]=some (.olist [a,b,c,d,e]):=λa b c d e=>rfl
 simp [-Int.ofNat_lt,-Int.ofNat_le,l5,h42]
theorem tup_l {l:List Val} (h:l.length≤1000000):biop .tuple [.list l]=some (.val (.tuple l)):=if_pos (okLen_t h)
theorem c22 {n a b sl A B} {o0 o1 o2 o3:SObj} (hab:A.length=B.length) (hl:A.length≤10) (ha:a=Val.list A) (hb:b=Val.list B):cv (n + 1) 22 [.obj 5,a,b] false [o0,o1,o2,o3,sl,.inst 0 []]
  = some (.val .none,[o0,o1,o2,o3,sl,.inst 0 [(0,.val (.tuple A)),(1,.val (.tuple B))]]):=by
 subst ha hb
 have lA:A.length≤1000000:=up hl rfl
 have lB:B.length≤1000000:=by rw [←hab]; exact lA
 rw [cv22]
 exact (congrArg (fin false) (x_nx (ite_n (σ':=⟨[some (.val (.obj 5)),some (.val (.list A)),some (.val (.list B))],[o0,o1,o2,o3,sl,.inst 0 []],false⟩) (cmp_e' (x:=.val (.int A.length)) (y:=.val (.int B.length)) (bi1_e (x:=.val (.list A)) rfl (len_li lA)) (bi1_e (x:=.val (.list B)) rfl (len_li lB)) cmp_ni) (congrArg (λb=>some (!b)) (decide_eq_true (congrArg Int.ofNat hab))))
  (x_nx (setAttr_e (k:=5) (x:=.val (.tuple A)) (σ':=⟨[some (.val (.obj 5)),some (.val (.list A)),some (.val (.list B))],[o0,o1,o2,o3,sl,.inst 0 []],false⟩) (bi1_e (x:=.val (.list A)) rfl (tup_l lA)) rfl rfl)
  (x_nx (setAttr_e (k:=5) (x:=.val (.tuple B)) (σ':=⟨[some (.val (.obj 5)),some (.val (.list A)),some (.val (.list B))],[o0,o1,o2,o3,sl,.inst 0 [(0,.val (.tuple A))]],false⟩) (bi1_e (x:=.val (.list B)) rfl (tup_l lB)) rfl rfl) rfl)))).trans fin_next
theorem c31 {n bs src cs} {size:Int}:cv (n + 1) 31 [.obj 6,.obj 5,.int size] false [bs.o0,bs.o1,bs.o2,bs.o3,.slist src,kiObj cs,.inst 1 []]
  = some (.val .none,W bs src cs (sO cs size [] [] 0 (.olist []) 0)):=cv31.trans rfl
theorem compA {cf st} {cs:List Col} {v0 v2 v3 v4 v5 v6 v7 v8 v9 v11 v12 v13}:∃ a,compGo (compStep [10] (evE tabs cf (.const (.bool true))) (evE tabs cf (.sub (.var 10) (.const (.int 0))))) (cs.map colV) ⟨[v0,some (.val (.list (cs.map colV))),v2,v3,v4,v5,v6,v7,v8,v9,none,v11,v12,v13],st,false⟩
  = some (cs.map λc=>.str c.1,⟨[v0,some (.val (.list (cs.map colV))),v2,v3,v4,v5,v6,v7,v8,v9,a,v11,v12,v13],st,false⟩) :=
 @compGo_mb Col (Option LV) (compStep [10] (evE tabs cf (.const (.bool true))) (evE tabs cf (.sub (.var 10) (.const (.int 0)))))
  (λy=>⟨[v0,some (.val (.list (cs.map colV))),v2,v3,v4,v5,v6,v7,v8,v9,y,v11,v12,v13],st,false⟩) colV (λc=>.str c.1) cs (by
  intro c _ y
  refine ⟨some (.val (colV c)),?_⟩
  rw [cstep_true,bind1]
  have s:subv (colV c) (.int 0)=some (.str c.1):=rfl
  exact kcs_some (z:=.val (.str c.1)) (by simp [-Int.ofNat_lt,-Int.ofNat_le,s])) none
theorem compB {cf st} {cs:List Col} {v0 v2 v3 v4 v5 v6 v7 v8 v9 v10 v12 v13}:∃ a,compGo (compStep [11] (evE tabs cf (.const (.bool true))) (evE tabs cf (.sub (.var 11) (.const (.int 1))))) (cs.map colV) ⟨[v0,some (.val (.list (cs.map colV))),v2,v3,v4,v5,v6,v7,v8,v9,v10,none,v12,v13],st,false⟩
  = some (cs.map λc=>.bool c.2,⟨[v0,some (.val (.list (cs.map colV))),v2,v3,v4,v5,v6,v7,v8,v9,v10,a,v12,v13],st,false⟩) :=
 @compGo_mb Col (Option LV) (compStep [11] (evE tabs cf (.const (.bool true))) (evE tabs cf (.sub (.var 11) (.const (.int 1)))))
  (λy=>⟨[v0,some (.val (.list (cs.map colV))),v2,v3,v4,v5,v6,v7,v8,v9,v10,y,v12,v13],st,false⟩) colV (λc=>.bool c.2) cs (by
  intro c _ y
  refine ⟨some (.val (colV c)),?_⟩
  rw [cstep_true,bind1]
  have s:subv (colV c) (.int 1)=some (.bool c.2):=rfl
  exact kcs_some (z:=.val (.bool c.2)) (by simp [-Int.ofNat_lt,-Int.ofNat_le,s])) none
noncomputable abbrev QVV (cs:List Col) (x2:Option LV) (size:Int):List (Option LV):=[some (.val (.obj 4)),some (.val (.list (cs.map colV))),x2,some (.val (.int size)),some (.val (.obj 6)),none,none,none,none,none,none,none,none,none]
theorem setC {n bs x y cs x2 size} (hc:okC cs):exS tabs (cv (n + 9)) (.assign 4 (.new 1 (.cons (.new 0 (.cons (.comp (.sub (.var 10) (.const (.int 0))) [10] (.ex (.var 1)) (.const (.bool true))) (.cons (.comp (.sub (.var 11) (.const (.int 1))) [11] (.ex (.var 1)) (.const (.bool true))) .nil))) (.cons (.var 3) .nil)))) ⟨PV cs x2 (some (.val (.int size))),S4 bs x y [],false⟩
  = some (.next,⟨QVV cs x2 size,W bs [.int x,.int y] cs (sO cs size [] [] 0 (.olist []) 0),false⟩):=by
 have hl:=hc.1
 obtain ⟨a,hA⟩:=@compA (cv (n + 9)) (S4 bs x y []) cs (some (.val (.obj 4))) x2 (some (.val (.int size))) none none none none none none none none none
 obtain ⟨b,hB⟩:=@compB (cv (n + 9)) (S4 bs x y []) cs (some (.val (.obj 4))) x2 (some (.val (.int size))) none none none none none none none none none
 have ok:okLen (cs.map colV).length=true:=okLen_t (by simp; omega)
 have h22:=@c22 (n + 8) (.list (cs.map λc=>.str c.1)) (.list (cs.map λc=>.bool c.2)) (.slist [.int x,.int y]) (cs.map λc=>.str c.1) (cs.map λc=>.bool c.2) bs.o0 bs.o1 bs.o2 bs.o3 (by simp) (by simp; omega) rfl rfl
 have h31:=@c31 (n + 8) bs [.int x,.int y] cs size
 have hit:∀ l,items? (.list l)=some l:=λl=>rfl
 simp only [kiObj] at h31
 simp only [S4] at hA hB
 simp only [x_assign,e_new,es_cons,es_nil,e_compE,e_var,st_get,gv_zero,gv_succ,st_set,List.getElem?_cons_zero,List.getElem?_cons_succ,Option.join_some,rv_olist,rv_val,List.set_cons_zero,List.set_cons_succ,kit_some,frz_val,hit,lI_some,kcomp_some,ok,if_true,hA,hB,kcompB_some,unset,List.foldl_cons,List.foldl_nil,kcons_some,kconsB_some,frz_olist,ti0,ti1,PV,S4,knew_some,List.cons_append,List.nil_append,List.length_cons,List.length_nil,Nat.zero_add,Nat.reduceAdd,h22,knewB_some,h31,ka_some,sA_def]
noncomputable abbrev t50:MSs:=(.cons (.assign 9 (.comp (.call 47 (.cons (.var 0) .nil)) [13] (.ex (.var 1)) (.const (.bool true)))) (.cons (.expr (.meth (.var 4) 32 (.cons (.call 18 (.cons (.var 9) .nil)) .nil))) (.cons (.ret (.call 49 (.cons (.var 4) (.cons (.bin .Add (.var 5) (.list (.cons (.var 9) .nil))) (.cons (.var 1) .nil))))) .nil)))
theorem tail50 {n bs x y cs x2 size A Q wt x8 all R T pl} (hc:okC cs) (hrow:∀ q∈all,RowC cs q.1) (hg:Grw all) (hnum:∀ q∈all,q.2 < all.length) (hl:all.length≤40) (hA:A=all.map (·.1))
  (hp:R.flatten.Perm all) (hR:R.length≤1) (hs:∀ r∈R,Srt cs r) :
  ∃ st,fin false (exSs tabs (cv (n + 9)) t50 ⟨VV cs x2 size A Q wt x8 none,W bs [.int x,.int y] cs (sO cs size [] R all.length T pl),false⟩)=some (.val (.bool true),st):=by
 obtain ⟨vs,⟨z,x',y'⟩,hlen,hvs,h⟩:=@compGo_ex (Option LV×Int×Int) (compStep [13] (evE tabs (cv (n + 9)) (.const (.bool true))) (evE tabs (cv (n + 9)) (.call 47 (.cons (.var 0) .nil))))
  (λs=>⟨[some (.val (.obj 4)),some (.val (.list (cs.map colV))),x2,some (.val (.int size)),some (.val (.obj 6)),some (.val (.list (rowsV A))),some (.val (.list (QV Q))),some (.val (.list (rowsV wt))),x8,none,none,none,none,s.1],W bs [.int s.2.1,.int s.2.2] cs (sO cs size [] R all.length T pl),false⟩) (·∈menu)
  (cs.map colV) (by
  intro i _ s
  obtain ⟨v,hv,x',y',h⟩:=@c47 (n + 6) bs s.2.1 s.2.2 [kiObj cs,sO cs size [] R all.length T pl]
  exact ⟨v,(some (.val i),x',y'),hv,(cstep_true.trans (congrArg (λo=>kcs o _) bind1)).trans (kcs_some (call_e (vs:=[.obj 4]) (σ':=⟨[some (.val (.obj 4)),some (.val (.list (cs.map colV))),x2,some (.val (.int size)),some (.val (.obj 6)),some (.val (.list (rowsV A))),some (.val (.list (QV Q))),some (.val (.list (rowsV wt))),x8,none,none,none,none,some (.val i)],W bs [.int s.2.1,.int s.2.2] cs (sO cs size [] R all.length T pl),false⟩) rfl tc47 h))⟩) (none,x,y)
 rw [List.length_map] at hlen
 have hr:RowC cs vs:=⟨⟨⟨by rw [hlen]; exact hc.1.1,by rw [hlen]; exact Nat.le_succ_of_le hc.1.2⟩,hvs⟩,Nat.le_of_eq hlen.symm⟩
 obtain ⟨G2,R2,h32,hcase⟩:=@c32 (n + 1) bs [.int x',.int y'] cs size [] R all.length T pl vs hc hr (Nat.le_of_ble_eq_true rfl) (List.pairwise_singleton _ _) (up hR rfl)
 have h3:(R2.flatten ++ G2).Perm (all ++ [(vs,all.length)])∧(∀ r∈R2,Srt cs r)∧R2.length≤2:=by
  rcases hcase with ⟨_,rfl,m,rfl,hm,hmp⟩ | ⟨_,rfl,rfl⟩
  ·refine ⟨?_,λr hr=>?_,app_l1 hR⟩
   ·rw [List.append_nil,List.flatten_append,List.flatten_cons,List.flatten_nil,List.append_nil]
    exact hp.append hmp
   ·rcases List.mem_append.1 hr with hr | hr
    ·exact hs r hr
    ·rw [List.mem_singleton.1 hr]; exact hm
  ·exact ⟨hp.append_right _,hs,Nat.le_succ_of_le hR⟩
 obtain ⟨R3,T3,pl3,h49,_⟩:=@c49 n bs [.int x',.int y'] cs size G2 R2 (all.length + 1) T pl (all ++ [(vs,all.length)]) hc (by
   intro q hq
   rcases List.mem_append.1 hq with hq | hq
   ·exact hrow q hq
   ·rw [List.mem_singleton.1 hq]; exact hr) (by
   refine List.pairwise_append.2 ⟨hg,List.pairwise_singleton _ _,λa ha b hb=>?_⟩
   rw [List.mem_singleton.1 hb]; exact hnum a ha) (up (app_l1 hl) rfl) h3.1 h3.2.1 (up h3.2.2 rfl)
 clear hcase h3 hp hs hnum hg hrow
 have eA:(all ++ [(vs,all.length)]).map (·.1)=A ++ [vs]:=by rw [List.map_append,hA]; rfl
 rw [eA] at h49
 have lA:A.length≤40:=by rw [hA,List.length_map]; exact hl
 have a1:binop .Add (.list (rowsV A)) (.list [.list vs])=some (.olist (rowsV (A ++ [vs]))):=by
  rw [bin_addl (by rw [rowsV,List.length_map]; exact up (Nat.succ_le_succ lA) rfl),rowsV,rowsV,List.map_append]; rfl
 have e1:exS tabs (cv (n + 9)) (.assign 9 (.comp (.call 47 (.cons (.var 0) .nil)) [13] (.ex (.var 1)) (.const (.bool true)))) ⟨VV cs x2 size A Q wt x8 none,W bs [.int x,.int y] cs (sO cs size [] R all.length T pl),false⟩
   = some (.next,⟨VV cs x2 size A Q wt x8 (some (.olist vs)),W bs [.int x',.int y'] cs (sO cs size [] R all.length T pl),false⟩) :=
  asg_e (x:=.olist vs) (compE_e (x:=.val (.list (cs.map colV))) rfl rfl (by rw [List.length_map]; exact up hc.1.2 rfl) h)
 have e2:exS tabs (cv (n + 9)) (.expr (.meth (.var 4) 32 (.cons (.call 18 (.cons (.var 9) .nil)) .nil))) ⟨VV cs x2 size A Q wt x8 (some (.olist vs)),W bs [.int x',.int y'] cs (sO cs size [] R all.length T pl),false⟩
   = some (.next,⟨VV cs x2 size A Q wt x8 (some (.val (.list vs))),W bs [.int x',.int y'] cs (sO cs size G2 R2 (all.length + 1) T pl),false⟩) :=
  expr_e (meth_e (k:=6) (σ1:=⟨VV cs x2 size A Q wt x8 (some (.olist vs)),W bs [.int x',.int y'] cs (sO cs size [] R all.length T pl),false⟩) (σ2:=⟨VV cs x2 size A Q wt x8 (some (.val (.list vs))),W bs [.int x',.int y'] cs (sO cs size [] R all.length T pl),false⟩) rfl rfl tc32
   (es1_e (x:=.val (.bytes (enc vs))) (call_e (vs:=[.list vs]) (σ':=⟨VV cs x2 size A Q wt x8 (some (.val (.list vs))),W bs [.int x',.int y'] cs (sO cs size [] R all.length T pl),false⟩) rfl tc18 (@c18 (n + 3) false _ vs hr.1))) h32)
 exact ⟨_,fin_r (x_nx e1 (x_nx e2 (x_rt (ret_e (call_e (vs:=[.obj 6,.list (rowsV (A ++ [vs])),.list (cs.map colV)]) (σ':=⟨VV cs x2 size A Q wt x8 (some (.val (.list vs))),W bs [.int x',.int y'] cs (sO cs size G2 R2 (all.length + 1) T pl),false⟩)
  (es3_e (x:=.val (.obj 6)) (y:=.olist (rowsV (A ++ [vs]))) (z:=.val (.list (cs.map colV))) rfl (bin_e (x:=.val (.list (rowsV A))) (y:=.olist [.list vs]) rfl rfl a1) rfl) tc49 h49)))))⟩
noncomputable abbrev m50:MSs:=.cons (.assignT [5,6,7] (.tuple (.cons (.list .nil) (.cons (.list .nil) (.cons (.list .nil) .nil))))) (.cons (.for_ [2] (.rng (.cons (.call 41 (.cons (.var 0) (.cons (.const (.int 9)) .nil))) .nil)) B50) (.cons (.ite (.or (.not (.call 48 (.cons (.var 4) (.cons (.var 6) (.cons (.var 7) (.cons (.var 1) .nil)))))) (.not (.call 49 (.cons (.var 4) (.cons (.var 5) (.cons (.var 1) .nil)))))) (.cons (.ret (.const (.bool false))) .nil) .nil) t50))
theorem mid50 {n bs x y cs x2 size} (hc:okC cs) (hs:1≤size) :
  ∃ st,fin false (exSs tabs (cv (n + 9)) m50 ⟨QVV cs x2 size,W bs [.int x,.int y] cs (sO cs size [] [] 0 (.olist []) 0),false⟩)=some (.val (.bool true),st):=by
 obtain ⟨d,x1,y1,hd1,hd2,h41⟩:=@c41 (n + 8) bs x y [kiObj cs,sO cs size [] [] 0 (.olist []) 0] 9 (by decide) (by decide)
 have hr:range? [.int d]=some (((List.range d.toNat).map λ(k:Nat)=>(0:Int) + k).map .int):=by
  have m:mid d=true:=by clear h41; simp [mid_eq]; omega
  simp only [qr1,qr2,qr3,m,if_true,rngFrom_eq,List.map_map]
  rfl
 have hxl:((List.range d.toNat).map λ(k:Nat)=>(0:Int) + k).length≤8:=by
  rw [List.length_map,List.length_range]; clear hr h41; omega
 clear hd1 hd2
 generalize (List.range d.toNat).map (λ(k:Nat)=>(0:Int) + k)=xs at hr hxl
 have hi0:Inv cs [] [] [] [] [] [] 0 0:=⟨List.forall_mem_nil _,List.Pairwise.nil,List.forall_mem_nil _,Nat.le_refl 0,Nat.le_refl 0,List.Perm.refl _,List.forall_mem_nil _,rfl,rfl,List.Pairwise.nil,rfl,List.forall_mem_nil _,List.forall_mem_nil _⟩
 obtain @⟨x',y',all,G,R,A,Q,wt,w2,w8,hlp,hi,hlt⟩:=@loop50 n bs cs size (.olist []) 0 hc xs x1 y1 x2 [] [] [] none [] [] [] 0 0 hi0 (by omega) (by omega) (Int.lt_of_lt_of_le (by decide) hs)
 have hk:all.length≤8:=Nat.le_trans hi.len (by omega)
 have hj:R.length≤16:=Nat.le_trans hi.runs (by omega)
 have hGl:G.length≤8:=Nat.le_trans hi.lenG (by omega)
 have h48:=@c48 (n + 2) bs [.int x',.int y'] cs size R all.length (.olist []) 0 G Q wt hc (λq hq=>Nat.le_trans (hi.Qlen q hq) (by omega)) hi.Qrow (by
   intro r hr
   rw [←hi.eqG] at hr
   obtain ⟨p,hp,rfl⟩:=List.mem_map.1 hr
   exact hi.row p (hi.memG p hp)) (Nat.le_trans (Nat.le_of_eq hi.wtl) (up hGl rfl)) (by
   intro r hr
   have h2:=hi.perm.length_eq
   rw [List.length_append] at h2
   exact Nat.le_trans (mem_len hr) (Nat.le_trans (Nat.le_trans (Nat.le_add_right _ _) (Nat.le_of_eq h2)) (up hk rfl))) (up hj rfl) hi.eqR hi.eqG
 change cv _ 48 [_,.list (QV Q),_,_] _ _=_ at h48
 obtain ⟨R2,T2,pl2,h49,hp2,hR2,hs2⟩:=@c49 n bs [.int x',.int y'] cs size G R all.length (.olist []) 0 all hc hi.row hi.grw (up hk rfl) hi.perm hi.srt (up hj rfl)
 rw [←hi.eqA] at h49
 obtain ⟨st,ht⟩:=@tail50 n bs x' y' cs w2 size A Q wt w8 all R2 T2 pl2 hc hi.row hi.grw hi.num (up hk rfl) hi.eqA hp2 hR2 hs2
 refine ⟨st,?_⟩
 rw [←ht]
 refine congrArg (fin false) (x_nx (σ':=⟨VV cs x2 size [] [] [] none none,W bs [.int x,.int y] cs (sO cs size [] [] 0 (.olist []) 0),false⟩) rfl (x_nx (σ':=⟨VV cs w2 size A Q wt w8 none,W bs [.int x',.int y'] cs (sO cs size G R all.length (.olist []) 0),false⟩) ?_ (x_nx ?_ rfl)))
 ·simp only [x_for,i_rng,e_call,es_cons,es_nil,e_var,st_get,gv_zero,VV,rv_val,e_const,tc41,kcons_some,kconsB_some,kes_some,kcall_some,frz_val,h41,kcf_some,krng_some,pr_some,hr,lI_some,kfor_some]
  exact hlp
 ·simp [-Int.ofNat_lt,-Int.ofNat_le,h48,h49]
theorem c50 {n bs x y}:∃ st,cv (n + 10) 50 [.obj 4] false (S4 bs x y [])=some (.val (.bool true),st):=by
 obtain ⟨cs,x1,y1,w2,hc,hA⟩:=@setA n bs x y
 obtain ⟨size,x2,y2,hs,hB⟩:=@setB n bs x1 y1 cs w2
 have hC:=@setC n bs x2 y2 cs w2 size hc
 obtain ⟨st,h⟩:=@mid50 n bs x2 y2 cs w2 size hc hs
 refine ⟨st,?_⟩
 rw [←h,cv50]
 refine congrArg (fin false) ?_
 unfold b50
 rw [x_two hA]
 exact x_nx hB (x_nx hC rfl)
theorem c40 {n st} {ns:List Int} (hl:ns.length≤1000):∃ a b,cv (n + 1) 40 [.list (ns.map .int),.int 0] false st=some (.olist [.int a,.int b],st):=by
 have hlen:biop .len [.list (ns.map .int)]=some (.val (.int ns.length)):=by rw [len_l (by simpa using hl),List.length_map]
 have m1:∀ a:Int,binop .Mult (.int a) (.int 48271)=some (.val (.int (a * 48271))):=λa=>bin_mul (by decide) (by decide)
 have m0:binop .Mult (.int 7919) (.int 0)=some (.val (.int 0)):=rfl
 have m2:binop .Mult (.int 0) (.int 0)=some (.val (.int 0)):=rfl
 have m3:binop .Mult (.int 31) (.int 0)=some (.val (.int 0)):=rfl
 have p:binop .Pow (.int 10) (.int 18)=some (.val (.int 1000000000000000000)):=rfl
 have md:∀ a:Int,binop .Mod (.int a) (.int 2147483629)=some (.val (.int (a % 2147483629))):=λa=>bin_mod (by decide)
 have md2:∀ a:Int,binop .Mod (.int a) (.int 2147483647)=some (.val (.int (a % 2147483647))):=λa=>bin_mod (by decide)
 have mx:∀ a b:Int,biop .max2 [.int a,.int b]=some (.val (.int (if a < b then b else a))):=λa b=>rfl
 have ib:∀ b:Bool,biop .int [.bool b]=some (.val (.int (if b then 1 else 0))):=λb=>rfl
 have l2:∀ a b:Val,lsV [a,b]=some (.olist [a,b]):=λa b=>rfl
 have mb:∀ (a:Int) (b:Bool),binop .Mult (.int a) (.int (if b then 1 else 0))=some (.val (.int (a * (if b then 1 else 0)))):=λa b=>by
  cases b <;> exact bin_mul (by decide) (by decide)
 have key:∀ i:Int,∃ a b,fin false (exSs tabs (cv n) (.cons (.assign 3 (.bi .max2 (.cons (.bi .int (.cons (.var 2) .nil)) (.cons (.bi .int (.cons (.bin .Sub (.neg (.const (.int 1))) (.var 2)) .nil)) .nil)))) (.cons (.assign 4 (.bin .Mod (.bi .int (.cons (.bin .Mult (.bin .Add (.bin .Add (.bin .Add (.bin .Mod (.bi .int (.cons (.var 3) .nil)) (.const (.int 2147483629))) (.bin .Mult (.bin .Mult (.const (.int 7919)) (.var 1)) (.var 1))) (.bin .Mult (.const (.int 31)) (.var 1))) (.const (.int 17))) (.const (.int 48271))) .nil)) (.const (.int 2147483647)))) (.cons (.ret (.list (.cons (.bin .Mult (.var 3) (.bi .int (.cons (.cmp .GtE (.var 3) (.bin .Pow (.const (.int 10)) (.const (.int 18)))) .nil))) (.cons (.var 4) .nil)))) .nil)))
   ⟨[some (.val (.list (ns.map .int))),some (.val (.int 0)),some (.val (.int i)),none,none],st,false⟩)=some (.olist [.int a,.int b],st):=by
  intro i
  obtain ⟨q,hq⟩:∃ q,(if i < -1 - i then -1 - i else i)=q:=⟨_,rfl⟩
  refine ⟨q * (if decide (1000000000000000000≤q) then 1 else 0),(q % 2147483629 + 17) * 48271 % 2147483647,?_⟩
  have mx':=mx i (-1 - i)
  rw [hq] at mx'
  simp only [x_cons,x_nil,x_assign,x_ret,e_bi,es_cons,es_nil,e_var,e_const,e_neg,e_bin,e_cmp,e_list,st_get,gv_zero,gv_succ,st_set,List.getElem?_cons_zero,List.getElem?_cons_succ,Option.join_some,rv_val,List.set_cons_zero,List.set_cons_succ,frz_val,kcons_some,kconsB_some,kes_some,pr_some,k1_some,k2_some,k2b_some,ng_int,bin_sub,bin_add,bi_int,mx',ka_some,sA_def,sq_next,md,md2,m0,m1,m2,m3,p,cmp_ge,co_def,bB_some,ib,mb,l2,Int.add_zero,sR_def,sq_ret,fin_ret]
 have hb:b40=.cons (.assign 2 (.const (.int 0))) (.cons (.ite (.cmp .Lt (.var 1) (.bi .len (.cons (.var 0) .nil))) (.cons (.assign 2 (.sub (.var 0) (.var 1))) .nil) .nil) (.cons (.assign 3 (.bi .max2 (.cons (.bi .int (.cons (.var 2) .nil)) (.cons (.bi .int (.cons (.bin .Sub (.neg (.const (.int 1))) (.var 2)) .nil)) .nil)))) (.cons (.assign 4 (.bin .Mod (.bi .int (.cons (.bin .Mult (.bin .Add (.bin .Add (.bin .Add (.bin .Mod (.bi .int (.cons (.var 3) .nil)) (.const (.int 2147483629))) (.bin .Mult (.bin .Mult (.const (.int 7919)) (.var 1)) (.var 1))) (.bin .Mult (.const (.int 31)) (.var 1))) (.const (.int 17))) (.const (.int 48271))) .nil)) (.const (.int 2147483647)))) (.cons (.ret (.list (.cons (.bin .Mult (.var 3) (.bi .int (.cons (.cmp .GtE (.var 3) (.bin .Pow (.const (.int 10)) (.const (.int 18)))) .nil))) (.cons (.var 4) .nil)))) .nil)))):=rfl
 cases ns with
 | nil =>
  obtain ⟨a,b,h⟩:=key 0
  refine ⟨a,b,?_⟩
  rw [←h,cv40,hb]
  exact congrArg (fin false) (x_nx (σ':=⟨[some (.val (.list [])),some (.val (.int 0)),some (.val (.int 0)),none,none],st,false⟩) rfl (x_nx (σ':=⟨[some (.val (.list [])),some (.val (.int 0)),some (.val (.int 0)),none,none],st,false⟩) rfl rfl))
 | cons i r =>
  obtain ⟨a,b,h⟩:=key i
  refine ⟨a,b,?_⟩
  rw [←h,cv40,hb]
  have hs:subv (.list ((i :: r).map .int)) (.int 0)=some (.int i):=subv_at (i:=0) (by rw [List.length_map]; exact hl) rfl
  exact congrArg (fin false) (x_nx (σ':=⟨[some (.val (.list ((i :: r).map .int))),some (.val (.int 0)),some (.val (.int 0)),none,none],st,false⟩) rfl
   (x_nx ((ite_t (σ':=⟨[some (.val (.list ((i :: r).map .int))),some (.val (.int 0)),some (.val (.int 0)),none,none],st,false⟩) (cmp_e' (x:=.val (.int 0)) (y:=.val (.int (i :: r).length)) rfl (bi1_e (x:=.val (.list ((i :: r).map .int))) rfl hlen) cmp_lt) (congrArg some (decide_eq_true (Int.ofNat_lt.2 (Nat.zero_lt_succ _))))).trans
    (x_nx (asg_e (x:=.val (.int i)) (sub_e (x:=.val (.list ((i :: r).map .int))) (y:=.val (.int 0)) rfl rfl hs)) rfl)) rfl))
noncomputable def app:MSs→MSs→MSs
 | .nil,r=>r
 | .cons a b,r=>.cons a (app b r)
theorem x_app {T cf r}:∀ (a:MSs) {σ σ':St},exSs T cf a σ=some (.next,σ')→exSs T cf (app a r) σ=exSs T cf r σ'
 | .nil,σ,σ',h=>by rw [x_nil] at h; cases h; rfl
 | .cons s b,σ,σ',h=>by
  rw [x_cons] at h
  exact sqn_e h λσ1 h1 h2=>by
   rw [app,x_cons,h1,sq_next]
   exact x_app b h2
noncomputable def p51:MSs:=(.cons (.assign 1 (.new 1 (.cons (.new 0 (.cons (.list (.cons (.const (.str [98,105,110,97,114,121])) .nil)) (.cons (.list (.cons (.const (.bool false)) .nil)) .nil))) .nil))) (.cons (.expr (.meth (.var 1) 32 (.cons (.call 18 (.cons (.list (.cons (.const (.int 1)) .nil)) .nil)) .nil))) (.cons (.expr (.meth (.var 1) 33 .nil)) (.cons (.ite (.or (.not (.call 49 (.cons (.var 1) (.cons (.list (.cons (.list (.cons (.const (.int 1)) .nil)) .nil)) (.cons (.list (.cons (.tuple (.cons (.const (.str [98,105,110,97,114,121])) (.cons (.const (.bool false)) .nil))) .nil)) .nil))))) (.not (.call 48 (.cons (.var 1) (.cons (.list (.cons (.list (.cons (.list (.cons (.const (.int 1)) .nil)) .nil)) .nil)) (.cons (.list .nil) (.cons (.list (.cons (.tuple (.cons (.const (.str [98,105,110,97,114,121])) (.cons (.const (.bool false)) .nil))) .nil)) .nil))))))) (.cons (.ret (.const (.bool false))) .nil) .nil) (.cons (.assignT [2,3] (.tuple (.cons (.list (.cons (.tuple (.cons (.const (.str [110,111,99,97,115,101])) (.cons (.const (.bool true)) .nil))) .nil)) (.cons (.list (.cons (.list (.cons (.const (.str [98])) (.cons (.const (.int 1)) .nil))) (.cons (.list (.cons (.const (.str [65])) (.cons (.const (.int 2)) .nil))) (.cons (.list (.cons (.const (.str [97])) (.cons (.const (.int 3)) .nil))) (.cons (.list (.cons (.const (.str [99])) (.cons (.const (.int 4)) .nil))) .nil))))) .nil)))) (.cons (.assign 1 (.new 1 (.cons (.new 0 (.cons (.list (.cons (.const (.str [110,111,99,97,115,101])) .nil)) (.cons (.list (.cons (.const (.bool true)) .nil)) .nil))) (.cons (.const (.int 2)) .nil)))) (.cons (.for_ [4] (.ex (.var 3)) (.cons (.expr (.meth (.var 1) 32 (.cons (.call 18 (.cons (.var 4) .nil)) .nil))) (.cons (.ite (.cmp .Eq (.var 4) (.list (.cons (.const (.str [97])) (.cons (.const (.int 3)) .nil)))) (.cons (.expr (.meth (.var 1) 33 .nil)) .nil) .nil) .nil))) (.cons (.ite (.or (.not (.call 48 (.cons (.var 1) (.cons (.list (.cons (.slc (.var 3) (.const .none) (.const (.int 2))) (.cons (.slc (.var 3) (.const (.int 2)) (.const (.int 3))) .nil))) (.cons (.slc (.var 3) (.const (.int 3)) (.const .none)) (.cons (.var 2) .nil)))))) (.not (.call 49 (.cons (.var 1) (.cons (.var 3) (.cons (.var 2) .nil)))))) (.cons (.ret (.const (.bool false))) .nil) .nil) .nil))))))))
noncomputable abbrev r51:MSs:=(.cons (.ret (.call 50 (.cons (.share (.call 40 (.cons (.var 0) (.cons (.const (.int 0)) .nil)))) .nil))) .nil)
theorem b51_eq:b51=app p51 r51:=rfl
noncomputable def isNx:Fl→Bool
 | .next=>true
 | _=>false
noncomputable def sh5:Option (Fl×St)→Bool
 | none=>false
 | some p=>isNx p.1 && (p.2.vars.length == 5 && (p.2.store.length == 4 && p.2.ro == false))
noncomputable def v5:Option (Fl×St)→Option LV
 | some (_,⟨v :: _,_,_⟩)=>v
 | _=>none
noncomputable def hdd {α:Type} (d:α) (l:List α):α:=l.headD d
noncomputable def tll {α:Type} (l:List α):List α:=l.tail
noncomputable def pad {α:Type} (d:α):Nat→List α→List α
 | 0,_=>[]
 | n + 1,l=>hdd d l :: pad d n (tll l)
theorem pad_eq {α:Type} {d:α} {n:Nat}:∀ {l:List α},l.length=n→l=pad d n l:=by
 induction n with
 | zero=>exact λh=>List.length_eq_zero_iff.mp h
 | succ n ih =>
  intro l h
  cases l with
  | nil=>cases h
  | cons a r=>exact congrArg (List.cons a) (ih (Nat.succ.inj h))
theorem nx_eq {q} (h:isNx q=true):q=.next:=by
 cases q with
 | next=>rfl
 | ret=>cases h
theorem sh5_inv {X} (h:sh5 X=true):∃ v s,X=some (.next,⟨pad none 5 v,pad (.slist []) 4 s,false⟩):=by
 cases X with
 | none=>cases h
 | some p =>
  have h1:=Bool.and_eq_true_iff.mp h
  have h2:=Bool.and_eq_true_iff.mp h1.2
  have h3:=Bool.and_eq_true_iff.mp h2.2
  have e1:p=(p.1,⟨p.2.vars,p.2.store,p.2.ro⟩):=rfl
  exact ⟨p.2.vars,p.2.store,by rw [←pad_eq (eq_of_beq h2.1),←pad_eq (eq_of_beq h3.1),←nx_eq h1.1,←eq_of_beq h3.2]⟩
theorem pre_sh {v0}:sh5 (exSs tabs (cv 19) p51 ⟨[some (.val v0),none,none,none,none],[],false⟩)=true:=by kernel_rfl
theorem pre_v {v0}:v5 (exSs tabs (cv 19) p51 ⟨[some (.val v0),none,none,none,none],[],false⟩)=some (.val v0):=by kernel_rfl
theorem partB (ns:List Int) (hl:ns.length≤63):∃ st,Mine.callF tabs fns 20 51 [.list (ns.map .int)] false []=some (.val (.bool true),st):=by
 obtain ⟨v,s,hX⟩:=sh5_inv (@pre_sh (.list (ns.map .int)))
 have h2:hdd none v=some (.val (.list (ns.map .int))):=by
  have:=@pre_v (.list (ns.map .int))
  rwa [hX] at this
 obtain ⟨x,y,h40⟩:=@c40 18 (pad (.slist []) 4 s) ns (Nat.le_trans hl (by decide))
 obtain ⟨st,h50⟩:=@c50 9 ⟨hdd (.slist []) s,hdd (.slist []) (tll s),hdd (.slist []) (tll (tll s)),hdd (.slist []) (tll (tll (tll s)))⟩ x y
 refine ⟨st,?_⟩
 show cv (19 + 1) 51 [.list (ns.map .int)] false []=_
 rw [cv51,b51_eq,x_app p51 hX]
 simp only [pad] at h40 ⊢
 simp only [S4] at h50
 rw [h2]
 simp [-Int.ofNat_lt,-Int.ofNat_le,h40,h50]
end Mine.B
end
section
open PySem PySem.W PyProof.Rows PySem.Calls
namespace Mine
noncomputable def par31:Arguments:={ posonlyargs:=[],args:=[{ arg:="self",annotation:=none,pos:=⟨334,17,334,21⟩ },{ arg:="info",annotation:=none,pos:=⟨334,23,334,27⟩ },{ arg:="run_size",annotation:=none,pos:=⟨334,29,334,37⟩ }],vararg:=none,kwonlyargs:=[],kw_defaults:=[],kwarg:=none,defaults:=[(.Constant (.int 64) 0 ⟨334,38,334,40⟩)] }
noncomputable def dfl31 (K:Frag) (v:Value):Bool:=match v with
 | .ref T=>(match K.lookup T with
  | some ⟨_,_,.seq items _,_⟩=>(match items.toList with
   | [.int i _]=>decide (i=64)
   | _=>false)
  | _=>false)
 | _=>false
theorem dfl31_of {K:Frag} {v:Value} (h:dfl31 K v=true):∃ T o n t,v=.ref T∧K.lookup T=some o∧o.data=.seq #[.int 64 t] n:=by
 unfold dfl31 at h
 split at h
 ·rename_i T
  split at h
  ·rename_i c d items n sl e
   split at h
   ·rename_i i t he
    simp only [decide_eq_true_eq] at h
    subst h
    obtain ⟨l⟩:=items
    have he:l=[Value.int 64 t]:=he
    subst he
    exact ⟨T,_,n,t,rfl,e,rfl⟩
   ·cases h
  ·cases h
 ·cases h
theorem binds31 {K:Frag} {fd:FuncData} {T:Addr} {o:Obj} {n:Nat} {t:Tok} {s:Shared} (hp:fd.params=par31) (h1:fd.defaults=.ref T) (X:K.In s.heap) (h2:K.lookup T=some o) (h3:o.data=.seq #[.int 64 t] n) :
  (∀ u1 u2,BindsTo s fd ⟨[u1,u2],[]⟩ (((xsOf 31).take 3).zip [u1,u2,.int 64 t]))∧∀ u1 u2 u3,BindsTo s fd ⟨[u1,u2,u3],[]⟩ (((xsOf 31).take 3).zip [u1,u2,u3]):=by
 obtain ⟨name,qual,params,body,scope,globals,closure,defaults,kwd,doc,pm,ann,code,ct,blt⟩:=fd
 obtain rfl:params=_:=hp
 obtain rfl:defaults=_:=h1
 exact ⟨λu1 u2=>binds_K X rfl h2 h3 rfl (by kernel_rfl),λu1 u2 u3=>binds_K X rfl h2 h3 rfl (by kernel_rfl)⟩
theorem bind31 {K:Frag} {fd:FuncData} (hp:fd.params=par31) (hd:dfl31 K fd.defaults=true) {γ sg} {s:Shared} {vs us} (X:K.In s.heap) (R:Reps γ sg s.heap vs us) (hl:(padArgs ⟨some 1,3,3,[(.int 64)],b31⟩ vs).length=3) :
  ∃ ws,Reps γ sg s.heap (padArgs ⟨some 1,3,3,[(.int 64)],b31⟩ vs) ws∧BindsTo s fd ⟨us,[]⟩ (((xsOf 31).take 3).zip ws):=by
 obtain ⟨T,o,n,t,h1,h2,h3⟩:=dfl31_of hd
 have B:=binds31 hp h1 X h2 h3
 clear hp hd h1 h2 h3
 cases vs with
 | nil=>exact absurd hl (by decide)
 | cons a vs=>cases vs with
  | nil=>exact absurd (show (2:Nat)=3 from hl) (by decide)
  | cons b vs=>cases vs with
   | nil =>
    obtain ⟨u1,u2,rfl,r1,r2⟩:=R.inv2
    exact ⟨[u1,u2,.int 64 t],R.append (.cons (.int 64 t) .nil),B.1 u1 u2⟩
   | cons c vs=>cases vs with
    | nil =>
     obtain ⟨u1,u2,u3,rfl,r1,r2,r3⟩:=R.inv3
     exact ⟨[u1,u2,u3],R.append .nil,B.2 u1 u2 u3⟩
    | cons d r=>simp [padArgs] at hl
noncomputable def Each (T:Nat→Fn→Prop):Nat→List Fn→Prop
 | _,[]=>True
 | j,f :: l=>T j f∧Each T (j + 1) l
theorem Each.get {T:Nat→Fn→Prop} {l:List Fn}:∀ {k},Each T k l→∀ {j fn},l[j]?=some fn→T (k + j) fn:=by
 induction l with
 | nil=>exact λ_ _ _ h=>nsm h
 | cons f l ih =>
  intro k h j fn e
  cases j with
  | zero=>exact sj e ▸ h.1
  | succ j=>exact Nat.add_right_comm k 1 j ▸ ih h.2 e
structure AllK (K:Params→Frag):Prop where
 kf:∀ P,KFacts (K P)
 nm:∀ P,nsIn (K P) mainGlobals "law"=some (some (.ref 452))
 ts:∀ P,Each (TieK (K P)) 0 fl
theorem AllK.ties {K:Params→Frag} (A:AllK K) (P:Params) (j fn) (h:fns j=some fn):TieK (K P) j fn:=Nat.zero_add j ▸ (A.ts P).get h
theorem law_walkG {K:Params→Frag} (A:AllK K) {w:World} {s:Shared} {mb:Str→Option Value} (X:(K w.params).In s.heap) (lim:s.heap.NoLimit) (hb:s.heap.Ns builtinsNs mb) (hbo:∀ x:Str,x≠"__name__"→mb x=bootBuiltins x)
  {l:Addr} {vs:List Value} {ns:List Int} (hL:s.heap.IsList l vs.toArray) (hI:IntsAre vs ns) (hlen:¬ ((63:Int) < (ns.length:Int))) {prog:Program} {Q:Value→Shared→Prop} {E:Value→Shared→Prop}
  (hQ:∀ s',s'.gens=s.gens→s'.os=s.os→(∀ b o,s.heap.get? b=some o→s'.heap.get? b=some o)→Q (.bool true) s') :
  wpN (model prog w) callerA (PySem.call (.ref 452) [.ref l]) Q E s:=by
 obtain ⟨st,hB⟩:=B.partB ns (by omega)
 exact law_walk X (A.kf w.params) (A.ties w.params) lim hb hbo hL hI hB hQ
theorem AllK.keep {K:Params→Frag} (A:AllK K) {w:World} {h:Heap} (_:(K w.params).In h):AllK K:=A
theorem all.tw17254606898529976202:True:=trivial
theorem all.tw200202858802481044:True:=trivial
theorem all.tw8195077012802928886:True:=trivial
theorem all.tw8013882960148741844:True:=trivial
theorem all.tw6454876242932287512:True:=trivial
theorem all.tw7194387735592345515:True:=trivial
theorem all.tw14865273361016292884:True:=trivial
theorem all.tw1049428468171367680:True:=trivial
theorem all.tw7401846123362224865:True:=trivial
theorem all.tw3549080812027738985:True:=trivial
theorem all.tw10223631046379920419:True:=trivial
theorem all.tw13172097402568735304:True:=trivial
theorem all.tw1104004067176372792:True:=trivial
theorem all.tw2613816272192447989:True:=trivial
theorem all.tw11757652711159077200:True:=trivial
theorem all.tw5103548895888603802:True:=trivial
theorem all.tw6585807735081681813:True:=trivial
theorem all.tw9976896545867408452:True:=trivial
theorem all.tw14274756557212989909:True:=trivial
theorem all.tw4156143147478942181:True:=trivial
theorem all.tw7317653850160689691:True:=trivial
theorem all.tw8853620348832372965:True:=trivial
theorem all.tw2110301036845581668:True:=trivial
theorem all.tw9268267526789922637:True:=trivial
theorem all.tw16548104211655598883:True:=trivial
theorem all.tw306535358961565008:True:=trivial
theorem all.tw1081408078033650336:True:=trivial
theorem all.tw2792250951161479536:True:=trivial
theorem all.tw12254430714555821875:True:=trivial
theorem all.tw5162543521180666497:True:=trivial
theorem all.tw14229981574245695772:True:=trivial
theorem all.tw1604050991321148793:True:=trivial
theorem all.tw10971250334911043752:True:=trivial
theorem all.tw281770217567036725:True:=trivial
theorem all.tw4722931859811370693:True:=trivial
theorem all.tw11180027781704252744:True:=trivial
theorem all.tw18343157571677020557:True:=trivial
theorem all.tw125183967897747985:True:=trivial
theorem all.tw15671812041987572844:True:=trivial
theorem all.tw10316705163991428254:True:=trivial
theorem all.tw4547723090059260100:True:=trivial
theorem all.tw9022205114861038860:True:=trivial
theorem all.tw10636018739910865072:True:=trivial
theorem all.tw6393532188824929214:True:=trivial
theorem all.tw7918374967389245632:True:=trivial
theorem all.tw17106608494224303150:True:=trivial
theorem all.tw15151187641303801864:True:=trivial
theorem all.tw4338314545742005754:True:=trivial
theorem all.tw4814944892674192296:True:=trivial
theorem all.tw17447734377096445370:True:=trivial
theorem all.tw5870148494974776200:True:=trivial
theorem all.tw29985565223642888:True:=trivial
theorem all.tw6189357195160471388:True:=trivial
theorem all.tw200952908838891698:True:=trivial
theorem all.tw16576222957257545530:True:=trivial
theorem all.tw14929683446248860828:True:=trivial
theorem all.tw14124840197023413450:True:=trivial
theorem all.tw18291108133853008933:True:=trivial
theorem all.tw13423135486485445016:True:=trivial
theorem all.tw4835796080096327916:True:=trivial
theorem all.tw12580110897883145167:True:=trivial
theorem all.tw14081932915414352519:True:=trivial
theorem all.tw7193976414177721783:True:=trivial
theorem all.tw12304872625307995750:True:=trivial
theorem all.tw15081044799308232511:True:=trivial
theorem all.tw4561188658046838414:True:=trivial
theorem all.tw12985212532813657682:True:=trivial
theorem all.tw11116879363250112325:True:=trivial
theorem all.tw1055662489953759920:True:=trivial
theorem all.tw5377772837010204750:True:=trivial
theorem all.tw10389294372677164839:True:=trivial
theorem all.tw11139934685464864865:True:=trivial
theorem all.tw11904431243951574334:True:=trivial
theorem all.tw2286941943676669977:True:=trivial
theorem all.tw7657994479303150727:True:=trivial
theorem all.tw5854907428364158380:True:=trivial
theorem all.tw11931918283646908614:True:=trivial
theorem all.tw5213130599944360801:True:=trivial
theorem all.tw17259241986408110582:True:=trivial
theorem all.tw16444899576201249432:True:=trivial
theorem all.tw6575127235232548739:True:=trivial
theorem all.tw4942582282674782268:True:=trivial
theorem all.tw10696458614491829572:True:=trivial
theorem all.tw1644255569911684797:True:=trivial
theorem all.tw3855190133869164905:True:=trivial
theorem all.tw8838840417862019655:True:=trivial
theorem all.tw9700507354520375304:True:=trivial
theorem all.tw3140866203998610647:True:=trivial
theorem all.tw14204109254541194217:True:=trivial
theorem all.tw4302931102428780990:True:=trivial
theorem all.tw7899379758991183832:True:=trivial
theorem all.tw2997595627926355555:True:=trivial
theorem all.tw13752750167953387420:True:=trivial
theorem all.tw8398887430952950212:True:=trivial
theorem all.tw4498182102138418894:True:=trivial
theorem all.tw6742200501135914891:True:=trivial
theorem all.tw17523770736405063376:True:=trivial
theorem all.tw11038128598146805730:True:=trivial
theorem all.tw1585303152785439333:True:=trivial
theorem all.tw10323370424266482742:True:=trivial
theorem all.tw5675193095830314289:True:=trivial
theorem all.tw13057232943065969744:True:=trivial
theorem all.tw3468823194966119755:True:=trivial
theorem all.tw3185962312253278316:True:=trivial
theorem all.tw4382491568596388571:True:=trivial
theorem all.tw11639333894188339638:True:=trivial
theorem all.tw6968176368945700982:True:=trivial
theorem all.tw15198316981687975854:True:=trivial
theorem all.tw5888963250497168203:True:=trivial
theorem all.tw15248031165874397040:True:=trivial
theorem all.tw11093295523969242068:True:=trivial
theorem all.tw8401958774316805891:True:=trivial
theorem all.tw10277526245819850656:True:=trivial
theorem all.tw14003663102062188800:True:=trivial
theorem all.tw5221675337516389627:True:=trivial
theorem all.tw3949192924188805160:True:=trivial
theorem all.tw16665526110328478529:True:=trivial
theorem all.tw9385597778382524922:True:=trivial
theorem all.tw1088589479996732829:True:=trivial
theorem all.tw884644925536651315:True:=trivial
theorem all.tw11230645906715702508:True:=trivial
theorem all.tw10073190252686323273:True:=trivial
theorem all.tw17103938086974590038:True:=trivial
theorem all.tw13960862262899742394:True:=trivial
theorem all.tw888978351763286717:True:=trivial
theorem all.tw9592678889267232940:True:=trivial
theorem all.tw14648097213134440425:True:=trivial
theorem all.tw7779866328928976063:True:=trivial
theorem all.tw13027540482245733427:True:=trivial
theorem all.tw5615934883764171431:True:=trivial
theorem all.tw5007245332940595331:True:=trivial
theorem all.tw4726450323565452186:True:=trivial
theorem all.tw5217560924200664910:True:=trivial
theorem all.tw3835962111665225711:True:=trivial
theorem all.tw10175558820241607032:True:=trivial
theorem all.tw5815207240830897808:True:=trivial
theorem all.tw13338274903956020161:True:=trivial
theorem all.tw3282140407130366615:True:=trivial
theorem all.tw16985871876413990642:True:=trivial
theorem all.tw12885334096101347146:True:=trivial
theorem all.tw18441473437031201941:True:=trivial
theorem all.tw9163178095015654352:True:=trivial
theorem all.tw8909644736058714228:True:=trivial
theorem all.tw7619113539625694710:True:=trivial
theorem all.tw898707613593260451:True:=trivial
theorem all.tw12405882331826627501:True:=trivial
theorem all.tw5781126440621211168:True:=trivial
theorem all.tw6674347012523051200:True:=trivial
theorem all.tw7957553974722075628:True:=trivial
theorem all.tw10942295900298899174:True:=trivial
theorem all.tw1075291646940621582:True:=trivial
theorem all.tw9833964599435250050:True:=trivial
theorem all.tw15076152544538823220:True:=trivial
theorem all.tw7234240908195146063:True:=trivial
theorem all.tw17468886310826310451:True:=trivial
theorem all.tw15097909243742831393:True:=trivial
theorem all.tw11961059351148515626:True:=trivial
theorem all.tw4965207536615798822:True:=trivial
theorem all.tw15926794790568321017:True:=trivial
theorem all.tw1717485560449817402:True:=trivial
theorem all.tw18440353960458814819:True:=trivial
theorem all.tw3020832510069240704:True:=trivial
theorem all.tw15541118713287057729:True:=trivial
theorem all.tw5750698986362780913:True:=trivial
theorem all.tw5555718599999811639:True:=trivial
theorem all.tw17368901067910498557:True:=trivial
theorem all.tw17292822351017121783:True:=trivial
theorem all.tw8486705261324164726:True:=trivial
theorem all.tw18369841484834026144:True:=trivial
theorem all.tw7159026401054745538:True:=trivial
theorem all.tw6176105912117767087:True:=trivial
theorem all.tw4634341240264483431:True:=trivial
theorem all.tw4899250830898163692:True:=trivial
theorem all.tw80721349811472939:True:=trivial
theorem all.tw5936211784296988740:True:=trivial
theorem all.tw4241227540667249002:True:=trivial
theorem all.tw16592893570014863828:True:=trivial
theorem all.tw8901488873923373992:True:=trivial
theorem all.tw3440317332850252569:True:=trivial
theorem all.tw6853843781069519680:True:=trivial
theorem all.tw4154878040674242839:True:=trivial
theorem all.tw5761313309558253367:True:=trivial
theorem all.tw596421839371371174:True:=trivial
theorem all.tw7855422573467142813:True:=trivial
theorem all.tw12180536567876656950:True:=trivial
theorem all.tw3737605839529819480:True:=trivial
theorem all.tw14288127532215574351:True:=trivial
theorem all.tw201708328148552895:True:=trivial
theorem all.tw10393596885623623503:True:=trivial
theorem all.tw5362506446432344171:True:=trivial
theorem all.tw3832104259330054055:True:=trivial
theorem all.tw2496985677507960046:True:=trivial
theorem all.tw7205895575636617080:True:=trivial
theorem all.tw12819504698909858696:True:=trivial
theorem all.tw10681620039792923934:True:=trivial
theorem all.tw10252965763247687682:True:=trivial
theorem all.tw9111709882147129655:True:=trivial
theorem all.tw10312239555926195531:True:=trivial
theorem all.tw2013830700403712203:True:=trivial
theorem all.tw11488495728068971930:True:=trivial
theorem all.tw10921597071642053482:True:=trivial
theorem all.tw3586251380002802234:True:=trivial
theorem all.tw14648276583578725374:True:=trivial
theorem all.tw16288533217561068507:True:=trivial
theorem all.tw15888951733556516598:True:=trivial
theorem all.tw10600613889749566790:True:=trivial
theorem all.tw9764797518255496921:True:=trivial
theorem all.tw9642480246203547912:True:=trivial
theorem all.tw4198835854440487071:True:=trivial
theorem all.tw247909236438806434:True:=trivial
theorem all.tw10856765595117590405:True:=trivial
theorem all.tw18068929663759586442:True:=trivial
theorem all.tw15451204947285891726:True:=trivial
theorem all.tw14832718209330476552:True:=trivial
theorem all.tw4801688742562958406:True:=trivial
theorem all.tw5657931515703916248:True:=trivial
theorem all.tw1734884918528286522:True:=trivial
theorem all.tw525001674005675781:True:=trivial
theorem all.tw11158953913317867288:True:=trivial
theorem all.tw10923070005692675132:True:=trivial
theorem all.tw12899656968702213925:True:=trivial
theorem all.tw12139988101201813748:True:=trivial
theorem all.tw6946980451890315270:True:=trivial
theorem all.tw9600454056292803967:True:=trivial
theorem all.tw11448872678469705673:True:=trivial
theorem all.tw9305783451064888827:True:=trivial
theorem all.tw5044639097624668846:True:=trivial
theorem all.tw9285670843845949155:True:=trivial
theorem all.tw10331167273965929257:True:=trivial
theorem all.tw7785168158365692624:True:=trivial
theorem all.tw5440085390276978291:True:=trivial
theorem all.tw8007103614756019116:True:=trivial
theorem all.tw16739844878667351699:True:=trivial
theorem all.tw16747629065405408630:True:=trivial
theorem all.tw8857914048673524507:True:=trivial
theorem all.tw12784588452913835247:True:=trivial
theorem all.tw17590515576409907731:True:=trivial
theorem all.tw15284455985751111415:True:=trivial
theorem all.tw44263415142174766:True:=trivial
theorem all.tw4350801690150286559:True:=trivial
theorem all.tw15968848678202421516:True:=trivial
theorem all.tw2000609977361463965:True:=trivial
theorem all.tw9743695723290020096:True:=trivial
theorem all.tw13135058765949404771:True:=trivial
theorem all.tw17899929404969355535:True:=trivial
theorem all.tw948912236611943856:True:=trivial
theorem all.tw15766547542915688834:True:=trivial
theorem all.tw4831860214510110302:True:=trivial
theorem all.tw14955511245280216411:True:=trivial
theorem all.tw16987476370533704557:True:=trivial
theorem all.tw5927061715728957476:True:=trivial
theorem all.tw68815829978753266:True:=trivial
theorem all.tw13132907815185506690:True:=trivial
theorem all.tw15651733941924773997:True:=trivial
theorem all.tw342855998233553847:True:=trivial
theorem all.tw2479237469882504799:True:=trivial
theorem all.tw9526568234960664165:True:=trivial
theorem all.tw13492395982464255480:True:=trivial
theorem all.tw13370487131934946175:True:=trivial
theorem all.tw7654578318931278690:True:=trivial
theorem all.tw3153289441736887298:True:=trivial
theorem all.tw17772726858579744284:True:=trivial
theorem all.tw1639981616727947583:True:=trivial
theorem all.tw14099800850047386279:True:=trivial
theorem all.tw12512054102949984058:True:=trivial
theorem all.tw8108845850537571710:True:=trivial
theorem all.tw14539000326390715668:True:=trivial
theorem all.tw13930999109560414629:True:=trivial
theorem all.tw10677670038743541358:True:=trivial
theorem all.tw12381699962588209086:True:=trivial
theorem all.tw11242623580682996947:True:=trivial
set_option Elab.async true in
set_option maxHeartbeats 8000000 in
theorem all:PySem.Challenge.rw_xw0237_01.Holds:=by
 w_on
 o_law
 k_head
 (case hw=>w_witness2)
 refine' (λ(hA:AllK _)=>?rest) ⟨?kf,?nm,?ts⟩
 case rest =>
  intro w s₀ s₁ mg mb G Y a hmg hg args vals as hpre hlay hrd hwl hlo
  have KX:=kIn_of Y
  have hA:=hA.keep KX
  refine Ground.open G ?_
  intro T _ _ _ _
  have hfa:a=452:=by
   have e:=mg_of KX T.g (hA.nm w.params)
   have e2:=hmg.symm.trans e
   injection e2 with e2
   injection e2
  subst hfa
  wrow_args hpre hlay hrd hwl hlo
  rename_i hL _ _ _ hI _ hlen _
  refine law_walkG hA KX T.nolimit T.b T.builtins hL hI hlen λs' h1 h2 h3=>?_
  refine GoodW.toG ⟨.inl ⟨_,.bool true,[],rfl,raisesW_false ?_,ReadsW.bool _,?_,λ_=>⟨List.nodup_nil,λa h=>nomatch h⟩⟩,h3,h2,h1.trans hg⟩
  ·wrow_none_raised
  ·wrow_post
 case kf=>(intro P; refine ⟨?_,?_,?_,?_,?_,?_,?_,?_,?_⟩; iterate 9 (as_aux_lemma=>kernel_rfl))
 case nm=>(intro P; as_aux_lemma=>kernel_rfl)
 case ts=>exact λP=>⟨⟨by as_aux_lemma=>kernel_rfl,bind0 rfl (all1 λa=>by kernel_rfl)⟩,
  ⟨by as_aux_lemma=>kernel_rfl,bind0 rfl (all1 λa=>by kernel_rfl)⟩,
  ⟨by as_aux_lemma=>kernel_rfl,bind0 rfl (all1 λa=>by kernel_rfl)⟩,
  ⟨by as_aux_lemma=>kernel_rfl,bind0 rfl (all3 λa b c=>by kernel_rfl)⟩,
  ⟨by as_aux_lemma=>kernel_rfl,bind0 rfl (all1 λa=>by kernel_rfl)⟩,
  ⟨by as_aux_lemma=>kernel_rfl,bind0 rfl (all1 λa=>by kernel_rfl)⟩,
  ⟨by as_aux_lemma=>kernel_rfl,bind0 rfl (all1 λa=>by kernel_rfl)⟩,
  ⟨by as_aux_lemma=>kernel_rfl,bind0 rfl (all2 λa b=>by kernel_rfl)⟩,
  ⟨by as_aux_lemma=>kernel_rfl,bind0 rfl (all1 λa=>by kernel_rfl)⟩,
  ⟨by as_aux_lemma=>kernel_rfl,bind0 rfl (all2 λa b=>by kernel_rfl)⟩,
  ⟨by as_aux_lemma=>kernel_rfl,bind0 rfl (all2 λa b=>by kernel_rfl)⟩,
  ⟨by as_aux_lemma=>kernel_rfl,bind0 rfl (all3 λa b c=>by kernel_rfl)⟩,
  ⟨by as_aux_lemma=>kernel_rfl,bind0 rfl (all1 λa=>by kernel_rfl)⟩,
  ⟨by as_aux_lemma=>kernel_rfl,bind0 rfl (all1 λa=>by kernel_rfl)⟩,
  ⟨by as_aux_lemma=>kernel_rfl,bind0 rfl (all1 λa=>by kernel_rfl)⟩,
  ⟨by as_aux_lemma=>kernel_rfl,bind0 rfl (all2 λa b=>by kernel_rfl)⟩,
  ⟨by as_aux_lemma=>kernel_rfl,bind0 rfl (all3 λa b c=>by kernel_rfl)⟩,
  ⟨by as_aux_lemma=>kernel_rfl,bind0 rfl (all1 λa=>by kernel_rfl)⟩,
  ⟨by as_aux_lemma=>kernel_rfl,bind0 rfl (all1 λa=>by kernel_rfl)⟩,
  ⟨by as_aux_lemma=>kernel_rfl,bind0 rfl (all1 λa=>by kernel_rfl)⟩,
  ⟨by as_aux_lemma=>kernel_rfl,bind0 rfl (all1 λa=>by kernel_rfl)⟩,
  ⟨by as_aux_lemma=>kernel_rfl,bind0 rfl (all2 λa b=>by kernel_rfl)⟩,
  ⟨by as_aux_lemma=>kernel_rfl,bind0 rfl (all3 λa b c=>by kernel_rfl)⟩,
  ⟨by as_aux_lemma=>kernel_rfl,bind0 rfl (all1 λa=>by kernel_rfl)⟩,
  ⟨by as_aux_lemma=>kernel_rfl,bind0 rfl (all2 λa b=>by kernel_rfl)⟩,
  ⟨by as_aux_lemma=>kernel_rfl,bind0 rfl (all2 λa b=>by kernel_rfl)⟩,
  ⟨by as_aux_lemma=>kernel_rfl,bind0 rfl (all1 λa=>by kernel_rfl)⟩,
  ⟨by as_aux_lemma=>kernel_rfl,bind0 rfl (all2 λa b=>by kernel_rfl)⟩,
  ⟨by as_aux_lemma=>kernel_rfl,bind0 rfl (all2 λa b=>by kernel_rfl)⟩,
  ⟨by as_aux_lemma=>kernel_rfl,bind0 rfl (all2 λa b=>by kernel_rfl)⟩,
  ⟨by as_aux_lemma=>kernel_rfl,bind0 rfl (all1 λa=>by kernel_rfl)⟩,
  ⟨by as_aux_lemma=>kernel_rfl,bind31 (by kernel_rfl) (by kernel_rfl)⟩,
  ⟨by as_aux_lemma=>kernel_rfl,bind0 rfl (all2 λa b=>by kernel_rfl)⟩,
  ⟨by as_aux_lemma=>kernel_rfl,bind0 rfl (all1 λa=>by kernel_rfl)⟩,
  ⟨by as_aux_lemma=>kernel_rfl,bind0 rfl (all1 λa=>by kernel_rfl)⟩,
  ⟨by as_aux_lemma=>kernel_rfl,bind0 rfl (all1 λa=>by kernel_rfl)⟩,
  ⟨by as_aux_lemma=>kernel_rfl,bind0 rfl (all1 λa=>by kernel_rfl)⟩,
  ⟨by as_aux_lemma=>kernel_rfl,bind0 rfl (all1 λa=>by kernel_rfl)⟩,
  ⟨by as_aux_lemma=>kernel_rfl,bind0 rfl (all1 λa=>by kernel_rfl)⟩,
  ⟨by as_aux_lemma=>kernel_rfl,bind0 rfl (all2 λa b=>by kernel_rfl)⟩,
  ⟨by as_aux_lemma=>kernel_rfl,bind0 rfl (all2 λa b=>by kernel_rfl)⟩,
  ⟨by as_aux_lemma=>kernel_rfl,bind0 rfl (all2 λa b=>by kernel_rfl)⟩,
  ⟨by as_aux_lemma=>kernel_rfl,bind0 rfl (all2 λa b=>by kernel_rfl)⟩,
  ⟨by as_aux_lemma=>kernel_rfl,bind0 rfl (all1 λa=>by kernel_rfl)⟩,
  ⟨by as_aux_lemma=>kernel_rfl,bind0 rfl (all2 λa b=>by kernel_rfl)⟩,
  ⟨by as_aux_lemma=>kernel_rfl,bind0 rfl (all3 λa b c=>by kernel_rfl)⟩,
  ⟨by as_aux_lemma=>kernel_rfl,bind0 rfl (all2 λa b=>by kernel_rfl)⟩,
  ⟨by as_aux_lemma=>kernel_rfl,bind0 rfl (all1 λa=>by kernel_rfl)⟩,
  ⟨by as_aux_lemma=>kernel_rfl,bind0 rfl (all4 λa b c d=>by kernel_rfl)⟩,
  ⟨by as_aux_lemma=>kernel_rfl,bind0 rfl (all3 λa b c=>by kernel_rfl)⟩,
  ⟨by as_aux_lemma=>kernel_rfl,bind0 rfl (all1 λa=>by kernel_rfl)⟩,
  ⟨by as_aux_lemma=>kernel_rfl,bind0 rfl (all1 λa=>by kernel_rfl)⟩,trivial⟩
end Mine
end
theorem PySem.Challenge.cw_xw0237_01_holds : PySem.Challenge.rw_xw0237_01.Holds :=
 Mine.all
