import PyProof.Rows.All
import Wide.All
import OpenK.AllK
import Wide.FinOn
import Lean
import PySem.Challenge.RW_nz0207_01
open PySem
set_option linter.all false
set_option Elab.async false
set_option maxRecDepth 100000
set_option compiler.extract_closed false
set_option bootstrap.genMatcherCode false
set_option tactic.hygienic false
namespace Mine.Internal.Mine
section
open PySem
section
set_option genSizeOf false
inductive PV where
 | none
 | bool (b:Bool)
 | int (i:Int)
 | str (s:List Nat)
 | tup (l:List PV)
 | frz (l:List PV)
 | dct (es:List (List Nat × PV))
 | rng (a b c:Int)
 | loc (n:Nat)
 | fn (x:Str)
 | cls (x:Str)
 | bi (id:String)
 | ty (id:String)
inductive dl where
 | lst (l:List PV)
 | inst (c:Str) (as:List (Str × PV))
 | dct (es:List (List Nat × PV))
end
@[reducible] noncomputable def ah:=List dl
@[reducible] noncomputable def M (α:Type):=ah→Option (α × ah)
variable {α β:Type}
noncomputable def ret (a:α):M α:=fun σ=>some (a,σ)
noncomputable def bnd (m:M α) (f:α→M β):M β:=fun σ=>match m σ with
 | some (a,σ')=>f a σ'
 | none=>none
noncomputable def stop:M α:=fun Z=>none
noncomputable def br (c:Bool) (a b:M α):M α:=match c with
 | true=>a
 | false=>b
noncomputable def guard (b:Bool) (m:M α):M α:=fun σ=>match b with
 | true=>m σ
 | false=>none
noncomputable def opt (o:Option α) (f:α→M β):M β:=fun σ=>match o with
 | some a=>f a σ
 | none=>none
noncomputable def orNone (p:PV) (f:M α) (m:M α):M α:=p.casesOn f (fun Z=>m) (fun Z=>m) (fun Z=>m) (fun Z=>m) (fun Z=>m) (fun Z=>m) (fun Z Z Z=>m) (fun Z=>m) (fun Z=>m) (fun Z=>m) (fun Z=>m) (fun Z=>m)
noncomputable def orBool (p:PV) (f:Bool→M α) (m:M α):M α:=p.casesOn m f (fun Z=>m) (fun Z=>m) (fun Z=>m) (fun Z=>m) (fun Z=>m) (fun Z Z Z=>m) (fun Z=>m) (fun Z=>m) (fun Z=>m) (fun Z=>m) (fun Z=>m)
noncomputable def orInt (p:PV) (f:Int→M α) (m:M α):M α:=p.casesOn m (fun Z=>m) f (fun Z=>m) (fun Z=>m) (fun Z=>m) (fun Z=>m) (fun Z Z Z=>m) (fun Z=>m) (fun Z=>m) (fun Z=>m) (fun Z=>m) (fun Z=>m)
noncomputable def orStr (p:PV) (f:List Nat→M α) (m:M α):M α:=p.casesOn m (fun Z=>m) (fun Z=>m) f (fun Z=>m) (fun Z=>m) (fun Z=>m) (fun Z Z Z=>m) (fun Z=>m) (fun Z=>m) (fun Z=>m) (fun Z=>m) (fun Z=>m)
noncomputable def orTup (p:PV) (f:List PV→M α) (m:M α):M α:=p.casesOn m (fun Z=>m) (fun Z=>m) (fun Z=>m) f (fun Z=>m) (fun Z=>m) (fun Z Z Z=>m) (fun Z=>m) (fun Z=>m) (fun Z=>m) (fun Z=>m) (fun Z=>m)
noncomputable def orFrz (p:PV) (f:List PV→M α) (m:M α):M α:=p.casesOn m (fun Z=>m) (fun Z=>m) (fun Z=>m) (fun Z=>m) f (fun Z=>m) (fun Z Z Z=>m) (fun Z=>m) (fun Z=>m) (fun Z=>m) (fun Z=>m) (fun Z=>m)
noncomputable def orDct (p:PV) (f:List (List Nat × PV)→M α) (m:M α):M α:=p.casesOn m (fun Z=>m) (fun Z=>m) (fun Z=>m) (fun Z=>m) (fun Z=>m) f (fun Z Z Z=>m) (fun Z=>m) (fun Z=>m) (fun Z=>m) (fun Z=>m) (fun Z=>m)
noncomputable def orRng (p:PV) (f:Int→Int→Int→M α) (m:M α):M α:=p.casesOn m (fun Z=>m) (fun Z=>m) (fun Z=>m) (fun Z=>m) (fun Z=>m) (fun Z=>m) f (fun Z=>m) (fun Z=>m) (fun Z=>m) (fun Z=>m) (fun Z=>m)
noncomputable def orLoc (p:PV) (f:Nat→M α) (m:M α):M α:=p.casesOn m (fun Z=>m) (fun Z=>m) (fun Z=>m) (fun Z=>m) (fun Z=>m) (fun Z=>m) (fun Z Z Z=>m) f (fun Z=>m) (fun Z=>m) (fun Z=>m) (fun Z=>m)
noncomputable def orFn (p:PV) (f:Str→M α) (m:M α):M α:=p.casesOn m (fun Z=>m) (fun Z=>m) (fun Z=>m) (fun Z=>m) (fun Z=>m) (fun Z=>m) (fun Z Z Z=>m) (fun Z=>m) f (fun Z=>m) (fun Z=>m) (fun Z=>m)
noncomputable def orCls (p:PV) (f:Str→M α) (m:M α):M α:=p.casesOn m (fun Z=>m) (fun Z=>m) (fun Z=>m) (fun Z=>m) (fun Z=>m) (fun Z=>m) (fun Z Z Z=>m) (fun Z=>m) (fun Z=>m) f (fun Z=>m) (fun Z=>m)
noncomputable def orBi (p:PV) (f:String→M α) (m:M α):M α:=p.casesOn m (fun Z=>m) (fun Z=>m) (fun Z=>m) (fun Z=>m) (fun Z=>m) (fun Z=>m) (fun Z Z Z=>m) (fun Z=>m) (fun Z=>m) (fun Z=>m) f (fun Z=>m)
noncomputable def orTy (p:PV) (f:String→M α) (m:M α):M α:=p.casesOn m (fun Z=>m) (fun Z=>m) (fun Z=>m) (fun Z=>m) (fun Z=>m) (fun Z=>m) (fun Z Z Z=>m) (fun Z=>m) (fun Z=>m) (fun Z=>m) (fun Z=>m) f
noncomputable def int2 (p q:PV) (f:Int→Int→M α):M α:=orInt p (fun x=>orInt q (f x) stop) stop
noncomputable def getL (n:Nat) (f:List PV→M α):M α:=fun σ=>opt σ[n]? (fun c=>c.casesOn f (fun Z Z=>stop) fun Z=>stop) σ
noncomputable def getI (n:Nat) (f:Str→List (Str × PV)→M α):M α:=fun σ=>opt σ[n]? (fun c=>c.casesOn (fun Z=>stop) f fun Z=>stop) σ
noncomputable def getD (n:Nat) (f:List (List Nat × PV)→M α):M α:=fun σ=>opt σ[n]? (fun c=>c.casesOn (fun Z=>stop) (fun Z Z=>stop) f) σ
noncomputable def withL (v:PV) (f:List PV→M α):M α:=orFrz v f (orLoc v (fun n=>getL n f) stop)
noncomputable def tD (n:Nat) (c:dl):M Unit:=fun σ=>some ((),σ.set n c)
@[reducible] noncomputable def cP:=List (Str × Option PV)
noncomputable def put {γ:Type} (x:Str) (v:γ):List (Str × γ)→List (Str × γ)
 | []=>[(x,v)]
 | (y,w)::r=>match decide (y=x) with
  | true=>(y,v)::r
  | false=>(y,w)::put x v r
noncomputable def lim:Nat:=4194304
structure gA where
 params:List Str
 dflts:List PV
 scope:Scope
 body:List Stmt
structure gN where
 init:Str
 meths:List (Str × Str)
 attrs:List Str
structure lU where
 glob:Str→Option PV
 fns:Str→Option gA
 clss:Str→Option gN
 loops:Nat
noncomputable def cs (x:Str):List Nat:=x.cps.toList
noncomputable def one (x:List Nat):Str:=⟨x.toArray⟩
noncomputable def bT (c:dl):M PV:=fun σ=>some (.loc σ.length,σ++[c])
noncomputable def wX (l:List PV):M PV:=guard (Nat.ble l.length lim) (bT (.lst l))
noncomputable def hM (l:List PV):M PV:=guard (Nat.ble l.length lim) (ret (.frz l))
noncomputable def aH (p:PV):M Bool:=orBool p ret stop
noncomputable def GO (p:PV):Bool:=p.casesOn false (fun Z=>false) (fun Z=>true) (fun Z=>false) (fun Z=>false) (fun Z=>false) (fun Z=>false) (fun Z Z Z=>false) (fun Z=>false) (fun Z=>false) (fun Z=>false) (fun Z=>false) (fun Z=>false)
noncomputable def sS (p:PV):Bool:=p.casesOn false (fun Z=>false) (fun Z=>false) (fun Z=>false) (fun l=>l.all GO) (fun Z=>false) (fun Z=>false) (fun Z Z Z=>false) (fun Z=>false) (fun Z=>false) (fun Z=>false) (fun Z=>false) (fun Z=>false)
noncomputable def MT (p:PV):PyData:=p.casesOn .none (fun Z=>.none) PyData.int (fun Z=>.none) (fun Z=>.none) (fun Z=>.none) (fun Z=>.none) (fun Z Z Z=>.none) (fun Z=>.none) (fun Z=>.none) (fun Z=>.none) (fun Z=>.none) (fun Z=>.none)
noncomputable def HA (p:PV):PyData:=p.casesOn .none (fun Z=>.none) (fun Z=>.none) (fun Z=>.none) (fun l=>.tuple (l.map MT)) (fun Z=>.none) (fun Z=>.none) (fun Z Z Z=>.none) (fun Z=>.none) (fun Z=>.none) (fun Z=>.none) (fun Z=>.none) (fun Z=>.none)
noncomputable def Ca (l l':List PV):Bool:=l.all sS && l'.all sS && PyData.canLayAll0 (l.map HA) && PyData.canLayAll0 (l'.map HA) && Nat.ble (PyData.list (l.map HA)).depth 10
noncomputable def Mo (l l':List PV):M Bool:=br (decide (l.length=l'.length)) (guard (Ca l l') (ret (PyData.eqvAll (l.map HA) (l'.map HA)))) (ret false)
noncomputable def Jt (a b:PV):M Bool:=orBool a (fun x=>orBool b (fun y=>ret (x == y)) stop) <| orInt a (fun x=>orInt b (fun y=>ret (decide (x=y))) stop) <| orStr a (fun x=>orStr b (fun y=>ret (decide (x=y))) stop) <|
 orNone a (orNone b (ret true) (withL b fun Z=>ret false)) <| withL a fun l=>orNone b (ret false) (withL b fun l'=>Mo l l')
noncomputable def My (p:PV):Option (List Nat):=p.casesOn none (fun Z=>none) (fun Z=>none) some (fun Z=>none) (fun Z=>none) (fun Z=>none) (fun Z Z Z=>none) (fun Z=>none) (fun Z=>none) (fun Z=>none) (fun Z=>none) (fun Z=>none)
noncomputable def K8 (p:PV):Option Int:=p.casesOn none (fun Z=>none) some (fun Z=>none) (fun Z=>none) (fun Z=>none) (fun Z=>none) (fun Z Z Z=>none) (fun Z=>none) (fun Z=>none) (fun Z=>none) (fun Z=>none) (fun Z=>none)
noncomputable def FY (f:PV→Option α):List PV→Option (List α)
 | []=>some []
 | p::r=>(f p).bind fun x=>(FY f r).bind fun l=>some (x::l)
@[reducible] noncomputable def tm:=FY My
@[reducible] noncomputable def mJ:=FY K8
noncomputable def Bx (l:List Nat):Option Nat:=l.casesOn none fun c r=>r.casesOn (some c) fun Z Z=>none
noncomputable def Mc (a c:PV):M Bool:=orStr a (fun x=>orStr c (fun s=>opt (Bx x) fun c=>ret (s.contains c)) <| orTup c (fun l=>opt (tm l) fun ys=>ret (ys.any fun y=>decide (y=x))) <| orDct c (fun es=>ret (es.lookup x).isSome) stop) <|
 orInt a (fun k=>withL c fun l=>opt (mJ l) fun ns=>ret (ns.any fun j=>decide (j=k))) stop
noncomputable def oA:List Nat→List Nat→Bool
 | _,[]=>false
 | [],_::_=>true
 | a::r,b::t=>decide (a<b) || (decide (a=b) && oA r t)
noncomputable def x5 (p:PV):Bool:=p.casesOn true (fun Z=>false) (fun Z=>false) (fun Z=>false) (fun Z=>false) (fun Z=>false) (fun Z=>false) (fun Z Z Z=>false) (fun Z=>false) (fun Z=>false) (fun Z=>false) (fun Z=>false) (fun Z=>false)
noncomputable def aj (op:CmpOp) (a b:PV):M Bool:=match op with
 | .Eq=>Jt a b
 | .NotEq=>bnd (Jt a b) fun r=>ret (!r)
 | .In=>Mc a b
 | .NotIn=>bnd (Mc a b) fun r=>ret (!r)
 | .Is=>orNone b (ret (x5 a)) stop
 | .IsNot=>orNone b (ret (!x5 a)) stop
 | .Lt=>int2 a b fun x y=>ret (decide (x<y))
 | .LtE=>orInt a (fun x=>orInt b (fun y=>ret (decide (x≤y))) stop) <| orStr a (fun x=>orStr b (fun y=>ret (!oA y x)) stop) stop
 | .Gt=>int2 a b fun x y=>ret (decide (y<x))
 | .GtE=>int2 a b fun x y=>ret (decide (y≤x))
noncomputable def small (i:Int):Bool:=Nat.ble i.natAbs 1000000000
noncomputable def only (l:List PV):Option PV:=l.casesOn none fun v r=>r.casesOn (some v) fun Z Z=>none
noncomputable def Ma (a b:PV):M PV:=orInt a (fun x=>orInt b (fun y=>ret (.int (x+y))) stop) <| orStr a (fun x=>orStr b (fun y=>guard (Nat.ble (x.length+y.length) lim) (ret (.str (x++y)))) stop) <| withL a fun l=>withL b fun l'=>hM (l++l')
noncomputable def LF (a b:PV):M PV:=orInt a (fun x=>orInt b (fun y=>guard (small x && small y) (ret (.int (x*y)))) stop) <|
 orFrz a (fun l=>orInt b (fun k=>opt (only l) fun v=>guard (decide (0≤k) && Nat.ble k.toNat lim) (bT (.lst (List.replicate k.toNat v)))) stop) stop
noncomputable def aZ (op:Operator) (a b:PV):M PV:=match op with
 | .Add=>Ma a b
 | .Sub=>int2 a b fun x y=>ret (.int (x-y))
 | .Mult=>LF a b
 | .FloorDiv=>int2 a b fun x y=>guard (small x && decide (1≤y) && small y) (ret (.int (x / y)))
 | .Mod=>int2 a b fun x y=>guard (decide (1≤y)) (ret (.int (x % y)))
 | .Pow=>int2 a b fun x y=>guard (small x && decide (0≤y) && decide (y≤100)) (ret (.int (x ^ y.toNat)))
 | _=>stop
noncomputable def J1 (n:Nat) (p:PV):Bool:=p.casesOn true (fun Z=>true) (fun Z=>true) (fun Z=>true) (fun Z=>true) (fun Z=>true) (fun Z=>true) (fun Z Z Z=>true) (fun m=>!(n == m)) (fun Z=>true) (fun Z=>true) (fun Z=>true) (fun Z=>true)
noncomputable def CV (n:Nat) (b r:PV):M PV:=getL n fun l=>guard (J1 n b) (withL b fun l'=>guard (Nat.ble (l.length+l'.length) lim) (bnd (tD n (.lst (l++l'))) fun Z=>ret r))
noncomputable def dF (op:Operator) (a b:PV):M PV:=match op with
 | .Add=>orLoc a (fun n=>CV n b (.loc n)) <| orInt a (fun x=>orInt b (fun y=>ret (.int (x+y))) stop) <| orStr a (fun x=>orStr b (fun y=>guard (Nat.ble (x.length+y.length) lim) (ret (.str (x++y)))) stop) stop
 | .Sub=>int2 a b fun x y=>ret (.int (x-y))
 | _=>stop
noncomputable def M1 (op:UnaryOp) (a:PV):M PV:=match op with
 | .Not=>bnd (aH a) fun b=>ret (.bool (!b))
 | .USub=>orInt a (fun i=>ret (.int (-i))) stop
 | _=>stop
noncomputable def yP (p:PV):Bool:=p.casesOn true (fun Z=>true) (fun Z=>true) (fun Z=>true) (fun Z=>true) (fun Z=>true) (fun Z=>true) (fun Z Z Z=>true) (fun Z=>true) (fun Z=>true) (fun Z=>true) (fun Z=>false) (fun Z=>true)
noncomputable def aq (S:lU) (v:PV) (a:Str):M PV:=orLoc v (fun n=>getI n fun c as=>opt (S.clss c) fun ci=>guard (ci.attrs.contains a) (opt (as.lookup a) fun v=>guard (yP v) (ret v))) stop
noncomputable def am (S:lU) (v:PV) (a:Str) (w:PV):M Unit:=orLoc v (fun n=>getI n fun c as=>opt (S.clss c) fun ci=>guard (ci.attrs.contains a && Nat.ble as.length 100) (tD n (.inst c (put a w as)))) stop
noncomputable def ii (k:Int):Bool:=decide (0≤k) && small k
noncomputable def ao (b i:PV):M PV:=orInt i (fun k=>guard (ii k) (orTup b (fun l=>opt l[k.toNat]? ret) <| orStr b (fun l=>opt l[k.toNat]? fun c=>ret (.str [c])) <| withL b fun l=>opt l[k.toNat]? ret)) <|
 orStr i (fun k=>orLoc b (fun n=>getD n fun es=>opt (es.lookup k) ret) <| orDct b (fun es=>opt (es.lookup k) ret) stop) stop
noncomputable def xr (l:List α) (lo hi:Option Nat):List α:=match lo,hi with
 | none,none=>l
 | some i,none=>l.drop i
 | none,some j=>l.take j
 | some i,some j=>(l.take j).drop i
noncomputable def ie (p:PV):Option (Option Nat):=p.casesOn (some none) (fun Z=>none) (fun i=>if ii i=true then some (some i.toNat) else none) (fun Z=>none) (fun Z=>none) (fun Z=>none) (fun Z=>none) (fun Z Z Z=>none) (fun Z=>none) (fun Z=>none) (fun Z=>none) (fun Z=>none) (fun Z=>none)
noncomputable def aS (b lo hi:PV):M PV:=opt (ie lo) fun i=>opt (ie hi) fun j=>orStr b (fun s=>guard (Nat.ble s.length lim) (ret (.str (xr s i j)))) (withL b fun l=>guard (Nat.ble l.length lim) (ret (.frz (xr l i j))))
noncomputable def cb (b i v:PV):M Unit:=orLoc b (fun n=>orInt i (fun k=>getL n fun l=>guard (ii k && Nat.blt k.toNat l.length && Nat.ble l.length lim) (tD n (.lst (l.set k.toNat v)))) stop) stop
noncomputable def unC (vs:List PV) (f:PV→List PV→M α):M α:=vs.casesOn stop f
noncomputable def unN (vs:List PV) (m:M α):M α:=vs.casesOn m fun Z Z=>stop
noncomputable def unT (v:PV) (f:List PV→M α):M α:=orTup v f stop
noncomputable def un1 (vs:List PV) (f:PV→M α):M α:=unC vs fun a r=>unN r (f a)
noncomputable def un2 (vs:List PV) (f:PV→PV→M α):M α:=unC vs fun a r=>un1 r (f a)
noncomputable def CD (s:List Nat) (vs:List PV):M PV:=un2 vs fun a b=>orStr a (fun sub=>orInt b (fun i=>ret (.int (Txt.find3 (one s) (one sub) i))) stop) stop
noncomputable def zW (s:List Nat) (vs:List PV):M PV:=un1 vs fun a=>orStr a (fun sep=>guard (Nat.blt 0 sep.length && Nat.ble s.length lim && Nat.ble (Builtin.Str.partsBetween (one s) (Builtin.Str.occurrences (one s) (one sep) 0 s.length (s.length+1)) sep.length).length lim)
   (ret (.frz ((Txt.split (one s) (one sep)).map fun x=>.str (cs x))))) stop
noncomputable def xM (s:List Nat) (vs:List PV):M PV:=un1 vs fun v=>withL v fun l=>opt (tm l) fun xs=>guard (JoinOk (one s) (xs.map one)) (ret (.str (cs (Txt.join (one s) (xs.map one)))))
noncomputable def zz (s:List Nat) (vs:List PV):M PV:=unN vs (guard (!Builtin.Str.tooLong (Txt.lower (one s)).length) (ret (.str (cs (Txt.lower (one s))))))
noncomputable def CZ (s:List Nat) (vs:List PV):M PV:=unN vs (guard (!Builtin.Str.tooLong (Txt.swapcase (one s)).length) (ret (.str (cs (Txt.swapcase (one s))))))
noncomputable def Gs (s:List Nat) (vs:List PV):M PV:=un1 vs fun a=>orStr a (fun x=>opt (Builtin.Str.occurrences (one s) (one x) 0 s.length 1).head? fun i=>ret (.int i)) stop
noncomputable def Lh (s:List Nat) (name:Str) (vs:List PV):M PV :=
 if name="find" then CD s vs
 else if name="split" then zW s vs
 else if name="join" then xM s vs
 else if name="lower" then zz s vs
 else if name="swapcase" then CZ s vs
 else if name="index" then Gs s vs
 else stop
noncomputable def wp (n:Nat) (l vs:List PV):M PV:=un1 vs fun v=>guard (Nat.ble l.length lim) (bnd (tD n (.lst (l++[v]))) fun Z=>ret .none)
noncomputable def A6 (n:Nat) (l vs:List PV):M PV:=unN vs (guard (Nat.ble l.length lim) (opt l.getLast? fun v=>bnd (tD n (.lst l.dropLast)) fun Z=>ret v))
noncomputable def DX (n:Nat) (name:Str) (vs:List PV):M PV :=
 if name="append" then getL n fun l=>wp n l vs
 else if name="pop" then getL n fun l=>A6 n l vs
 else if name="extend" then un1 vs fun b=>CV n b .none
 else stop
noncomputable def KA (es:List (List Nat × PV)) (vs:List PV):M PV:=un2 vs fun a d=>orStr a (fun k=>ret ((es.lookup k).getD d)) stop
noncomputable def LP (es:List (List Nat × PV)) (name:Str) (vs:List PV):M PV:=if name="get" then KA es vs else stop
noncomputable def Ka (n:Nat) (l i:M α):M α:=fun σ=>opt σ[n]? (fun c=>c.casesOn (fun Z=>l) (fun Z Z=>i) fun Z=>stop) σ
section
set_option genSizeOf false
inductive Ke where
 | lst | str | dct
 | fn (f:Str)
end
noncomputable def lw:List Str:=["append","pop","extend"]
noncomputable def zC:List Str:=["find","split","join","lower","swapcase","index"]
noncomputable def bw (S:lU) (ov:PV) (name:Str):M Ke :=
 orLoc ov (fun n=>Ka n (guard (lw.contains name) (ret .lst)) (getI n fun c as=>opt (S.clss c) fun ci=>opt (ci.meths.lookup name) fun f=>guard (as.lookup name).isNone (ret (.fn f)))) <|
 orStr ov (fun Z=>guard (zC.contains name) (ret .str)) <| orDct ov (fun Z=>guard (decide (name="get")) (ret .dct)) stop
noncomputable def aW (call:PV→List PV→M PV) (ov:PV) (name:Str) (vs:List PV) (c:Ke):M PV :=
 c.casesOn (orLoc ov (fun n=>DX n name vs) stop) (orStr ov (fun s=>Lh s name vs) stop) (orDct ov (fun es=>LP es name vs) stop) fun f=>call (.fn f) (ov::vs)
noncomputable def bU (vs:List PV):M PV:=un1 vs fun b=>orStr b (fun s=>guard (Nat.ble s.length lim) (ret (.int s.length))) (withL b fun l=>guard (Nat.ble l.length lim) (ret (.int l.length)))
noncomputable def oG (vs:List PV):M PV:=un1 vs fun b=>orStr b (fun s=>opt (Bx s) fun c=>ret (.int c)) stop
noncomputable def rS (vs:List PV):M PV:=un1 vs fun b=>orInt b (fun i=>guard (decide (0≤i) && decide (i<128)) (ret (.str [i.toNat]))) stop
noncomputable def y_ (vs:List PV):M PV:=un2 vs fun a b=>int2 a b fun x y=>ret (.int (if y<x then y else x))
noncomputable def zq (vs:List PV):M PV:=un2 vs fun a b=>int2 a b fun x y=>ret (.int (if x<y then y else x))
noncomputable def Ce (vs:List PV):M PV:=un1 vs fun b=>withL b fun l=>opt (mJ l) fun is=>guard (Nat.ble is.length 1000) (ret (.int is.sum))
noncomputable def M5 (id:String) (vs:List PV):M PV :=
 if id="len" then bU vs
 else if id="ord" then oG vs
 else if id="chr" then rS vs
 else if id="min" then y_ vs
 else if id="max" then zq vs
 else if id="sum" then Ce vs
 else stop
noncomputable def fO (vs:List PV):M PV:=unC vs fun p r=>orInt p (fun a=>r.casesOn (guard (small a) (ret (.rng 0 a 1))) fun q r=>orInt q (fun b=>r.casesOn (guard (small a && small b) (ret (.rng a b 1))) fun q r=>unN r (orInt q (fun c=>guard (small a && small b && decide (c=-1)) (ret (.rng a b c))) stop)) stop) stop
noncomputable def M4 (id:String) (vs:List PV):M PV:=if id="range" then fO vs else stop
noncomputable def uw (call:PV→List PV→M PV) (f:PV) (vs:List PV):M PV:=orBi f (fun id=>M5 id vs) <| orTy f (fun id=>M4 id vs) <| orFn f (fun x=>call (.fn x) vs) <| orCls f (fun x=>call (.cls x) vs) stop
section
set_option genSizeOf false
inductive It where
 | items (l:List PV)
 | lst (n i:Nat)
end
noncomputable def steps (a c:Int):Nat→List PV
 | 0=>[]
 | k+1=>.int a::steps (a+c) c k
noncomputable def qi (a b c:Int):List PV:=if 0<c then steps a c (b-a).toNat else steps a c (a-b).toNat
noncomputable def ce (v:PV):M It:=orLoc v (fun n=>getL n fun l=>guard (Nat.ble l.length lim) (ret (.lst n 0))) <| orFrz v (fun l=>guard (Nat.ble l.length lim) (ret (.items l))) <|
 orStr v (fun s=>guard (s.all fun c=>decide (c<128)) (ret (.items (s.map fun c=>.str [c])))) <| orRng v (fun a b c=>guard (small a && small b && (decide (c=1) || decide (c=-1))) (ret (.items (qi a b c)))) stop
noncomputable def vW (it:It):M (Option (PV × It)):=it.casesOn (fun l=>l.casesOn (ret none) fun v r=>ret (some (v,.items r))) fun n i=>getL n fun l=>ret (l[i]?.casesOn none fun v=>some (v,.lst n (i+1)))
noncomputable def F3:Const→M PV
 | .none=>ret .none
 | .bool b=>ret (.bool b)
 | .int i=>ret (.int i)
 | .str s=>ret (.str (cs s))
 | _=>stop
noncomputable def ro (o:Option NameKind):Bool:=o == some .local || (o == some .cell || o == some .free)
noncomputable def rB (S:lU) (sc:Scope) (ρ:cP) (x:Str):M PV :=
 br (ro (sc.names.lookup x)) (opt (ρ.lookup x) fun o=>opt o ret) (guard (sc.names.lookup x == some .globalImplicit) (opt (S.glob x) ret))
noncomputable def yx (o:Option NameKind):Bool:=o == some .local || o == some .cell
noncomputable def jK (sc:Scope) (ρ:cP) (x:Str) (v:PV):M cP:=guard (yx (sc.names.lookup x)) (ret (put x (some v) ρ))
noncomputable def pd (e:Expr) (f:Str→M α):M α:=e.casesOn (fun Z Z Z=>stop) (fun Z Z Z=>stop) (fun Z Z Z Z=>stop) (fun Z Z Z=>stop) (fun Z Z Z Z=>stop) (fun Z Z Z Z=>stop) (fun Z Z Z=>stop) (fun Z Z Z=>stop) (fun Z Z Z Z=>stop) (fun Z Z Z Z=>stop) (fun Z Z Z Z Z=>stop) (fun Z Z Z Z=>stop) (fun Z Z=>stop) (fun Z Z=>stop) (fun Z Z=>stop) (fun Z Z Z Z=>stop) (fun Z Z Z Z=>stop) (fun Z Z Z Z=>stop) (fun Z Z=>stop) (fun Z Z Z=>stop) (fun Z Z Z=>stop) (fun Z Z Z=>stop) (fun Z Z=>stop) (fun x _=>f x) (fun Z Z=>stop) (fun Z Z Z=>stop) (fun Z Z Z Z=>stop)
noncomputable def iP (sc:Scope) (kn:cP→M α):List Expr→List PV→cP→M α
 | [],vs,ρ=>unN vs (kn ρ)
 | t::r,vs,ρ=>pd t fun x=>unC vs fun v vs'=>bnd (jK sc ρ x v) fun ρ'=>iP sc kn r vs' ρ'
noncomputable def dx (sc:Scope) (ρ:cP) (t:Expr) (v:PV) (kn:cP→M α):M α:=t.casesOn (fun Z Z Z=>stop) (fun Z Z Z=>stop) (fun Z Z Z Z=>stop) (fun Z Z Z=>stop) (fun Z Z Z Z=>stop) (fun Z Z Z Z=>stop) (fun Z Z Z=>stop) (fun Z Z Z=>stop) (fun Z Z Z Z=>stop) (fun Z Z Z Z=>stop) (fun Z Z Z Z Z=>stop) (fun Z Z Z Z=>stop) (fun Z Z=>stop) (fun Z Z=>stop) (fun Z Z=>stop) (fun Z Z Z Z=>stop) (fun Z Z Z Z=>stop) (fun Z Z Z Z=>stop) (fun Z Z=>stop) (fun Z Z Z=>stop) (fun Z Z Z=>stop) (fun Z Z Z=>stop) (fun Z Z=>stop) (fun x _=>bnd (jK sc ρ x v) kn) (fun Z Z=>stop) (fun ts _ _=>unT v fun vs=>guard (Nat.ble ts.length 20) (iP sc kn ts vs ρ)) (fun Z Z Z Z=>stop)
theorem bG {α:Type} {x:α} {P:Prop} (h:some x=none):P:=nomatch h
theorem bm {α:Type} {x:α} {P:Prop} (h:none=some x):P:=nomatch h
theorem eI {P:Prop} (h:true=false):P:=nomatch h
theorem dU {P:Prop} (h:false=true):P:=nomatch h
theorem Jv {α β:Type} {a c:α} {b d:β} (h:some (a,b)=some (c,d)):a=c:=by cases h; rfl
theorem I7 {α β:Type} {a c:α} {b d:β} (h:some (a,b)=some (c,d)):b=d:=by cases h; rfl
theorem gw {γ:Type} (m:M α) (f:α→M β) (g:β→M γ):bnd (bnd m f) g=bnd m fun a=>bnd (f a) g:=by
 funext σ; unfold bnd; cases m σ <;> rfl
noncomputable def Lb (next:M (Option (PV × It))) (again:It→M (List PV)) (body:PV→M (Option PV)):M (List PV) :=
 bnd next fun r=>match r with
  | none=>ret []
  | some (v,it')=>bnd (body v) fun x=>bnd (again it') fun xs=>match x with
   | some y=>ret (y::xs)
   | none=>ret xs
noncomputable def compLoop (body:PV→M (Option PV)):Nat→It→M (List PV):=Nat.rec (fun Z=>stop) fun _ again it=>Lb (vW it) again body
noncomputable def lR (sc:Scope) (f:Str→Option PV):List (Str × NameKind)→cP
 | []=>[]
 | (x,_)::r=>if ro (sc.names.lookup x)=true then (x,f x)::lR sc f r else lR sc f r
noncomputable def CQ (csc:Scope) (ρ:cP):cP:=lR csc (fun x=>if csc.names.lookup x=some .free then (ρ.lookup x).join else none) csc.names
@[reducible] noncomputable def Kn:=cP→M PV
noncomputable def bc (test:cP→M Bool) (body:cP→Kn→Kn→Kn→M PV) (kn:Kn):Nat→cP→M PV:=Nat.rec (fun Z=>stop) fun _ again ρ=>bnd (test ρ) fun c=>br c (body ρ again kn again) (kn ρ)
noncomputable def cJ (body:PV→cP→Kn→Kn→Kn→M PV) (kn:Kn):Nat→It→cP→M PV:=Nat.rec (fun Z Z=>stop) fun _ again it ρ=>bnd (vW it) fun r=>match r with
  | none=>kn ρ
  | some (v,it')=>body v ρ (again it') kn (again it')
noncomputable def kindOf (e:Expr):Nat:=e.casesOn (fun Z Z Z=>0) (fun Z Z Z=>1) (fun Z Z Z Z=>2) (fun Z Z Z=>3) (fun Z Z Z Z=>4) (fun Z Z Z Z=>5) (fun Z Z Z=>6) (fun Z Z Z=>7) (fun Z Z Z Z=>8) (fun Z Z Z Z=>9) (fun Z Z Z Z Z=>10) (fun Z Z Z Z=>11) (fun Z Z=>12) (fun Z Z=>13) (fun Z Z=>14) (fun Z Z Z Z=>15) (fun Z Z Z Z=>16) (fun Z Z Z Z=>17) (fun Z Z=>18) (fun Z Z Z=>19) (fun Z Z Z=>20) (fun Z Z Z=>21) (fun Z Z=>22) (fun Z Z=>23) (fun Z Z=>24) (fun Z Z Z=>25) (fun Z Z Z Z=>26)
noncomputable def BX (e:Expr):Bool:=!Nat.beq (kindOf e) 16
noncomputable def Kh (e:Expr):Bool:=Nat.beq (kindOf e) 23
noncomputable def LX (e:Expr):Bool:=Nat.beq (kindOf e) 25
noncomputable def BK (e:Expr):Bool:=!Nat.beq (kindOf e) 7
noncomputable def gI (e:Expr):Bool:=!Nat.beq (kindOf e) 22
noncomputable def x_ (e:Expr):Bool:=!Nat.beq (kindOf e) 26
noncomputable def E7 (a b:Pos):Bool:=a.endLine == b.line
noncomputable def MI:Const→Option (List Nat)
 | .str x=>some (cs x)
 | _=>none
noncomputable def KP (o:Option Expr):Option (List Nat):=o.casesOn none fun e=>e.casesOn (fun Z Z Z=>none) (fun Z Z Z=>none) (fun Z Z Z Z=>none) (fun Z Z Z=>none) (fun Z Z Z Z=>none) (fun Z Z Z Z=>none) (fun Z Z Z=>none) (fun Z Z Z=>none) (fun Z Z Z Z=>none) (fun Z Z Z Z=>none) (fun Z Z Z Z Z=>none) (fun Z Z Z Z=>none) (fun Z Z=>none) (fun Z Z=>none) (fun Z Z=>none) (fun Z Z Z Z=>none) (fun Z Z Z Z=>none) (fun Z Z Z Z=>none) (fun Z Z=>none) (fun c _ _=>MI c) (fun Z Z Z=>none) (fun Z Z Z=>none) (fun Z Z=>none) (fun Z Z=>none) (fun Z Z=>none) (fun Z Z Z=>none) (fun Z Z Z Z=>none)
noncomputable def nW:List (Option Expr)→Option (List (List Nat))
 | []=>some []
 | k::r=>(KP k).bind fun x=>(nW r).bind fun l=>some (x::l)
noncomputable def pJ:List (List Nat)→Bool
 | []=>true
 | x::r=>!r.contains x && pJ r
noncomputable def wA (S:lU) (sc:Scope) (ρ:cP):List Expr→M (List PV)
 | []=>ret []
 | t::r=>pd t fun x=>guard (!(x == "__debug__")) (bnd (rB S sc ρ x) fun v=>bnd (wA S sc ρ r) fun vs=>ret (v::vs))
noncomputable def GP (sc csc:Scope):Bool:=(csc.kind == .function) && csc.names.all fun p=>(p.2 != .cell) && ((p.2 != .local) || (csc.names.lookup p.1 == some .local)) && ((p.2 != .free) || (sc.names.lookup p.1 == some .cell) || (sc.names.lookup p.1 == some .free))
structure EK where
 E:Scope→cP→Expr→M PV
 T:Scope→cP→Expr→M Bool
 L:Scope→cP→List Expr→M (List PV)
 O:Scope→cP→Option Expr→M PV
 B:Scope→cP→BoolOp→List Expr→M PV
 A:Scope→cP→BoolOp→List Expr→M Bool
 C:Scope→cP→PV→List CmpOp→List Expr→M Bool
 I:Scope→cP→List Expr→M Bool
noncomputable def EK.zero:EK:=⟨fun Z Z Z=>stop,fun Z Z Z=>stop,fun Z Z Z=>stop,fun Z Z Z=>stop,fun Z Z Z Z=>stop,fun Z Z Z Z=>stop,fun Z Z Z Z Z=>stop,fun Z Z Z=>stop⟩
section
variable (S:lU) (call:PV→List PV→M PV) (f:EK) (sc:Scope) (ρ:cP)
noncomputable def ut (csc:Scope) (tgt elt:Expr) (ifs:List Expr) (v:PV):M (Option PV):=dx csc (CQ csc ρ) tgt v fun ρ'=>bnd (f.I csc ρ' ifs) fun ok=>br ok (bnd (f.E csc ρ' elt) fun x=>ret (some x)) (ret none)
noncomputable def eu (g:Expr) (args:List Expr):M PV:=guard (args.all gI) (bnd (f.E sc ρ g) fun fv=>bnd (f.L sc ρ args) fun vs=>uw call fv vs)
noncomputable def Jp (g:Expr) (args:List Expr) (pos:Pos):M PV:=g.casesOn (fun Z Z Z=>eu call f sc ρ g args) (fun Z Z Z=>eu call f sc ρ g args) (fun Z Z Z Z=>eu call f sc ρ g args) (fun Z Z Z=>eu call f sc ρ g args) (fun Z Z Z Z=>eu call f sc ρ g args) (fun Z Z Z Z=>eu call f sc ρ g args) (fun Z Z Z=>eu call f sc ρ g args) (fun Z Z Z=>eu call f sc ρ g args) (fun Z Z Z Z=>eu call f sc ρ g args) (fun Z Z Z Z=>eu call f sc ρ g args) (fun Z Z Z Z Z=>eu call f sc ρ g args) (fun Z Z Z Z=>eu call f sc ρ g args) (fun Z Z=>eu call f sc ρ g args) (fun Z Z=>eu call f sc ρ g args) (fun Z Z=>eu call f sc ρ g args) (fun Z Z Z Z=>eu call f sc ρ g args) (fun Z Z Z Z=>eu call f sc ρ g args) (fun Z Z Z Z=>eu call f sc ρ g args) (fun Z Z=>eu call f sc ρ g args) (fun Z Z Z=>eu call f sc ρ g args) (fun o name apos=>guard (BX o && E7 apos pos && Nat.ble args.length 20 && args.all gI) (bnd (f.E sc ρ o) fun ov=>bnd (bw S ov name) fun c=>bnd (f.L sc ρ args) fun vs=>aW call ov name vs c)) (fun Z Z Z=>eu call f sc ρ g args) (fun Z Z=>eu call f sc ρ g args) (fun Z Z=>eu call f sc ρ g args) (fun Z Z=>eu call f sc ρ g args) (fun Z Z Z=>eu call f sc ρ g args) (fun Z Z Z Z=>eu call f sc ρ g args)
noncomputable def iD (v i:Expr):M PV:=bnd (f.E sc ρ v) fun b=>bnd (f.E sc ρ i) fun j=>ao b j
noncomputable def MO (v i:Expr):M PV:=i.casesOn (fun Z Z Z=>iD f sc ρ v i) (fun Z Z Z=>iD f sc ρ v i) (fun Z Z Z Z=>iD f sc ρ v i) (fun Z Z Z=>iD f sc ρ v i) (fun Z Z Z Z=>iD f sc ρ v i) (fun Z Z Z Z=>iD f sc ρ v i) (fun Z Z Z=>iD f sc ρ v i) (fun Z Z Z=>iD f sc ρ v i) (fun Z Z Z Z=>iD f sc ρ v i) (fun Z Z Z Z=>iD f sc ρ v i) (fun Z Z Z Z Z=>iD f sc ρ v i) (fun Z Z Z Z=>iD f sc ρ v i) (fun Z Z=>iD f sc ρ v i) (fun Z Z=>iD f sc ρ v i) (fun Z Z=>iD f sc ρ v i) (fun Z Z Z Z=>iD f sc ρ v i) (fun Z Z Z Z=>iD f sc ρ v i) (fun Z Z Z Z=>iD f sc ρ v i) (fun Z Z=>iD f sc ρ v i) (fun Z Z Z=>iD f sc ρ v i) (fun Z Z Z=>iD f sc ρ v i) (fun Z Z Z=>iD f sc ρ v i) (fun Z Z=>iD f sc ρ v i) (fun Z Z=>iD f sc ρ v i) (fun Z Z=>iD f sc ρ v i) (fun Z Z Z=>iD f sc ρ v i) (fun lo hi st _=>st.casesOn (bnd (f.E sc ρ v) fun b=>bnd (f.O sc ρ lo) fun i=>bnd (f.O sc ρ hi) fun j=>aS b i j) fun Z=>iD f sc ρ v i)
noncomputable def Ja (elt:Expr) (csc:Scope) (tgt iter:Expr) (ifs:List Expr):M PV :=
 guard (GP sc csc && BK iter) (bnd (f.E sc ρ iter) fun v=>bnd (ce v) fun it=>bnd (compLoop (ut f ρ csc tgt elt ifs) S.loops it) fun xs=>hM xs)
noncomputable def Jg (ks:List (Option Expr)) (vs:List Expr):M PV:=opt (nW ks) fun xs=>guard (pJ xs && ((vs.length == 0) || (vs.length == 19)) && (xs.length == vs.length)) (bnd (wA S sc ρ vs) fun ws=>bT (.dct (xs.zip ws)))
noncomputable def M6 (e:Expr):M PV:=e.casesOn (fun op vs _=>f.B sc ρ op vs) (fun Z Z Z=>stop) (fun l op r _=>bnd (f.E sc ρ l) fun a=>bnd (f.E sc ρ r) fun b=>aZ op a b) (fun op x _=>bnd (f.E sc ρ x) fun v=>M1 op v) (fun Z Z Z Z=>stop) (fun t b o _=>bnd (f.T sc ρ t) fun c=>br c (f.E sc ρ b) (f.E sc ρ o)) (fun ks vs _=>Jg S sc ρ ks vs) (fun Z Z Z=>stop) (fun elt gens csc _=>(match gens with     | [⟨tgt,iter,ifs,0⟩]=>Ja S f sc ρ elt csc tgt iter ifs     | _=>stop)) (fun Z Z Z Z=>stop) (fun Z Z Z Z Z=>stop) (fun Z Z Z Z=>stop) (fun Z Z=>stop) (fun Z Z=>stop) (fun Z Z=>stop) (fun l ops rs _=>guard (!lastMarks ops rs) (bnd (f.E sc ρ l) fun a=>bnd (f.C sc ρ a ops rs) fun b=>ret (.bool b))) (fun g args kws pos=>kws.casesOn (Jp S call f sc ρ g args pos) fun Z Z=>stop) (fun Z Z Z Z=>stop) (fun Z Z=>stop) (fun c _ _=>F3 c) (fun o a _=>guard (BX o) (bnd (f.E sc ρ o) fun v=>aq S v a)) (fun v i _=>MO f sc ρ v i) (fun Z Z=>stop) (fun x _=>guard (!(x == "__debug__")) (rB S sc ρ x)) (fun es _=>bnd (f.L sc ρ es) fun vs=>hM vs) (fun es _ _=>bnd (f.L sc ρ es) fun vs=>guard (Nat.ble vs.length 100) (ret (.tup vs))) (fun Z Z Z Z=>stop)
noncomputable def Nn (e:Expr):M Bool:=e.casesOn (fun op vs _=>f.A sc ρ op vs) (fun Z Z Z=>bnd (f.E sc ρ e) aH) (fun Z Z Z Z=>bnd (f.E sc ρ e) aH) (fun op x p=>match op with | .Not=>bnd (f.T sc ρ x) fun b=>ret (!b) | op=>bnd (f.E sc ρ (.UnaryOp op x p)) aH) (fun Z Z Z Z=>bnd (f.E sc ρ e) aH) (fun t b o _=>bnd (f.T sc ρ t) fun c=>br c (f.T sc ρ b) (f.T sc ρ o)) (fun Z Z Z=>bnd (f.E sc ρ e) aH) (fun Z Z Z=>bnd (f.E sc ρ e) aH) (fun Z Z Z Z=>bnd (f.E sc ρ e) aH) (fun Z Z Z Z=>bnd (f.E sc ρ e) aH) (fun Z Z Z Z Z=>bnd (f.E sc ρ e) aH) (fun Z Z Z Z=>bnd (f.E sc ρ e) aH) (fun Z Z=>bnd (f.E sc ρ e) aH) (fun Z Z=>bnd (f.E sc ρ e) aH) (fun Z Z=>bnd (f.E sc ρ e) aH) (fun l ops rs _=>guard (!lastMarks ops rs) (bnd (f.E sc ρ l) fun a=>f.C sc ρ a ops rs)) (fun Z Z Z Z=>bnd (f.E sc ρ e) aH) (fun Z Z Z Z=>bnd (f.E sc ρ e) aH) (fun Z Z=>bnd (f.E sc ρ e) aH) (fun Z Z Z=>bnd (f.E sc ρ e) aH) (fun Z Z Z=>bnd (f.E sc ρ e) aH) (fun Z Z Z=>bnd (f.E sc ρ e) aH) (fun Z Z=>bnd (f.E sc ρ e) aH) (fun Z Z=>bnd (f.E sc ρ e) aH) (fun Z Z=>bnd (f.E sc ρ e) aH) (fun Z Z Z=>bnd (f.E sc ρ e) aH) (fun Z Z Z Z=>bnd (f.E sc ρ e) aH)
noncomputable def Nt (es:List Expr):M (List PV):=match es with
 | []=>ret []
 | e::r=>guard (gI e) (bnd (f.E sc ρ e) fun v=>bnd (f.L sc ρ r) fun vs=>ret (v::vs))
noncomputable def Nx (o:Option Expr):M PV:=match o with
 | none=>ret .none
 | some e=>f.E sc ρ e
noncomputable def Nk (op:BoolOp) (es:List Expr):M PV:=match es with
 | []=>stop
 | e::r=>match r with
  | []=>f.E sc ρ e
  | e'::r'=>bnd (f.E sc ρ e) fun v=>bnd (aH v) fun t=>match op with
   | .And=>br t (f.B sc ρ op (e'::r')) (ret v)
   | .Or=>br t (ret v) (f.B sc ρ op (e'::r'))
noncomputable def Ni (op:BoolOp) (es:List Expr):M Bool:=match op with
 | .And=>es.casesOn (ret true) fun e r=>bnd (f.T sc ρ e) fun t=>br t (f.A sc ρ .And r) (ret false)
 | .Or=>es.casesOn (ret false) fun e r=>bnd (f.T sc ρ e) fun t=>br t (ret true) (f.A sc ρ .Or r)
noncomputable def MW (a:PV) (ops:List CmpOp) (es:List Expr):M Bool:=ops.casesOn stop fun op ops=>es.casesOn stop fun e es=>ops.casesOn (es.casesOn (bnd (f.E sc ρ e) fun b=>aj op a b) fun Z Z=>stop)
 fun op' ops=>es.casesOn stop fun e' es=>bnd (f.E sc ρ e) fun b=>bnd (aj op a b) fun c=>br c (f.C sc ρ b (op'::ops) (e'::es)) (ret false)
noncomputable def No (es:List Expr):M Bool:=match es with
 | []=>ret true
 | e::r=>bnd (f.T sc ρ e) fun t=>br t (f.I sc ρ r) (ret false)
noncomputable def EK.next:EK:=⟨fun sc ρ=>M6 S call f sc ρ,fun sc ρ=>Nn f sc ρ,fun sc ρ=>Nt f sc ρ,fun sc ρ=>Nx f sc ρ,fun sc ρ=>Nk f sc ρ,fun sc ρ=>Ni f sc ρ,fun sc ρ=>MW f sc ρ,fun sc ρ=>No f sc ρ⟩
noncomputable def jo:Nat→EK:=Nat.rec EK.zero fun _ f=>f.next S call
noncomputable def E6 (k:Nat):Scope→cP→Expr→M Bool:=(jo S call k).T
noncomputable def I_ (t e:Expr):Bool:=(Nat.beq (kindOf e) 8).rec ((Nat.beq (kindOf e) 25).rec true (!LX t)) (Kh t)
noncomputable def Lw (t:Expr) (v:PV) (kn:Kn):M PV:=t.casesOn (fun Z Z Z=>dx sc ρ t v kn) (fun Z Z Z=>dx sc ρ t v kn) (fun Z Z Z Z=>dx sc ρ t v kn) (fun Z Z Z=>dx sc ρ t v kn) (fun Z Z Z Z=>dx sc ρ t v kn) (fun Z Z Z Z=>dx sc ρ t v kn) (fun Z Z Z=>dx sc ρ t v kn) (fun Z Z Z=>dx sc ρ t v kn) (fun Z Z Z Z=>dx sc ρ t v kn) (fun Z Z Z Z=>dx sc ρ t v kn) (fun Z Z Z Z Z=>dx sc ρ t v kn) (fun Z Z Z Z=>dx sc ρ t v kn) (fun Z Z=>dx sc ρ t v kn) (fun Z Z=>dx sc ρ t v kn) (fun Z Z=>dx sc ρ t v kn) (fun Z Z Z Z=>dx sc ρ t v kn) (fun Z Z Z Z=>dx sc ρ t v kn) (fun Z Z Z Z=>dx sc ρ t v kn) (fun Z Z=>dx sc ρ t v kn) (fun Z Z Z=>dx sc ρ t v kn) (fun o a _=>bnd (f.E sc ρ o) fun ov=>bnd (am S ov a v) fun Z=>kn ρ) (fun o i _=>guard (x_ i) (bnd (f.E sc ρ o) fun ov=>bnd (f.E sc ρ i) fun iv=>bnd (cb ov iv v) fun Z=>kn ρ)) (fun Z Z=>dx sc ρ t v kn) (fun Z Z=>dx sc ρ t v kn) (fun Z Z=>dx sc ρ t v kn) (fun Z Z Z=>dx sc ρ t v kn) (fun Z Z Z Z=>dx sc ρ t v kn)
noncomputable def Mz (k:Nat) (e:Expr):M PV:=e.casesOn (fun Z Z Z=>(jo S call k).E sc ρ e) (fun Z Z Z=>(jo S call k).E sc ρ e) (fun Z Z Z Z=>(jo S call k).E sc ρ e) (fun Z Z Z=>(jo S call k).E sc ρ e) (fun Z Z Z Z=>(jo S call k).E sc ρ e) (fun Z Z Z Z=>(jo S call k).E sc ρ e) (fun Z Z Z=>(jo S call k).E sc ρ e) (fun Z Z Z=>(jo S call k).E sc ρ e) (fun Z Z Z Z=>(jo S call k).E sc ρ e) (fun Z Z Z Z=>(jo S call k).E sc ρ e) (fun Z Z Z Z Z=>(jo S call k).E sc ρ e) (fun Z Z Z Z=>(jo S call k).E sc ρ e) (fun Z Z=>(jo S call k).E sc ρ e) (fun Z Z=>(jo S call k).E sc ρ e) (fun Z Z=>(jo S call k).E sc ρ e) (fun Z Z Z Z=>(jo S call k).E sc ρ e) (fun Z Z Z Z=>(jo S call k).E sc ρ e) (fun Z Z Z Z=>(jo S call k).E sc ρ e) (fun Z Z=>(jo S call k).E sc ρ e) (fun Z Z Z=>(jo S call k).E sc ρ e) (fun Z Z Z=>(jo S call k).E sc ρ e) (fun Z Z Z=>(jo S call k).E sc ρ e) (fun Z Z=>(jo S call k).E sc ρ e) (fun Z Z=>(jo S call k).E sc ρ e) (fun es _=>k.casesOn stop fun k=>bnd ((jo S call k).L sc ρ es) fun vs=>wX vs) (fun Z Z Z=>(jo S call k).E sc ρ e) (fun Z Z Z Z=>(jo S call k).E sc ρ e)
noncomputable def LH (t:Expr) (op:Operator) (e:Expr) (kn:Kn):M PV:=t.casesOn (fun Z Z Z=>stop) (fun Z Z Z=>stop) (fun Z Z Z Z=>stop) (fun Z Z Z=>stop) (fun Z Z Z Z=>stop) (fun Z Z Z Z=>stop) (fun Z Z Z=>stop) (fun Z Z Z=>stop) (fun Z Z Z Z=>stop) (fun Z Z Z Z=>stop) (fun Z Z Z Z Z=>stop) (fun Z Z Z Z=>stop) (fun Z Z=>stop) (fun Z Z=>stop) (fun Z Z=>stop) (fun Z Z Z Z=>stop) (fun Z Z Z Z=>stop) (fun Z Z Z Z=>stop) (fun Z Z=>stop) (fun Z Z Z=>stop) (fun o a _=>bnd (f.E sc ρ o) fun ov=>bnd (aq S ov a) fun old=>bnd (f.E sc ρ e) fun v=>bnd (dF op old v) fun w=>bnd (am S ov a w) fun Z=>kn ρ) (fun o i _=>guard (x_ i) (bnd (f.E sc ρ o) fun ov=>bnd (f.E sc ρ i) fun iv=>bnd (ao ov iv) fun old=>bnd (f.E sc ρ e) fun v=>bnd (dF op old v) fun w=>bnd (cb ov iv w) fun Z=>kn ρ)) (fun Z Z=>stop) (fun x _=>bnd (rB S sc ρ x) fun old=>bnd (f.E sc ρ e) fun v=>bnd (dF op old v) fun w=>bnd (jK sc ρ x w) kn) (fun Z Z=>stop) (fun Z Z Z=>stop) (fun Z Z Z Z=>stop)
noncomputable def Hg (e:Expr):Bool:=![8,9,10,19].contains (kindOf e)
end
structure Ly where
 one:Scope→cP→Stmt→Kn→Kn→Kn→(PV→M PV)→M PV
 all:Scope→cP→List Stmt→Kn→Kn→Kn→(PV→M PV)→M PV
section
variable (S:lU) (call:PV→List PV→M PV) (k:Nat) (g:Ly) (sc:Scope) (ρ:cP)
noncomputable def EP (t:Expr) (b:List Stmt) (kn:Kn) (kr:PV→M PV):M PV:=bc (fun ρ=>(jo S call k).T sc ρ t) (fun ρ n b' c=>g.all sc ρ b n b' c kr) kn S.loops ρ
noncomputable def Ln (tgt it:Expr) (b:List Stmt) (kn:Kn) (kr:PV→M PV):M PV :=
 guard (BK it) (bnd ((jo S call k).E sc ρ it) fun v=>bnd (ce v) fun i=>cJ (fun v ρ n b' c=>dx sc ρ tgt v fun ρ'=>g.all sc ρ' b n b' c kr) kn S.loops i ρ)
noncomputable def Ng (s:Stmt) (kn kb kc:Kn) (kr:PV→M PV):M PV:=s.casesOn (fun Z Z Z Z Z Z Z Z Z Z=>stop) (fun Z Z Z Z Z Z Z Z Z Z=>stop) (fun Z Z Z Z Z Z Z Z Z Z Z=>stop) (fun v _=>v.casesOn (kr .none) fun e=>bnd ((jo S call k).E sc ρ e) kr) (fun Z Z=>stop) (fun ts e _=>ts.casesOn stop fun t ts=>ts.casesOn (guard (I_ t e) (bnd (Mz S call sc ρ k e) fun v=>Lw S (jo S call k) sc ρ t v kn)) fun Z Z=>stop) (fun Z Z Z Z Z Z Z=>stop) (fun t op e _=>LH S (jo S call k) sc ρ t op e kn) (fun Z Z Z Z Z=>stop) (fun tgt it b o _=>o.casesOn (Ln S call k g sc ρ tgt it b kn kr) fun Z Z=>stop) (fun Z Z Z Z Z=>stop) (fun t b o _=>o.casesOn (EP S call k g sc ρ t b kn kr) fun Z Z=>stop) (fun t b o _=>bnd ((jo S call k).T sc ρ t) fun c=>br c (g.all sc ρ b kn kb kc kr) (g.all sc ρ o kn kb kc kr)) (fun Z Z Z=>stop) (fun Z Z Z=>stop) (fun Z Z Z=>stop) (fun Z Z Z=>stop) (fun Z Z Z Z Z=>stop) (fun Z Z Z Z Z=>stop) (fun Z Z Z=>stop) (fun Z Z=>stop) (fun Z Z Z Z=>stop) (fun Z Z=>stop) (fun Z Z=>stop) (fun e _=>guard (Hg e) (bnd ((jo S call k).E sc ρ e) fun Z=>kn ρ)) (fun Z=>kn ρ) (fun Z=>kb ρ) (fun Z=>kc ρ)
noncomputable def MH (l:List Stmt) (kn kb kc:Kn) (kr:PV→M PV):M PV:=match l with
 | []=>kn ρ
 | s::r=>g.one sc ρ s (fun ρ'=>g.all sc ρ' r kn kb kc kr) kb kc kr
noncomputable def Ms:Nat→Ly:=Nat.rec ⟨fun Z Z Z Z Z Z Z=>stop,fun Z Z Z Z Z Z Z=>stop⟩ fun k g=>⟨fun sc ρ=>Ng S call k g sc ρ,fun sc ρ=>MH g sc ρ⟩
noncomputable def cS:Scope→cP→List Stmt→Kn→Kn→Kn→(PV→M PV)→M PV:=(Ms S call k).all
end
noncomputable def CY (fi:gA) (vs:List PV):Option (List (Str × PV)) :=
 if vs.length=fi.params.length then some (fi.params.zip vs)
 else if vs.length+fi.dflts.length=fi.params.length then some (fi.params.zip (vs++fi.dflts))
 else none
noncomputable def Jo (sc:Scope) (b:List (Str × PV)):cP:=lR sc (fun x=>b.lookup x) sc.names
noncomputable def FL (S:lU) (call:PV→List PV→M PV) (fi:gA) (vs:List PV):M PV :=
 opt (CY fi vs) fun b=>cS S call 100 fi.scope (Jo fi.scope b) fi.body (fun Z=>ret .none) (fun Z=>stop) (fun Z=>stop) ret
noncomputable def H1 (o p:PV):M PV:=orNone p (ret o) stop
noncomputable def aa (S:lU):Nat→PV→List PV→M PV:=Nat.rec (fun Z Z=>stop) fun _ call f vs=>orFn f (fun x=>opt (S.fns x) fun fi=>FL S call fi vs) <|
 orCls f (fun c=>opt (S.clss c) fun ci=>bnd (bT (.inst c [])) fun o=>bnd (call (.fn ci.init) (o::vs)) fun r=>H1 o r) stop
end
section
local macro_rules | `(tactic| omega)=>`(tactic| first | lia | omega +splitDisjunctions)
local macro_rules | `(tactic| cases $e:term)=>`(tactic| first
 | exact bG $e
 | exact bm $e
 | exact eI $e
 | exact dU $e
 | (have q1:=Jv $e; have q2:=I7 $e; (try clear $e); cases q1; cases q2)
 | (have q:=Option.some.inj $e; (try clear $e); cases q)
 | (have q:=Eq.symm $e; (try clear $e); subst q))
section
open PySem PySem.W PyProof.Rows
@[reducible] noncomputable def Pl:=Addr × Addr
@[reducible] noncomputable def Js:=List Pl
structure Fx where
 prog:Program
 w:World
 hb:Heap
 K:Frag
 mg:Str→Option Value
 mb:Str→Option Value
 fa:Str→Option Addr
 ca:Str→Option Addr
noncomputable def kF (μ:Js) (b:Addr):Prop:=∃ (n:Nat) (p:Pl),μ[n]?=some p∧(b=p.1∨b=p.2)
noncomputable def oa (B:List Addr) (μ:Js) (b:Addr):Prop:=b ∈ B∨kF μ b
@[reducible] noncomputable def dN (vs:Array Value) (k:Nat):Obj:={ cls:=.type "list",dict:=none,data:=.seq vs k,slots:=#[] }
noncomputable def vZ (o:Obj):Prop:=(∃ vs n,o.data=.seq vs n)∨(o.cls=.type "range"∧∃ fs,o.data=.fields fs)
@[reducible] noncomputable def fH (h h':Heap):Prop:=∀ b o,h.get? b=some o→h'.get? b=some o
structure oc where
 obj:Addr→Obj→Prop
 loc:Nat→Addr→Prop
structure oc.Le (V W:oc):Prop where
 obj:∀ a o,V.obj a o→W.obj a o
 loc:∀ n a,V.loc n a→W.loc n a
section
variable (X:Fx) (W:oc)
noncomputable def uT:PV→Value→Prop:=PV.rec (motive_1:=fun Z=>Value→Prop) (motive_2:=fun Z=>List Value→Prop) (motive_3:=fun Z=>(Str→Option Value)→Prop) (motive_4:=fun Z=>Value→Prop)
 (fun v=>v=.none) (fun b v=>v=.bool b) (fun i v=>∃ t,v=.int i t) (fun s v=>∃ t,v=.str (one s) t)
 (fun _ ih v=>∃ a o vs n,v=.ref a∧W.obj a o∧o.cls=.type "tuple"∧o.data=.seq vs n∧ih vs.toList)
 (fun _ ih v=>∃ a vs k,v=.ref a∧W.obj a (dN vs k)∧ih vs.toList)
 (fun _ ih v=>∃ a f,v=.ref a∧a≠sysModules∧X.hb.MapOf (strKind X.prog X.w) a f∧ih f)
 (fun x y z v=>∃ a t u w,v=.ref a∧W.obj a { cls:=.type "range",dict:=none,data:=.fields #[.int x t,.int y u,.int z w],slots:=#[] })
 (fun n v=>∃ a,v=.ref a∧W.loc n a) (fun x v=>∃ a,v=.ref a∧X.fa x=some a) (fun x v=>∃ a,v=.ref a∧X.ca x=some a) (fun id v=>v=.builtin id) (fun id v=>v=.type id)
 (fun vs=>vs=[]) (fun _ _ ih ihr vs=>∃ v us,vs=v::us∧ih v∧ihr us)
 (fun f=>∀ x,f x=none) (fun pr _ ih ihr f=>∃ v g,ih v∧ihr g∧∀ x,f x=if cs x=pr.1 then some v else g x) (fun _ _ ih=>ih)
noncomputable def gf:List PV→List Value→Prop:=PV.rec_1 (motive_1:=fun Z=>Value→Prop) (motive_2:=fun Z=>List Value→Prop) (motive_3:=fun Z=>(Str→Option Value)→Prop) (motive_4:=fun Z=>Value→Prop)
 (fun v=>v=.none) (fun b v=>v=.bool b) (fun i v=>∃ t,v=.int i t) (fun s v=>∃ t,v=.str (one s) t)
 (fun _ ih v=>∃ a o vs n,v=.ref a∧W.obj a o∧o.cls=.type "tuple"∧o.data=.seq vs n∧ih vs.toList)
 (fun _ ih v=>∃ a vs k,v=.ref a∧W.obj a (dN vs k)∧ih vs.toList)
 (fun _ ih v=>∃ a f,v=.ref a∧a≠sysModules∧X.hb.MapOf (strKind X.prog X.w) a f∧ih f)
 (fun x y z v=>∃ a t u w,v=.ref a∧W.obj a { cls:=.type "range",dict:=none,data:=.fields #[.int x t,.int y u,.int z w],slots:=#[] })
 (fun n v=>∃ a,v=.ref a∧W.loc n a) (fun x v=>∃ a,v=.ref a∧X.fa x=some a) (fun x v=>∃ a,v=.ref a∧X.ca x=some a) (fun id v=>v=.builtin id) (fun id v=>v=.type id)
 (fun vs=>vs=[]) (fun _ _ ih ihr vs=>∃ v us,vs=v::us∧ih v∧ihr us)
 (fun f=>∀ x,f x=none) (fun pr _ ih ihr f=>∃ v g,ih v∧ihr g∧∀ x,f x=if cs x=pr.1 then some v else g x) (fun _ _ ih=>ih)
noncomputable def u_:List (List Nat × PV)→(Str→Option Value)→Prop:=PV.rec_2 (motive_1:=fun Z=>Value→Prop) (motive_2:=fun Z=>List Value→Prop) (motive_3:=fun Z=>(Str→Option Value)→Prop) (motive_4:=fun Z=>Value→Prop)
 (fun v=>v=.none) (fun b v=>v=.bool b) (fun i v=>∃ t,v=.int i t) (fun s v=>∃ t,v=.str (one s) t)
 (fun _ ih v=>∃ a o vs n,v=.ref a∧W.obj a o∧o.cls=.type "tuple"∧o.data=.seq vs n∧ih vs.toList)
 (fun _ ih v=>∃ a vs k,v=.ref a∧W.obj a (dN vs k)∧ih vs.toList)
 (fun _ ih v=>∃ a f,v=.ref a∧a≠sysModules∧X.hb.MapOf (strKind X.prog X.w) a f∧ih f)
 (fun x y z v=>∃ a t u w,v=.ref a∧W.obj a { cls:=.type "range",dict:=none,data:=.fields #[.int x t,.int y u,.int z w],slots:=#[] })
 (fun n v=>∃ a,v=.ref a∧W.loc n a) (fun x v=>∃ a,v=.ref a∧X.fa x=some a) (fun x v=>∃ a,v=.ref a∧X.ca x=some a) (fun id v=>v=.builtin id) (fun id v=>v=.type id)
 (fun vs=>vs=[]) (fun _ _ ih ihr vs=>∃ v us,vs=v::us∧ih v∧ihr us)
 (fun f=>∀ x,f x=none) (fun pr _ ih ihr f=>∃ v g,ih v∧ihr g∧∀ x,f x=if cs x=pr.1 then some v else g x) (fun _ _ ih=>ih)
end
section
variable {X:Fx} {V W:oc}
theorem cq (h:V.Le W) {p:PV}:∀ {v:Value},uT X V p v→uT X W p v:=by
 refine PV.rec (motive_1:=fun p=>∀ {v},uT X V p v→uT X W p v) (motive_2:=fun l=>∀ {v},gf X V l v→gf X W l v) (motive_3:=fun l=>∀ {v},u_ X V l v→u_ X W l v)
  (motive_4:=fun p=>∀ {v},uT X V p.2 v→uT X W p.2 v) ?_ ?_ ?_ ?_ ?_ ?_ ?_ ?_ ?_ ?_ ?_ ?_ ?_ ?_ ?_ ?_ ?_ ?_ p
 ·exact fun x=>x
 ·exact fun _ _ x=>x
 ·exact fun _ _ x=>x
 ·exact fun _ _ x=>x
 ·rintro _ ih _ ⟨a,o,vs,n,e,q,c,d,l⟩; exact ⟨a,o,vs,n,e,h.obj a o q,c,d,ih l⟩
 ·rintro _ ih _ ⟨a,vs,n,e,q,l⟩; exact ⟨a,vs,n,e,h.obj a _ q,ih l⟩
 ·rintro _ ih _ ⟨a,f,e,n,m,l⟩; exact ⟨a,f,e,n,m,ih l⟩
 ·rintro _ _ _ _ ⟨a,t,u,w,e,q⟩; exact ⟨a,t,u,w,e,h.obj a _ q⟩
 ·rintro n _ ⟨a,e,q⟩; exact ⟨a,e,h.loc n a q⟩
 ·exact fun _ _ x=>x
 ·exact fun _ _ x=>x
 ·exact fun _ _ x=>x
 ·exact fun _ _ x=>x
 ·exact fun x=>x
 ·rintro _ _ ih ihr _ ⟨v,us,e,a,b⟩; exact ⟨v,us,e,ih a,ihr b⟩
 ·exact fun x=>x
 ·rintro _ _ ih ihr _ ⟨v,g,a,b,c⟩; exact ⟨v,g,ih a,ihr b,c⟩
 ·exact fun _ _ ih=>ih
theorem dA (h:V.Le W) {l:List PV}:∀ {vs:List Value},gf X V l vs→gf X W l vs:=by
 induction l with
 | nil=>exact fun x=>x
 | cons p r ih=>rintro _ ⟨v,us,e,a,b⟩; exact ⟨v,us,e,cq h a,ih b⟩
theorem zr (h:V.Le W) {l:List (List Nat × PV)}:∀ {f:Str→Option Value},u_ X V l f→u_ X W l f:=by
 induction l with
 | nil=>exact fun x=>x
 | cons p r ih=>rintro _ ⟨v,g,a,b,c⟩; exact ⟨v,g,cq h a,ih b,c⟩
noncomputable def JO (X:Fx) (W:oc) (o:Option PV) (f:Option Value):Prop:=o.casesOn (f=none) fun q=>∃ v,f=some v∧uT X W q v
theorem nK {x:Str} {l:List (List Nat × PV)}:∀ {f:Str→Option Value},u_ X W l f→JO X W (l.lookup (cs x)) (f x):=by
 induction l with
 | nil=>exact fun h=>h x
 | cons p r ih =>
  rintro f ⟨v,g,a,b,c⟩
  rw [List.lookup_cons,c]
  by_cases h:cs x=p.1
  ·rw [beq_iff_eq.mpr h,if_pos h]; exact ⟨v,rfl,a⟩
  ·rw [beq_eq_false_iff_ne.mpr h,if_neg h]; exact ih b
theorem j2 {l:List PV}:∀ {vs:List Value},gf X W l vs→vs.length=l.length:=by
 induction l with
 | nil=>exact fun x=>congrArg List.length x
 | cons p r ih=>rintro _ ⟨v,us,rfl,a,b⟩; exact congrArg (·+1) (ih b)
theorem qa {p:PV} {l:List PV}:∀ {vs:List Value} {i:Nat},gf X W l vs→l[i]?=some p→∃ v,vs[i]?=some v∧uT X W p v:=by
 induction l with
 | nil=>exact fun _ e=>(by first | exact bm e | exact bG e | exact dU e | exact eI e | exact nomatch e)
 | cons q r ih =>
  rintro _ i ⟨v,us,rfl,a,b⟩ e
  cases i with
  | zero=>cases e; exact ⟨v,rfl,a⟩
  | succ i=>exact ih (i:=i) b e
theorem nj {m:List PV} {us:List Value} (c:gf X W m us) {l:List PV}:∀ {vs:List Value},gf X W l vs→gf X W (l++m) (vs++us):=by
 induction l with
 | nil=>rintro _ rfl; exact c
 | cons q r ih=>rintro _ ⟨v,us,rfl,a,b⟩; exact ⟨v,_,rfl,a,ih b⟩
theorem qH {l:List PV}:∀ (n:Nat) {vs:List Value},gf X W l vs→gf X W (l.take n) (vs.take n):=by
 induction l with
 | nil=>rintro n _ rfl; cases n <;> rfl
 | cons q r ih =>
  rintro n _ ⟨v,us,rfl,a,b⟩
  cases n with
  | zero=>rfl
  | succ n=>exact ⟨v,_,rfl,a,ih n b⟩
theorem vF {l:List PV}:∀ (n:Nat) {vs:List Value},gf X W l vs→gf X W (l.drop n) (vs.drop n):=by
 induction l with
 | nil=>rintro n _ rfl; cases n <;> rfl
 | cons q r ih =>
  rintro n _ ⟨v,us,rfl,a,b⟩
  cases n with
  | zero=>exact ⟨v,us,rfl,a,b⟩
  | succ n=>exact ih n b
theorem Fe {v:Value} {p:PV} (x:uT X W p v) {l:List PV}:∀ (n:Nat) {vs:List Value},gf X W l vs→gf X W (l.set n p) (vs.set n v):=by
 induction l with
 | nil=>rintro n _ rfl; exact rfl
 | cons q r ih =>
  rintro n _ ⟨u,us,rfl,a,b⟩
  cases n with
  | zero=>exact ⟨v,us,rfl,x,b⟩
  | succ n=>exact ⟨u,_,rfl,a,ih n b⟩
theorem G6 {v:Value} {p:PV} (x:uT X W p v) (n:Nat):gf X W (List.replicate n p) (List.replicate n v):=by
 induction n with
 | zero=>rfl
 | succ n ih=>exact ⟨v,_,rfl,x,ih⟩
theorem dH {l:List PV} {vs:Array Value} (h:gf X W l vs.toList):vs.size=l.length:=j2 h
theorem ze {v:Value} {p:PV} (x:uT X W p v):gf X W [p] [v]:=⟨v,[],rfl,x,rfl⟩
end
noncomputable def Ij (X:Fx) (W:oc) (h:Heap) (d:Addr) (as:List (Str × PV)):Prop :=
 ∃ m,h.Ns1 d m∧(∀ x p,as.lookup x=some p→∃ v,m x=some v∧uT X W p v)∧∀ x,as.lookup x=none→m x=none
noncomputable def l_ (X:Fx) (W:oc) (h:Heap) (p:Pl) (c:dl):Prop:=c.casesOn (fun l=>p.1=p.2∧∃ vs k,h.get? p.1=some (dN vs k)∧gf X W l vs.toList)
 (fun c as=>p.1≠p.2∧∃ C,X.ca c=some C∧h.get? p.1=some (instObj C p.2)∧Ij X W h p.2 as) fun es=>p.1=p.2∧p.1≠sysModules∧∃ f,h.MapOf (strKind X.prog X.w) p.1 f∧u_ X W es f
noncomputable def view (B:List Addr) (h:Heap) (μ:Js):oc:=⟨fun a o=>h.get? a=some o∧vZ o∧¬ oa B μ a,fun n a=>∃ q,μ[n]?=some (a,q)⟩
structure Kb (X:Fx) (B:List Addr) (σ:ah) (μ:Js) (h:Heap):Prop where
 stays:fH X.hb h
 len:μ.length=σ.length
 cell:∀ (n:Nat) (c:dl) (p:Pl),σ[n]?=some c→μ[n]?=some p→l_ X (view B h μ) h p c
 free:∀ a,oa B μ a→X.hb.get? a=none
 bans:∀ a,a ∈ B→∃ o,h.get? a=some o
 apart:∀ (n m:Nat) (p q:Pl) (a:Addr),μ[n]?=some p→μ[m]?=some q→(a=p.1∨a=p.2)→(a=q.1∨a=q.2)→n=m
structure Pt (X:Fx) where
 s:Shared
 σ:ah
 μ:Js
 B:List Addr
 R:Kb X B σ μ s.heap
@[reducible] noncomputable def Pt.h {X:Fx} (z:Pt X):Heap:=z.s.heap
@[reducible] noncomputable def Pt.W {X:Fx} (z:Pt X):oc:=view z.B z.s.heap z.μ
@[reducible] noncomputable def Pt.V {X:Fx} (z:Pt X) (p:PV) (v:Value):Prop:=uT X z.W p v
@[reducible] noncomputable def Pt.L {X:Fx} (z:Pt X) (l:List PV) (vs:List Value):Prop:=gf X z.W l vs
structure iZ {X:Fx} (own:Addr→Prop) (z z':Pt X):Prop where
 rest:z'.s={ z.s with heap:=z'.s.heap,toks:=z'.s.toks }
 map:∀ (n:Nat) (p:Pl),z.μ[n]?=some p→z'.μ[n]?=some p
 live:∀ b o,z.h.get? b=some o→∃ o',z'.h.get? b=some o'
 keep:∀ b o,z.h.get? b=some o→¬ kF z.μ b→¬ own b→z'.h.get? b=some o
 plc:∀ b o,z.h.get? b=some o→¬ kF z.μ b→¬ kF z'.μ b
 ban:∀ b o,z.h.get? b=some o→b ∉ z.B→b ∉ z'.B
 sub:∀ b,b ∈ z.B→b ∈ z'.B
noncomputable def Gl:Addr→Prop:=fun Z=>False
@[reducible] noncomputable def Le {X:Fx} (z z':Pt X):Prop:=iZ Gl z z'
noncomputable def zA (h:Heap) (own:Addr→Prop):Prop:=∀ a o,h.get? a=some o→own a→¬ vZ o
section
variable {X:Fx} {own own':Addr→Prop} {z z' z'':Pt X}
theorem iZ.foot (a:iZ own z z') {b:Addr} {o:Obj} (e:z.h.get? b=some o) (n:¬ oa z.B z.μ b):¬ oa z'.B z'.μ b:=fun f=>f.elim (a.ban b o e fun q=>n (.inl q)) (a.plc b o e fun q=>n (.inr q))
theorem iZ.refl:iZ own z z:=⟨rfl,fun _ _ e=>e,fun _ o e=>⟨o,e⟩,fun _ _ e _ _=>e,fun _ _ _ n=>n,fun _ _ _ n=>n,fun _ m=>m⟩
theorem iZ.trans (a:iZ own z z') (b:iZ own z' z''):iZ own z z'':=by
 refine ⟨by rw [b.rest,a.rest],fun n p e=>b.map n p (a.map n p e),fun x o e=>?_,fun x o e nf no=>b.keep x o (a.keep x o e nf no) (a.plc x o e nf) no,fun x o e nf=>?_,fun x o e nf=>?_,fun c m=>b.sub c (a.sub c m)⟩ <;> obtain ⟨o',e'⟩:=a.live x o e
 ·exact b.live x o' e'
 ·exact b.plc x o' e' (a.plc x o e nf)
 ·exact b.ban x o' e' (a.ban x o e nf)
theorem iZ.fresh (a:iZ own z z') (b:iZ own' z' z'') (w:∀ x,own' x→z.h.get? x=none):iZ own z z'':=by
 refine ⟨by rw [b.rest,a.rest],fun n p e=>b.map n p (a.map n p e),fun x o e=>?_,fun x o e nf no=>b.keep x o (a.keep x o e nf no) (a.plc x o e nf) fun q=>?_,fun x o e nf=>?_,fun x o e nf=>?_,fun c m=>b.sub c (a.sub c m)⟩
 ·exact (a.live x o e).elim fun o' e'=>b.live x o' e'
 ·have:=w x q; rw [e] at this; cases this
 ·exact (a.live x o e).elim fun o' e'=>b.plc x o' e' (a.plc x o e nf)
 ·exact (a.live x o e).elim fun o' e'=>b.ban x o' e' (a.ban x o e nf)
theorem iZ.weak (a:iZ own z z') (w:∀ x o,z.h.get? x=some o→own x→own' x):iZ own' z z':=⟨a.rest,a.map,a.live,fun b o e nf no=>a.keep b o e nf fun x=>no (w b o e x),a.plc,a.ban,a.sub⟩
theorem iZ.no (a:Le z z'):iZ own z z':=a.weak fun _ _ _ x=>x.elim
theorem bj {h:Heap}:h.get? h.objs.size=none:=by
 cases e:h.get? h.objs.size with
 | none=>rfl
 | some o=>exact absurd (Heap.lt_size e) (Nat.lt_irrefl _)
theorem xG {γ:Type} {o:Option γ} (h:∀ x,o≠some x):o=none:=by
 cases o with
 | none=>rfl
 | some x=>exact absurd rfl (h x)
theorem cZ {γ:Type} {o:Option γ} {x:γ} (h:o=none) (h':o=some x):False:=by rw [h] at h'; cases h'
theorem Kb.live {B σ μ h} (R:Kb X B σ μ h) {a:Addr} (f:kF μ a):∃ o,h.get? a=some o:=by
 obtain ⟨n,p,e,ha⟩:=f
 obtain ⟨hn,_⟩:=List.getElem?_eq_some_iff.mp e
 rw [R.len] at hn
 have C:=R.cell n σ[n] p (List.getElem?_eq_getElem hn) e
 generalize σ[n]=c at C
 cases c with
 | lst l =>
  obtain ⟨hp,vs,k,hg,_⟩:=C
  exact ⟨_,(ha.elim (fun x=>x ▸ hg) fun x=>x ▸ hp ▸ hg)⟩
 | inst c as =>
  obtain ⟨_,C,_,hg,m,⟨o,es,ep,ho,_⟩,_⟩:=C
  exact ha.elim (fun x=>⟨_,x ▸ hg⟩) fun x=>⟨_,x ▸ ho⟩
 | dct es =>
  obtain ⟨hp,_,f,⟨o,es',ep,ho,_⟩,_⟩:=C
  exact ⟨_,(ha.elim (fun x=>x ▸ ho) fun x=>x ▸ hp ▸ ho)⟩
theorem Pt.fresh (z:Pt X) {a:Addr} (e:z.h.get? a=none):¬ oa z.B z.μ a:=fun f=>(f.elim (z.R.bans a) z.R.live).elim fun _ q=>cZ e q
theorem Pt.hb (z:Pt X) {a:Addr} (e:z.h.get? a=none):X.hb.get? a=none:=xG fun o q=>cZ e (z.R.stays a o q)
theorem iZ.gone (a:iZ own z z') {x:Addr} (e:z'.h.get? x=none):z.h.get? x=none:=xG fun o q=>(a.live x o q).elim fun _ p=>cZ e p
theorem iZ.view (a:iZ own z z') (ok:zA z.h own):z.W.Le z'.W :=
 ⟨fun x o e=>⟨a.keep x o e.1 (fun p=>e.2.2 (.inr p)) (fun w=>ok x o e.1 w e.2.1),e.2.1,a.foot e.1 e.2.2⟩,fun n x e=>e.imp fun _ e=>a.map n _ e⟩
theorem tI {h:Heap}:zA h Gl:=fun _ _ _ x=>x.elim
theorem Le.W (a:Le z z'):z.W.Le z'.W:=iZ.view a tI
theorem Le.V (a:Le z z') {p v} (x:z.V p v):z'.V p v:=cq (Le.W a) x
theorem Le.L (a:Le z z') {l vs} (x:z.L l vs):z'.L l vs:=dA (Le.W a) x
theorem MapOf.keep {h h':Heap} {b:Addr} {f:Str→Option Value} (k:∀ o,h.get? b=some o→h'.get? b=some o) (m:h.MapOf (strKind X.prog X.w) b f):h'.MapOf (strKind X.prog X.w) b f :=
 m.imp fun o m=>m.imp fun _ m=>m.imp fun _ m=>⟨k o m.1,m.2⟩
theorem l_.map {V W:oc} {h h':Heap} {p:Pl} (m:V.Le W) (k:∀ b,(b=p.1∨b=p.2)→∀ o,h.get? b=some o→h'.get? b=some o) {c:dl} (C:l_ X V h p c):l_ X W h' p c:=by
 cases c with
 | lst l=>exact ⟨C.1,C.2.imp fun _ C=>C.imp fun _ C=>⟨k _ (.inl rfl) _ C.1,dA m C.2⟩⟩
 | inst c as=>exact ⟨C.1,C.2.imp fun _ C=>⟨C.1,k _ (.inl rfl) _ C.2.1,C.2.2.imp fun _ C=>⟨C.1.at (k _ (.inr rfl)),fun x p e=>(C.2.1 x p e).imp fun _ q=>⟨q.1,cq m q.2⟩,C.2.2⟩⟩⟩
 | dct es=>exact ⟨C.1,C.2.1,C.2.2.imp fun _ C=>⟨MapOf.keep (k _ (.inl rfl)) C.1,zr m C.2⟩⟩
end
end
section
open PySem PySem.W PyProof.Rows
@[reducible] noncomputable def WP (X:Fx) {α:Type} (A:Around) (t:Sem α) (Q:α→Shared→Prop) (s:Shared):Prop:=wpAny (model X.prog X.w) A t Q (fun Z Z=>False) s
structure om (n:Nat) (A:Around):Prop where
 handled:A.handled=none
 depth:A.depth+3*n+3≤recursionLimit
 units:A.units+10*n+100<cLine
noncomputable def aA {X:Fx} {α β:Type} (A:Around) (z:Pt X) (P:Pt X→α→β→Prop) (m:M α) (t:Sem β):Prop :=
 ∀ (f:α→M PV) (out:PV × ah) (Q:β→Shared→Prop),bnd m f z.σ=some out→(∀ z' a b,Le z z'→P z' a b→f a z'.σ=some out→Q b z'.s)→WP X A t Q z.s
@[reducible] noncomputable def nM {X:Fx} (z:Pt X) (p:PV) (v:Value):Prop:=z.V p v
noncomputable def Hj {X:Fx} {γ:Type} (_:Pt X) (a b:γ):Prop:=b=a
noncomputable def M_ {X:Fx} {γ δ:Type} (_:Pt X) (_:γ) (_:δ):Prop:=True
@[reducible] noncomputable def Nr {X:Fx} (z:Pt X) (l:List PV) (vs:List Value):Prop:=z.L l vs
theorem Kb.keeps {X:Fx} {B σ μ} {h h':Heap} (R:Kb X B σ μ h) (k:fH h h'):Kb X B σ μ h' where
 stays b o e:=k b o (R.stays b o e)
 len:=R.len
 cell n c p e1 e2:=(R.cell n c p e1 e2).map (V:=view B h μ) (W:=view B h' μ) ⟨fun a o e=>⟨k a o e.1,e.2⟩,fun _ _ e=>e⟩ fun b _ o e=>k b o e
 free:=R.free
 bans a ha:=(R.bans a ha).imp fun o e=>k a o e
 apart:=R.apart
section
variable {X:Fx} {A:Around} {z z':Pt X} {α β γ:Type} {P:Pt X→α→β→Prop} {m:M α} {t:Sem β} {a:α}
noncomputable def Pt.grow (z:Pt X) (h:Heap) (t:Nat) (k:fH z.h h):Pt X:=⟨{ z.s with heap:=h,toks:=t },z.σ,z.μ,z.B,z.R.keeps k⟩
theorem Le.grow {h:Heap} {t:Nat} {k:fH z.h h} {own:Addr→Prop}:iZ own z (z.grow h t k):=⟨rfl,fun _ _ e=>e,fun b o e=>⟨o,k b o e⟩,fun b o e _ _=>k b o e,fun _ _ _ n=>n,fun _ _ _ n=>n,fun _ m=>m⟩
@[reducible] noncomputable def Pt.at (z:Pt X) (t:Nat):Pt X:=z.grow z.h t fun _ _ e=>e
theorem be {h:Heap} (o:Obj):fH h (h.push o):=fun _ _ e=>Heap.get?_push_of_some _ e
theorem aA.stop:aA A z P stop t:=fun _ _ _ e _=>nomatch (show none=some _ from e)
theorem aA.guard {b:Bool} (h:b=true→aA A z P m t):aA A z P (guard b m) t:=by
 cases b with
 | true=>exact h rfl
 | false=>exact .stop
theorem aA.opt {o:Option γ} {f:γ→M α} (h:∀ a,o=some a→aA A z P (f a) t):aA A z P (opt o f) t:=by
 cases o with
 | some a=>exact h a rfl
 | none=>exact .stop
theorem aA.br {c:Bool} {n:M α} (h:c=true→aA A z P m t) (h':c=false→aA A z P n t):aA A z P (br c m n) t:=by
 cases c with
 | true=>exact h rfl
 | false=>exact h' rfl
theorem aA.ite {c:Prop} [Decidable c] {n:M α} (h:c→aA A z P m t) (h':¬ c→aA A z P n t):aA A z P (if c then m else n) t:=by
 by_cases q:c
 ·rw [if_pos q]; exact h q
 ·rw [if_neg q]; exact h' q
theorem aA.eq {n:M α} (e:m z.σ=n z.σ) (h:aA A z P n t):aA A z P m t:=fun f out Q q k=>h f out Q (by unfold bnd at q ⊢; rw [← e]; exact q) k
theorem aA.getL {n:Nat} {f:List PV→M α} (h:∀ l,z.σ[n]?=some (.lst l)→aA A z P (f l) t):aA A z P (getL n f) t:=by
 refine .eq (n:=Mine.opt z.σ[n]? fun c=>c.casesOn f (fun Z Z=>Mine.stop) fun Z=>Mine.stop) rfl (.opt fun c e=>?_)
 cases c with
 | lst l=>exact h l e
 | _=>exact .stop
theorem aA.getI {n:Nat} {f:Str→List (Str × PV)→M α} (h:∀ c as,z.σ[n]?=some (.inst c as)→aA A z P (f c as) t):aA A z P (getI n f) t:=by
 refine .eq (n:=Mine.opt z.σ[n]? fun c=>c.casesOn (fun Z=>Mine.stop) f fun Z=>Mine.stop) rfl (.opt fun c e=>?_)
 cases c with
 | inst c as=>exact h c as e
 | _=>exact .stop
theorem aA.getD {n:Nat} {f:List (List Nat × PV)→M α} (h:∀ l,z.σ[n]?=some (.dct l)→aA A z P (f l) t):aA A z P (getD n f) t:=by
 refine .eq (n:=Mine.opt z.σ[n]? fun c=>c.casesOn (fun Z=>Mine.stop) (fun Z Z=>Mine.stop) f) rfl (.opt fun c e=>?_)
 cases c with
 | dct l=>exact h l e
 | _=>exact .stop
theorem aA.now (h:∀ Q:β→Shared→Prop,(∀ b t,P (z.at t) a b→Q b { z.s with toks:=t })→WP X A t Q z.s):aA A z P (ret a) t :=
 fun f out Q e q=>h Q fun b t hb=>q (z.at t) a b .grow hb e
theorem aA.new (h:∀ Q:β→Shared→Prop,(∀ b h' t (k:fH z.h h'),P (z.grow h' t k) a b→Q b { z.s with heap:=h',toks:=t })→WP X A t Q z.s):aA A z P (ret a) t :=
 fun f out Q e q=>h Q fun b h' t k hb=>q (z.grow h' t k) a b .grow hb e
theorem aA.run {δ ε:Type} {P:Pt X→δ→ε→Prop} {m:M δ} {t:Sem ε} {g:δ→M γ} {f:γ→M PV} {out:PV × ah} {Q:ε→Shared→Prop} (h:aA A z P m t) (e:bnd (bnd m g) f z.σ=some out)
  (k:∀ z' a b,Le z z'→P z' a b→bnd (g a) f z'.σ=some out→Q b z'.s):WP X A t Q z.s:=h (fun a=>bnd (g a) f) out Q (by rw [gw] at e; exact e) k
theorem aA.bnd {δ ε:Type} {P':Pt X→δ→ε→Prop} {g:α→M δ} {u:Sem ε} {c:β→Sem ε} (h:aA A z P m t) (hT:∀ Q,WP X A t (fun b s=>WP X A (c b) Q s) z.s→WP X A u Q z.s)
  (k:∀ z' a b,Le z z'→P z' a b→aA A z' P' (g a) (c b)):aA A z P' (bnd m g) u :=
 fun f out Q e q=>hT Q (h.run e fun z1 a b L1 p e1=>k z1 a b L1 p f out Q e1 fun z2 d x L2=>q z2 d x (L1.trans L2))
variable {p q:PV} {v u:Value} {T:Value→Sem β}
theorem aA.orNone (hv:z.V p v) (h:aA A z P m (T .none)) {n:M α} (h':aA A z P n (T v)):aA A z P (orNone p m n) (T v):=by
 cases p with
 | none=>cases (show v=_ from hv); exact h
 | _=>exact h'
theorem aA.orBool {f:Bool→M α} (hv:z.V p v) (h:∀ b,aA A z P (f b) (T (.bool b))) (h':aA A z P m (T v)):aA A z P (orBool p f m) (T v):=by
 cases p with
 | bool b=>cases (show v=_ from hv); exact h b
 | _=>exact h'
theorem aA.orInt {f:Int→M α} (hv:z.V p v) (h:∀ x t,aA A z P (f x) (T (.int x t))) (h':aA A z P m (T v)):aA A z P (orInt p f m) (T v):=by
 cases p with
 | int x=>obtain ⟨t,rfl⟩:=hv; exact h x t
 | _=>exact h'
theorem aA.orStr {f:List Nat→M α} (hv:z.V p v) (h:∀ x t,aA A z P (f x) (T (.str (one x) t))) (h':aA A z P m (T v)):aA A z P (orStr p f m) (T v):=by
 cases p with
 | str x=>obtain ⟨t,rfl⟩:=hv; exact h x t
 | _=>exact h'
theorem aA.orTup {f:List PV→M α} (hv:z.V p v) (h:∀ l a o vs n,z.h.get? a=some o→o.cls=.type "tuple"→o.data=.seq vs n→z.L l vs.toList→aA A z P (f l) (T (.ref a))) (h':aA A z P m (T v)):aA A z P (orTup p f m) (T v):=by
 cases p with
 | tup l=>obtain ⟨a,o,vs,n,rfl,e,c,d,r⟩:=hv; exact h l a o vs n e.1 c d r
 | _=>exact h'
theorem aA.orFrz {f:List PV→M α} (hv:z.V p v) (h:∀ l a vs k,z.W.obj a (dN vs k)→z.L l vs.toList→aA A z P (f l) (T (.ref a))) (h':aA A z P m (T v)):aA A z P (orFrz p f m) (T v):=by
 cases p with
 | frz l=>obtain ⟨a,vs,k,rfl,e,r⟩:=hv; exact h l a vs k e r
 | _=>exact h'
theorem aA.orDct {f:List (List Nat × PV)→M α} (hv:z.V p v) (h:∀ l a g,a≠sysModules→z.h.MapOf (strKind X.prog X.w) a g→u_ X z.W l g→aA A z P (f l) (T (.ref a))) (h':aA A z P m (T v)):aA A z P (orDct p f m) (T v):=by
 cases p with
 | dct l=>obtain ⟨a,g,rfl,n,d,r⟩:=hv; exact h l a g n (MapOf.keep (z.R.stays a) d) r
 | _=>exact h'
theorem aA.orRng {f:Int→Int→Int→M α} (hv:z.V p v) (h:∀ x y w a t t' t'',IsRange z.h a x y w t t' t''→aA A z P (f x y w) (T (.ref a))) (h':aA A z P m (T v)):aA A z P (orRng p f m) (T v):=by
 cases p with
 | rng x y w=>obtain ⟨a,t,t',t'',rfl,e⟩:=hv; exact h x y w a t t' t'' e.1
 | _=>exact h'
theorem aA.orLoc {f:Nat→M α} (hv:z.V p v) (h:∀ n (r:Pl),z.μ[n]?=some r→aA A z P (f n) (T (.ref r.1))) (h':aA A z P m (T v)):aA A z P (orLoc p f m) (T v):=by
 cases p with
 | loc n=>obtain ⟨a,rfl,b,e⟩:=hv; exact h n (a,b) e
 | _=>exact h'
theorem aA.atL {f:List PV→M α} {n:Nat} {r:Pl} (hr:z.μ[n]?=some r) (h:∀ l vs k,z.σ[n]?=some (.lst l)→r.1=r.2→z.h.get? r.1=some (dN vs k)→z.L l vs.toList→aA A z P (f l) t):aA A z P (Mine.getL n f) t :=
 .getL fun l e=>(z.R.cell n _ r e hr).2.elim fun vs q=>q.elim fun k q=>h l vs k e (z.R.cell n _ r e hr).1 q.1 q.2
theorem aA.withL {f:List PV→M α} (hv:z.V p v) (h:∀ l a vs k,z.h.get? a=some (dN vs k)→z.L l vs.toList→aA A z P (f l) (T (.ref a))):aA A z P (withL p f) (T v) :=
 .orFrz hv (fun l a vs k e r=>h l a vs k e.1 r) (.orLoc hv (fun n r hr=>.atL hr fun l vs k _ _ e q=>h l r.1 vs k e q) .stop)
theorem aA.int2 {f:Int→Int→M α} {T:Value→Value→Sem β} (hv:z.V p v) (hu:z.V q u) (h:∀ x t y t',aA A z P (f x y) (T (.int x t) (.int y t'))):aA A z P (int2 p q f) (T v u) :=
 .orInt (T:=fun v=>T v u) hv (fun x t=>.orInt (T:=T (.int x t)) hu (h x t) .stop) .stop
variable {l:List PV} {vs:List Value} {U:List Value→Sem β}
theorem aA.unN (hl:z.L l vs) (h:aA A z P m (U [])):aA A z P (unN l m) (U vs):=by
 cases l with
 | nil=>cases (show vs=_ from hl); exact h
 | cons _ _=>exact .stop
theorem aA.unC {f:PV→List PV→M α} (hl:z.L l vs) (h:∀ p r v us,z.V p v→z.L r us→aA A z P (f p r) (U (v::us))):aA A z P (unC l f) (U vs):=by
 cases l with
 | nil=>exact .stop
 | cons p r=>obtain ⟨v,us,rfl,a,b⟩:=hl; exact h p r v us a b
theorem aA.un1 {f:PV→M α} (hl:z.L l vs) (h:∀ p v,z.V p v→aA A z P (f p) (U [v])):aA A z P (un1 l f) (U vs):=.unC hl fun p r v us a b=>.unN (U:=fun us=>U (v::us)) b (h p v a)
theorem aA.un2 {f:PV→PV→M α} (hl:z.L l vs) (h:∀ p v q u,z.V p v→z.V q u→aA A z P (f p q) (U [v,u])):aA A z P (un2 l f) (U vs):=.unC hl fun p r v us a b=>.un1 (U:=fun us=>U (v::us)) b (h p v · · a)
end
end
section
open PySem PySem.W PyProof.Rows
theorem bC {h:Heap} {a:Addr} {vs:Array Value} {k:Nat} (e:h.get? a=some (dN vs k)):h.IsList a vs:=⟨_,e,rfl,k,rfl⟩
noncomputable def Ku (neg:Bool):CmpOp:=bif neg then .NotEq else .Eq
noncomputable def LV (neg:Bool):CmpOp:=bif neg then .NotIn else .In
noncomputable def MZ (neg r:Bool):Bool:=bif neg then !r else r
noncomputable def Ho {X:Fx} (neg:Bool) (_:Pt X) (r:Bool) (v:Value):Prop:=v=.bool (MZ neg r)
theorem sY {γ:Type} [BEq γ] [LawfulBEq γ] [DecidableEq γ] {x y:γ}:(x == y)=decide (x=y):=by
 rw [Bool.eq_iff_iff,beq_iff_eq,decide_eq_true_iff]
section
variable {X:Fx} {W:oc} {h:Heap} {A:Around} {z:Pt X} {p q:PV} {a b:Value} {n:Nat} {neg:Bool}
theorem Dg (e:GO p=true) (x:uT X W p a):Reads h a (MT p) []:=by
 cases p with
 | int i=>obtain ⟨t,rfl⟩:=x; exact .int _ _
 | _=>first | exact bm e | exact bG e | exact dU e | exact eI e | exact nomatch e
theorem AO {l:List PV}:∀ {vs:List Value},l.all GO=true→gf X W l vs→ReadsAll h vs (l.map MT) []:=by
 induction l with
 | nil=>rintro _ _ rfl; exact .nil
 | cons p r ih =>
  rintro _ e ⟨v,us,rfl,a,b⟩
  have e:=Bool.and_eq_true_iff.mp e
  exact .cons (Dg e.1 a) (ih e.2 b)
theorem Ek (e:sS p=true) (x:z.V p a):Reads z.h a (HA p) []:=by
 cases p with
 | tup l=>obtain ⟨a,o,vs,n,rfl,o1,c,d,r⟩:=x; exact .tuple o1.1 c d (AO e r)
 | _=>first | exact bm e | exact bG e | exact dU e | exact eI e | exact nomatch e
theorem uJ {l:List PV}:∀ {vs:List Value},l.all sS=true→z.L l vs→ReadsAll z.h vs (l.map HA) []:=by
 induction l with
 | nil=>rintro _ _ rfl; exact .nil
 | cons p r ih =>
  rintro _ e ⟨v,us,rfl,a,b⟩
  have e:=Bool.and_eq_true_iff.mp e
  exact .cons (Ek e.1 a) (ih e.2 b)
theorem uF {r:Bool} (h1:∀ Q:Value→Shared→Prop,Q (.bool r) z.s→WP X A (compareOp .Eq a b) Q z.s) (h2:∀ Q:Value→Shared→Prop,Q (.bool (!r)) z.s→WP X A (compareOp .NotEq a b) Q z.s):aA A z (Ho neg) (ret r) (compareOp (Ku neg) a b):=by
 cases neg with
 | false=>exact .now fun Q h=>h1 Q (h _ _ rfl)
 | true=>exact .now fun Q h=>h2 Q (h _ _ rfl)
theorem qy {d d':PyData} {as bs:List Addr} (x:Reads z.h a d as) (y:Reads z.h b d' bs) (c:d.canLay0=true) (c':d'.canLay0=true) (hd:A.units+d.depth<cLine):aA A z (Ho neg) (ret (d.eqv d')) (compareOp (Ku neg) a b) :=
 have hd:=Nat.lt_of_le_of_lt (Nat.add_le_add_left (Nat.min_le_left ..) _) hd
 uF (fun Q h=>SeqAt.compareEq_reads x y c c' hd h) fun Q h=>SeqAt.compareNe_reads x y c c' hd h
theorem GG (hr:om n A) (ha:z.V p a) (hb:z.V q b):aA A z (Ho neg) (Jt p q) (compareOp (Ku neg) a b):=by
 have hu:A.units<cLine:=Nat.lt_of_le_of_lt (by omega) hr.units
 refine .orBool (T:=fun a=>compareOp _ a b) ha (fun x=>.orBool hb (fun y=>qy (.bool x) (.bool y) rfl rfl hu) .stop) (.orInt (T:=fun a=>compareOp _ a b) ha (fun x t=>.orInt hb (fun y t'=>?_) .stop) (.orStr (T:=fun a=>compareOp _ a b) ha (fun x t=>.orStr hb (fun y t'=>?_) .stop)
  (.orNone (T:=fun a=>compareOp _ a b) ha (.orNone hb (qy .none .none rfl rfl hu) (.withL hb fun l a' vs k e r=>?_)) (.withL (T:=fun a=>compareOp _ a b) ha fun l a' vs k e r=>.orNone hb ?_ (.withL hb fun l' b' vs' k' e' r'=>.br (fun c=>.guard fun g=>?_) fun c=>?_)))))
 ·rw [← sY]; exact qy (.int x t) (.int y t') rfl rfl hu
 ·rw [← sY]; exact uF (fun Q h=>P.eq_str h) fun Q h=>P.ne_str h
 ·exact uF (fun Q h=>SeqAt.RcAt.none_list (bC e) hu _ _ _ _ h) fun Q h=>SeqAt.RcNeAt.none_list (bC e) hu _ _ _ _ h
 ·exact uF (fun Q h=>SeqAt.RcAt.list_none (bC e) hu _ _ _ _ h) fun Q h=>SeqAt.RcNeAt.list_none (bC e) hu _ _ _ _ h
 ·unfold Ca at g
  rw [Bool.and_eq_true,Bool.and_eq_true,Bool.and_eq_true,Bool.and_eq_true] at g
  exact qy (d:=.list (l.map HA)) (d':=.list (l'.map HA)) (.list e rfl rfl (uJ g.1.1.1.1 r)) (.list e' rfl rfl (uJ g.1.1.1.2 r')) g.1.1.2 g.1.2 (Nat.lt_of_le_of_lt (Nat.add_le_add_left (Nat.le_of_ble_eq_true g.2) _) (Nat.lt_of_le_of_lt (by omega) hr.units))
 ·have c:(vs.size != vs'.size)=true:=by rw [dH r,dH r']; exact bne_iff_ne.mpr (of_decide_eq_false c)
  exact uF (fun Q h=>SeqAt.RcAt.lists_lengths (bC e) (bC e') c hu _ _ _ _ h) fun Q h=>SeqAt.RcNeAt.lists_lengths (bC e) (bC e') c hu _ _ _ _ h
theorem AP {x y:Str}:cs x=cs y↔x=y:=⟨fun h=>congrArg one h,fun h=>congrArg cs h⟩
theorem z9 {l:List PV}:∀ {vs:List Value} {ys:List (List Nat)},tm l=some ys→gf X W l vs→∃ zs:List (Str × Tok),vs=strValues zs∧zs.map (·.1)=ys.map one:=by
 induction l with
 | nil=>rintro _ _ e rfl; cases e; exact ⟨[],rfl,rfl⟩
 | cons p r ih =>
  rintro _ ys e ⟨v,us,rfl,a,b⟩
  obtain ⟨x,e1,e⟩:=Option.bind_eq_some_iff.mp e
  obtain ⟨xs,e2,e⟩:=Option.bind_eq_some_iff.mp e
  cases e
  cases p with
  | str x=>cases e1; obtain ⟨t,rfl⟩:=a; obtain ⟨zs,rfl,h2⟩:=ih e2 b; exact ⟨(one _,t)::zs,rfl,congrArg (_::·) h2⟩
  | _=>cases e1
theorem yw {l:List PV}:∀ {vs:List Value} {ys:List Int},mJ l=some ys→gf X W l vs→IntsAre vs ys:=by
 induction l with
 | nil=>rintro _ _ e rfl; cases e; exact .nil
 | cons p r ih =>
  rintro _ ys e ⟨v,us,rfl,a,b⟩
  obtain ⟨x,e1,e⟩:=Option.bind_eq_some_iff.mp e
  obtain ⟨xs,e2,e⟩:=Option.bind_eq_some_iff.mp e
  cases e
  cases p with
  | int x=>cases e1; obtain ⟨t,rfl⟩:=a; exact .cons _ _ (ih e2 b)
  | _=>cases e1
theorem ti:∀ (zs:List (Str × Tok)),StrsAre (strValues zs) (zs.map (·.1))
 | []=>.nil
 | (_,_)::r=>.cons _ _ (ti r)
theorem H8 (x:List Nat) (ys:List (List Nat)):((ys.map one).any (· == one x))=ys.any fun y=>decide (y=x):=by
 rw [List.any_map]
 refine congrArg ys.any (funext fun y=>?_)
 exact (sY (x:=one y)).trans (decide_eq_decide.mpr AP.symm)
theorem v_ {x:List Nat} {c:Nat} (h:Bx x=some c):x=[c]:=by
 cases x with
 | nil=>cases h
 | cons d r=>cases r with
  | nil=>cases h; rfl
  | cons _ _=>cases h
theorem wF {r:Bool} (h1:∀ Q:Value→Shared→Prop,(∀ t,Q (.bool r) { z.s with toks:=t })→WP X A (compareOp .In a b) Q z.s) (h2:∀ Q:Value→Shared→Prop,(∀ t,Q (.bool (!r)) { z.s with toks:=t })→WP X A (compareOp .NotIn a b) Q z.s):aA A z (Ho neg) (ret r) (compareOp (LV neg) a b):=by
 cases neg with
 | false=>exact .now fun Q h=>h1 Q fun t=>h _ t rfl
 | true=>exact .now fun Q h=>h2 Q fun t=>h _ t rfl
theorem FF (ha:z.V p a) (hb:z.V q b):aA A z (Ho neg) (Mc p q) (compareOp (LV neg) a b):=by
 refine .orStr (T:=fun a=>compareOp _ a b) ha (fun x t=>.orStr hb (fun y t'=>.opt fun c hc=>?_) (.orTup hb (fun l a o vs n e hc hd r=>.opt fun ys hy=>?_) (.orDct hb (fun l a g hs hm r=>?_) .stop)))
  (.orInt (T:=fun a=>compareOp _ a b) ha (fun k t=>.withL hb fun l a vs kk e r=>.opt fun ns hn=>?_) .stop)
 ·rw [v_ hc]
  have hk:(!(Builtin.Str.occurrences (one y) ⟨#[c]⟩ 0 (one y).length 1).isEmpty)=y.contains c:=by
   rw [StrLaws.found_one]; exact (List.contains_eq_mem ..).symm
  rw [← hk]
  exact wF (fun Q h=>P.in_str (h _)) fun Q h=>P.notIn_str (h _)
 ·obtain ⟨zs,h1,h2⟩:=z9 hy r
  have h3:=h1 ▸ ti zs
  rw [← H8,← h2]
  exact wF (fun Q h=>in_tuple_strs ⟨_,e,hc,_,hd⟩ h3 (h _)) fun Q h=>notin_tuple_strs ⟨_,e,hc,_,hd⟩ h3 (h _)
 ·have hk:(g (one x)).isSome=(l.lookup x).isSome:=by
   have h:=nK (x:=one x) r
   revert h
   show JO X _ (l.lookup x) _→_
   cases l.lookup x with
   | none=>exact fun h=>congrArg Option.isSome h
   | some q=>exact fun h=>h.elim fun v h=>congrArg Option.isSome h.1
  have lo:(a == sysModules)=false:=beq_eq_false_iff_ne.mpr hs
  rw [← hk]
  exact wF (fun Q h=>wpAny_in_of (strKind_is _ _ (one x) t) lo hm (h _)) fun Q h=>wpAny_notIn_of (strKind_is _ _ (one x) t) lo hm (h _)
 ·have hi:=yw hn r
  rw [show (ns.any fun j=>decide (j=k))=ns.any (· == k) from congrArg ns.any (funext fun j=>sY.symm)]
  exact wF (fun Q h=>in_list_ints (vs:=vs.toList) (bC e) hi (h _)) fun Q h=>notin_list_ints (vs:=vs.toList) (bC e) hi (h _)
theorem aA.map {X:Fx} {A:Around} {z:Pt X} {α β δ:Type} {P P':Pt X→α→β→Prop} {P2:Pt X→δ→β→Prop} {m:M α} {t:Sem β} {g:α→δ} (h:aA A z P m t) (k:∀ z a b,P z a b→P2 z (g a) b):aA A z P2 (Mine.bnd m fun a=>Mine.ret (g a)) t :=
 fun f out Q e q=>h.run e fun z1 a b L p e1=>q z1 (g a) b L (k _ _ _ p) e1
theorem y0:∀ x y:List Nat,oA x y=decide (x<y)
 | [],[]=>by simp [oA]
 | _::_,[]=>by simp [oA]
 | [],_::_=>by simp [oA]
 | a::r,b::t=>by
  rw [oA,StrLaws.lt_cons_cons,y0 r t]
  congr 1
theorem CE (h:z.V p a):(a == Value.none)=x5 p:=by
 cases p with
 | tup _=>obtain ⟨_,_,_,_,rfl,_⟩:=h; rfl
 | frz _=>obtain ⟨_,_,_,rfl,_⟩:=h; rfl
 | dct _=>obtain ⟨_,_,rfl,_⟩:=h; rfl
 | rng _ _ _=>obtain ⟨_,_,_,_,rfl,_⟩:=h; rfl
 | int _=>obtain ⟨_,rfl⟩:=h; rfl
 | str _=>obtain ⟨_,rfl⟩:=h; rfl
 | loc _=>obtain ⟨_,rfl,_⟩:=h; rfl
 | fn _=>obtain ⟨_,rfl,_⟩:=h; rfl
 | cls _=>obtain ⟨_,rfl,_⟩:=h; rfl
 | _=>cases (show a=_ from h); rfl
theorem sW {op:CmpOp} (hr:om n A) (ha:z.V p a) (hb:z.V q b):aA A z (Ho false) (aj op p q) (compareOp op a b):=by
 cases op with
 | Eq=>exact GG (neg:=false) hr ha hb
 | NotEq=>exact aA.map (P':=Ho true) (GG (neg:=true) hr ha hb) fun _ _ _ h=>h
 | In=>exact FF (neg:=false) ha hb
 | NotIn=>exact aA.map (P':=Ho true) (FF (neg:=true) ha hb) fun _ _ _ h=>h
 | Is=>exact .orNone hb (.now fun Q h=>is_none (h _ _ (congrArg Value.bool (CE ha)))) .stop
 | IsNot=>exact .orNone hb (.now fun Q h=>isNot_none (h _ _ (congrArg (fun b=>Value.bool (!b)) (CE ha)))) .stop
 | Lt=>exact .int2 ha hb fun x t y t'=>.now fun Q h=>P.lt_int (h _ _ rfl)
 | Gt=>exact .int2 ha hb fun x t y t'=>.now fun Q h=>P.gt_int (h _ _ rfl)
 | GtE=>exact .int2 ha hb fun x t y t'=>.now fun Q h=>P.ge_int (h _ _ rfl)
 | LtE =>
  refine .orInt (T:=fun a=>compareOp _ a b) ha (fun x t=>.orInt hb (fun y t'=>.now fun Q h=>P.le_int (h _ _ rfl)) .stop) (.orStr (T:=fun a=>compareOp _ a b) ha (fun x t=>.orStr hb (fun y t'=>?_) .stop) .stop)
  rw [y0]
  exact .now fun Q h=>P.le_str (h _ _ rfl)
end
end
section
open PySem PySem.W PyProof.Rows
theorem eM {n:Nat} (h:Nat.ble n lim=true):n≤sizeLine:=by rw [sizeLine_eq]; exact Nat.le_trans (Nat.le_of_ble_eq_true h) (by decide)
theorem jR {i:Int} (h:small i=true):-1000000000≤i∧i≤1000000000 :=
 have h:=Int.ofNat_le.mpr (Nat.le_of_ble_eq_true h)
 ⟨Int.neg_le_of_neg_le (Int.le_trans (Int.natAbs_neg i ▸ Int.le_natAbs) h),Int.le_trans Int.le_natAbs h⟩
theorem Et {i:Int} (h:small i=true):i.natAbs<1073741824:=Nat.lt_of_le_of_lt (Nat.le_of_ble_eq_true h) (by decide)
theorem mE {k:Int} (h:ii k=true):0≤k∧k≤1000000000 :=
 have h:=Bool.and_eq_true_iff.mp h
 ⟨of_decide_eq_true h.1,(jR h.2).2⟩
theorem sZ {μ:Js} {p:Pl} {n:Nat} {q:Pl} (e:(μ++[p])[n]?=some q):μ[n]?=some q∨(n=μ.length∧q=p):=by
 by_cases hl:n<μ.length
 ·rw [List.getElem?_append_left hl] at e; exact .inl e
 ·have h1:=(List.getElem?_eq_some_iff.mp e).1
  rw [List.length_append,List.length_singleton] at h1
  have hn:n=μ.length:=by omega
  subst hn
  rw [List.getElem?_append_right (Nat.le_refl _),Nat.sub_self] at e
  exact .inr ⟨rfl,(Option.some.inj e).symm⟩
theorem Cy {μ:Js} {p:Pl} (n:Nat) (q:Pl) (e:μ[n]?=some q):(μ++[p])[n]?=some q:=by
 rw [List.getElem?_append_left (List.getElem?_eq_some_iff.mp e).1]; exact e
theorem zw {γ:Type} {l:List γ} {x:γ}:(l++[x])[l.length]?=some x:=by
 rw [List.getElem?_append_right (Nat.le_refl _),Nat.sub_self]; rfl
theorem q_ {μ:Js} {p:Pl} {b:Addr} (h:kF (μ++[p]) b):kF μ b∨(b=p.1∨b=p.2):=by
 obtain ⟨n,q,e,hb⟩:=h
 exact (sZ e).elim (fun e=>.inl ⟨n,q,e,hb⟩) fun e=>.inr (e.2 ▸ hb)
section
variable {X:Fx} {A:Around} {z:Pt X} {p q:PV} {a b:Value} {n:Nat} {h':Heap} {pl:Pl}
theorem qB (k:fH z.h h') (hn:∀ a,(a=pl.1∨a=pl.2)→z.h.get? a=none):z.W.Le (view z.B h' (z.μ++[pl])) :=
 ⟨fun a o e=>⟨k a o e.1,e.2.1,fun f=>e.2.2 (f.imp id fun f=>(q_ f).elim id fun x=>(cZ (hn a x) e.1).elim)⟩,fun n a e=>e.imp fun _ e=>Cy n _ e⟩
noncomputable def Pt.more (z:Pt X) (c:dl) (h':Heap) (t:Nat) (k:fH z.h h') (hn:∀ a,(a=pl.1∨a=pl.2)→z.h.get? a=none) (hc:l_ X (view z.B h' (z.μ++[pl])) h' pl c):Pt X where
 s:={ z.s with heap:=h',toks:=t }
 σ:=z.σ++[c]
 μ:=z.μ++[pl]
 B:=z.B
 R:=by
  have old:∀ x,kF z.μ x→¬ (x=pl.1∨x=pl.2):=fun x f hx=>(z.R.live f).elim fun o e=>cZ (hn x hx) e
  refine ⟨fun b o e=>k b o (z.R.stays b o e),by rw [List.length_append,List.length_append,z.R.len]; rfl,fun n d q e1 e2=>?_,fun a f=>?_,fun a ha=>(z.R.bans a ha).imp fun o e=>k a o e,fun n m q q' x e1 e2 h1 h2=>?_⟩
  ·rcases sZ e2 with e2 | ⟨rfl,rfl⟩
   ·rw [List.getElem?_append_left (z.R.len ▸ (List.getElem?_eq_some_iff.mp e2).1)] at e1
    exact (z.R.cell n d q e1 e2).map (qB k hn) fun b _ o e=>k b o e
   ·rw [z.R.len,zw] at e1
    cases e1; exact hc
  ·rcases f with f | f
   ·exact z.R.free a (.inl f)
   ·exact (q_ f).elim (fun f=>z.R.free a (.inr f)) fun f=>z.hb (hn a f)
  ·rcases sZ e1 with f1 | ⟨n1,n2⟩ <;> rcases sZ e2 with f2 | ⟨m1,m2⟩
   ·exact z.R.apart n m q q' x f1 f2 h1 h2
   ·exact absurd (m2 ▸ h2) (old x ⟨n,q,f1,h1⟩)
   ·exact absurd (n2 ▸ h1) (old x ⟨m,q',f2,h2⟩)
   ·rw [n1,m1]
theorem Le.more {c:dl} {t:Nat} {k:fH z.h h'} {hn:∀ a,(a=pl.1∨a=pl.2)→z.h.get? a=none} {hc} {own:Addr→Prop}:iZ own z (z.more c h' t k hn hc) :=
 ⟨rfl,Cy,fun b o e=>⟨o,k b o e⟩,fun b o e _ _=>k b o e,fun b o e nf f=>(q_ f).elim nf fun x=>cZ (hn b x) e,fun _ _ _ n=>n,fun _ m=>m⟩
theorem pY {c:dl} {t:Nat} {k:fH z.h h'} {hn:∀ a,(a=pl.1∨a=pl.2)→z.h.get? a=none} {hc}:(z.more c h' t k hn hc).V (.loc z.σ.length) (.ref pl.1):=⟨_,rfl,_,by rw [← z.R.len]; exact zw⟩
theorem aA.cell {β:Type} {l:List PV} {vs:List Value} {t:Sem Value} (r:z.L l vs) (h:∀ Q:Value→Shared→Prop,Q (.ref z.h.objs.size) { z.s with heap:=z.h.push { cls:=.type "list",data:=.seq vs.toArray } }→WP X A t Q z.s):aA A z nM (bT (.lst l)) t :=
 fun f out Q e q=>h Q (q (z.more (pl:=(z.h.objs.size,z.h.objs.size)) (.lst l) (z.h.push { cls:=.type "list",data:=.seq vs.toArray }) z.s.toks (be _) (fun a ha=>(ha.elim id id) ▸ bj)
  ⟨rfl,vs.toArray,0,Heap.get?_push_size _ rfl,dA (qB (pl:=(z.h.objs.size,z.h.objs.size)) (be _) fun a ha=>(ha.elim id id) ▸ bj) r⟩) _ _ .more pY e)
theorem KB {l:List PV} {vs:List Value} {t:Sem Value} (r:z.L l vs) (h:∀ Q:Value→Shared→Prop,vs.length≤sizeLine→Q (.ref z.h.objs.size) { z.s with heap:=z.h.push { cls:=.type "list",data:=.seq vs.toArray } }→WP X A t Q z.s):aA A z nM (wX l) t :=
 .guard fun g=>.cell (β:=Unit) r fun Q q=>h Q (j2 r ▸ eM g) q
theorem CK {l:List PV} {vs:Array Value} {t:Nat} {a:Addr} {k:fH z.h h'} (r:z.L l vs.toList) (hn:z.h.get? a=none) (e:h'.get? a=some (dN vs 0)):(z.grow h' t k).V (.frz l) (.ref a) :=
 ⟨a,vs,0,rfl,⟨e,.inl ⟨_,_,rfl⟩,z.fresh hn⟩,dA (Le.W .grow) r⟩
theorem Ix {l:List PV} {vs:List Value} {t:Sem Value} (r:z.L l vs) (h:∀ Q:Value→Shared→Prop,vs.length≤sizeLine→Q (.ref z.h.objs.size) { z.s with heap:=z.h.push { cls:=.type "list",data:=.seq vs.toArray } }→WP X A t Q z.s):aA A z nM (hM l) t :=
 .guard fun g=>.new fun Q q=>h Q (j2 r ▸ eM g) (q _ _ z.s.toks (be _) (CK (vs:=vs.toArray) r bj (Heap.get?_push_size _ rfl)))
theorem Im {x y:Int} (h:1≤y):x.fdiv y=x / y:=Int.fdiv_eq_ediv_of_nonneg _ (by omega)
theorem HP {x y:Int} (h:1≤y):x.fmod y=x % y:=Int.fmod_eq_emod_of_nonneg _ (by omega)
theorem Cj {x:Int} (h:small x=true):Builtin.Int.intBits x≤64:=intBits_le_64 (by have:=jR h; omega) (by have:=jR h; omega)
theorem Ip {x y:List Nat}:one x++one y=one (x++y):=congrArg Str.mk (List.append_toArray x y)
theorem gM {x:List Nat}:(one x).length=x.length:=List.size_toArray ..
theorem ke {i:Int} {t:Tok} {k:Nat}:(z.at k).V (.int i) (.int i t):=⟨t,rfl⟩
theorem CW {x:List Nat} {t:Tok} {k:Nat}:(z.at k).V (.str x) (.str (one x) t):=⟨t,rfl⟩
theorem tu {x y:List Nat} {t:Sem Value} (h:∀ Q:Value→Shared→Prop,(∀ t tk,Q (.str (one x++one y) t) { z.s with toks:=tk })→(one x).length+(one y).length≤sizeLine→WP X A t Q z.s):aA A z nM (guard (Nat.ble (x.length+y.length) lim) (ret (.str (x++y)))) t :=
 .guard fun g=>.now fun Q q=>h Q (fun t tk=>by rw [Ip]; exact q _ tk CW) (by rw [gM,gM]; exact eM g)
theorem Ir (ha:z.V p a) (hb:z.V q b):aA A z nM (Ma p q) (binaryOp .Add a b):=by
 refine .orInt (T:=fun a=>binaryOp _ a b) ha (fun x t=>.orInt hb (fun y t'=>.now fun Q h=>P.add_int (h _ _ ke)) .stop) (.orStr (T:=fun a=>binaryOp _ a b) ha (fun x t=>.orStr hb (fun y t'=>tu fun Q h g=>add_str h g) .stop)
  (.withL (T:=fun a=>binaryOp _ a b) ha fun l a vs k e r=>.withL hb fun l' b vs' k' e' r'=>?_))
 refine Ix (vs:=(vs++vs').toList) (by rw [Array.toList_append]; exact nj r' r) fun Q g q=>P.add_list e e' q ?_
 rwa [Array.length_toList,Array.size_append] at g
theorem tB (v:Value) (k:Nat):∀ (acc:Array Value),(List.replicate k #[v]).foldl (fun x1 x2=>x1++x2) acc=(acc.toList++List.replicate k v).toArray:=by
 induction k with
 | zero=>intro acc; exact (congrArg List.toArray (List.append_nil _)).symm
 | succ k ih=>intro acc; rw [List.replicate_succ,List.foldl_cons,ih,List.replicate_succ,Array.toList_append,List.append_assoc]; rfl
theorem Ad {k:Int} {w:Value} {c:Addr} {v:PV} {kk:Nat} {u:Tok} (h2:z.h.get? c=some (dN #[w] kk)) (rw':z.V v w) (h0:0≤k) (hk:k.toNat≤4194304):aA A z nM (bT (.lst (List.replicate k.toNat v))) (binaryOp .Mult (.ref c) (.int k u)):=by
 refine .cell (β:=Unit) (G6 rw' _) fun Q q=>?_
 refine wpAny_binaryOp_repeat_ref (T:="list") (U:="int") (by decide) ⟨_,h2,rfl⟩ (fun s'=>typeIs_int s' k u) noFill_list_mul F.fills_int_mul F.slot_int_rmul repeat_list F.slot_int_index.lookup
  (call_meets F.slot_int_rmul (typeIs_int z.s k u) F.entry_int_rmul (F.args_int_rmul_2 _ _) (int___rmul___int_list k u c #[w] kk)
   ⟨h2,rfl,⟨_,h2,rfl⟩,call_meets F.slot_list_mul ⟨_,h2,rfl⟩ F.entry_list_mul (F.args_list_mul_2 _ _)
    (AutoListH.list___mul___list_int_3 c #[w] kk k u (by simp [Builtin.List.listFitsIndex]; omega) (by simp; omega) (by simp [Builtin.List.listTooLong,sizeLine]; omega))
    ⟨h2,?_⟩⟩)
 rw [if_neg (show ¬ (#[w]:Array Value).isEmpty=true from Bool.false_ne_true),tB]
 exact q
theorem Ik (ha:z.V p a) (hb:z.V q b):aA A z nM (LF p q) (binaryOp .Mult a b):=by
 refine .orInt (T:=fun a=>binaryOp _ a b) ha (fun x t=>.orInt hb (fun y t'=>.guard fun g=>.now fun Q h=>P.mul_int (h _ _ ke) (.of_right (Cj (Bool.and_eq_true_iff.mp g).2))) .stop)
  (.orFrz (T:=fun a=>binaryOp _ a b) ha (fun l c vs kk e r=>.orInt hb (fun k u=>.opt fun v ho=>.guard fun g=>?_) .stop) .stop)
 have g:=Bool.and_eq_true_iff.mp g
 cases l with
 | nil=>first | exact bm ho | exact bG ho | exact dU ho | exact eI ho | exact nomatch ho
 | cons w l=>cases l with
  | cons _ _=>first | exact bm ho | exact bG ho | exact dU ho | exact eI ho | exact nomatch ho
  | nil =>
   cases ho
   obtain ⟨w,us,e1,r1,r2⟩:=r
   cases (show us=[] from r2)
   obtain ⟨ll⟩:=vs
   cases (show ll=_ from e1)
   exact Ad e.1 r1 (of_decide_eq_true g.1) (Nat.le_of_ble_eq_true g.2)
theorem IT {op:Operator} (ha:z.V p a) (hb:z.V q b):aA A z nM (aZ op p q) (binaryOp op a b):=by
 cases op with
 | Add=>exact Ir ha hb
 | Sub=>exact .int2 ha hb fun x t y t'=>.now fun Q h=>P.sub_int (h _ _ ke)
 | Mult=>exact Ik ha hb
 | FloorDiv =>
  refine .int2 ha hb fun x t y t'=>.guard fun g=>.now fun Q h=>?_
  rw [Bool.and_eq_true,Bool.and_eq_true,decide_eq_true_eq] at g
  exact floordiv_int (Int.ne_of_gt g.1.2) (by rw [Im g.1.2]; exact h _ _ ke) (Or.inl (PyProof.noPylong_small (Et g.2)))
 | Mod =>
  refine .int2 ha hb fun x t y t'=>.guard fun g=>.now fun Q h=>?_
  have g:=of_decide_eq_true g
  exact mod_int (Int.ne_of_gt g) (by rw [HP g]; exact h _ _ ke)
 | Pow =>
  refine .int2 ha hb fun x t y t'=>.guard fun g=>.now fun Q h=>?_
  rw [Bool.and_eq_true,Bool.and_eq_true,decide_eq_true_eq,decide_eq_true_eq] at g
  refine pow_int g.1.2 ?_ (h _ _ ke)
  have h1:=Int.mul_le_mul (Int.ofNat_le.mpr (Cj g.1.1)) g.2 g.1.2 (by decide)
  omega
 | _=>exact .stop
theorem rj (ha:z.V p a):aA A z Hj (aH p) (truthy a):=.orBool ha (fun b=>.now fun Q h=>wpAny_truthy_bool (h _ z.s.toks rfl)) .stop
theorem Kf {op:UnaryOp} (ha:z.V p a):aA A z nM (M1 op p) (unaryOp op a):=by
 cases op with
 | Not=>exact fun f out Q e q=>not_of ((rj ha).run e fun z1 c d L p e1=>(show d=c from p) ▸ q z1 (.bool (!c)) _ L rfl e1)
 | USub=>exact .orInt ha (fun x t=>.now fun Q h=>P.neg_int (h _ _ ke)) .stop
 | _=>exact .stop
end
end
section
open PySem PySem.W PyProof.Rows
structure LJ (X:Fx) (C:Addr) (ci:gN):Prop where
 get:findIn X.K (.ref C) "__getattribute__"=some (some (.builtin "object.__getattribute__"))
 miss:findIn X.K (.ref C) "__getattr__"=some none
 set:findIn X.K (.ref C) "__setattr__"=some (some (.builtin "object.__setattr__"))
 over:plainOver X.K C=true
 dict:hasDictIn X.K C=true
 attr:∀ a,ci.attrs.contains a=true→findIn X.K (.ref C) a=some none
structure ClsAll (X:Fx) (S:lU):Prop where
 part:X.K.In X.hb
 cls:∀ c C ci,X.ca c=some C→S.clss c=some ci→LJ X C ci
theorem wb {h:Heap} {d:Addr} {m:Str→Option Value} {a:Str} {o:Obj} (hn:h.Ns d m) (ho:h.get? d=some o):lookIn a o=some (m a):=by
 obtain ⟨o',es,ep,ho',hd,hk,hf⟩:=hn
 rw [ho] at ho'; cases ho'
 unfold lookIn
 rw [hd]
 dsimp only
 have:=hf a
 unfold nsFind findBy at this
 rw [← Array.find?_toList] at this
 cases q:es.toList.find? (·.key.isStr a) with
 | some e=>rw [q] at this; rw [← this]; rfl
 | none =>
  rw [q] at this
  rw [← this]
  have hr:es.toList.any (·.refKey)=false:=by
   rw [List.any_eq_false]
   intro e he
   obtain ⟨n,t,hkey⟩:=hk e (Array.mem_toList_iff.mp he)
   unfold DictEntry.refKey
   rw [hkey]
   exact Bool.false_ne_true
  exact (congrArg (fun b=>if b=true then none else some none) hr)
theorem j8 {γ:Type} (x:Str) (v:γ) (l:List (Str × γ)) (y:Str):(put x v l).lookup y=if y=x then some v else l.lookup y:=by
 induction l with
 | nil =>
  show ([(x,v)]:List _).lookup y=_
  rw [List.lookup_cons]
  by_cases h:y=x
  ·rw [if_pos h,beq_iff_eq.mpr h]
  ·rw [if_neg h,beq_eq_false_iff_ne.mpr h]
 | cons p r ih =>
  show (match decide (p.1=x) with | true=>(p.1,v)::r | false=>(p.1,p.2)::put x v r).lookup y=_
  by_cases hz:p.1=x
  ·rw [decide_eq_true hz]
   show List.lookup y ((p.1,v)::r)=_
   rw [List.lookup_cons,List.lookup_cons]
   by_cases h:y=p.1
   ·rw [if_pos (h.trans hz),beq_iff_eq.mpr h]
   ·rw [if_neg fun q=>h (q.trans hz.symm),beq_eq_false_iff_ne.mpr h]
  ·rw [decide_eq_false hz]
   show List.lookup y ((p.1,p.2)::put x v r)=_
   rw [List.lookup_cons,List.lookup_cons,ih]
   by_cases h:y=p.1
   ·rw [beq_iff_eq.mpr h]; exact (if_neg fun q=>hz (h.symm.trans q)).symm
   ·rw [beq_eq_false_iff_ne.mpr h]
theorem Ew {γ:Type} {x:Str} {l:List (Str × γ)} (h:l.lookup x≠none):x ∈ l.map (·.1):=by
 induction l with
 | nil=>exact absurd rfl h
 | cons p r ih =>
  by_cases e:x=p.1
  ·exact e ▸ .head _
  ·rw [List.lookup_cons,beq_eq_false_iff_ne.mpr e] at h
   exact .tail _ (ih h)
section
variable {X:Fx} {S:lU} {A:Around} {z:Pt X} {p q:PV} {v u w:Value} {a:Str} {n:Nat} {h':Heap} {r:Pl} {ad:Addr} {c c':dl}
theorem Pt.part (z:Pt X) (G:ClsAll X S):X.K.In z.h:=fun a o e=>z.R.stays a o (G.part a o e)
theorem JU (hv:z.V p v) (e:yP p=true):handedIn v=true:=by
 cases p with
 | tup _=>obtain ⟨_,_,_,_,rfl,_⟩:=hv; rfl
 | frz _=>obtain ⟨_,_,_,rfl,_⟩:=hv; rfl
 | dct _=>obtain ⟨_,_,rfl,_⟩:=hv; rfl
 | rng _ _ _=>obtain ⟨_,_,_,_,rfl,_⟩:=hv; rfl
 | int _=>obtain ⟨_,rfl⟩:=hv; rfl
 | str _=>obtain ⟨_,rfl⟩:=hv; rfl
 | loc _=>obtain ⟨_,rfl,_⟩:=hv; rfl
 | fn _=>obtain ⟨_,rfl,_⟩:=hv; rfl
 | cls _=>obtain ⟨_,rfl,_⟩:=hv; rfl
 | bi _=>first | exact bm e | exact bG e | exact dU e | exact eI e | exact nomatch e
 | _=>cases (show v=_ from hv); rfl
theorem aA.atI {α β:Type} {P:Pt X→α→β→Prop} {f:Str→List (Str × PV)→M α} {t:Sem β} (hr:z.μ[n]?=some r)
  (h:∀ c as C m od,z.σ[n]?=some (.inst c as)→r.1≠r.2→X.ca c=some C→z.h.get? r.1=some (instObj C r.2)→z.h.Ns1 r.2 m→InstAt z.h r.1 (instObj C r.2) C (some od)→(∀ a,lookIn a od=some (m a)) →
   (∀ x p,as.lookup x=some p→∃ v,m x=some v∧z.V p v)→(∀ x,as.lookup x=none→m x=none)→aA A z P (f c as) t):aA A z P (Mine.getI n f) t :=
 .getI fun c as e=>by
  obtain ⟨h12,C,hC,hg,m,hn,h1,h2⟩:=z.R.cell n _ r e hr
  obtain ⟨o,es,ep,ho,rr⟩:=id hn
  exact h c as C m o e h12 hC hg hn ⟨hg,rfl,rfl,ho⟩ (fun a=>wb hn.ns ho) h1 h2
theorem zX (G:ClsAll X S) (hv:z.V p v):aA A z nM (aq S p a) (getAttr v a true) :=
 .orLoc (T:=fun v=>getAttr v a true) hv (fun n r hr=>.atI hr fun c as C m od _ _ hC _ _ I hl h1 _=>.opt fun ci hci=>.guard fun ha=>.opt fun q hq=>.guard fun hb=>.now fun Q h=>(h1 _ _ hq).elim fun w hw =>
  have K:=G.cls _ _ _ hC hci
  get_value (z.part G) I K.get (findObj_own K.dict (K.attr a ha) rfl ((hl a).trans (congrArg some hw.1))) (JU hw.2 hb) (h _ _ hw.2)) .stop
theorem nz (fa:kF z.μ ad) (s:Heap.SameBut ad z.h h'):z.W.Le (view z.B h' z.μ):=⟨fun x o e=>⟨(s.2 x fun q=>e.2.2 (q ▸ .inr fa)).trans e.1,e.2⟩,fun _ _ e=>e⟩
noncomputable def Pt.turn (z:Pt X) (t:Nat) (e1:z.σ[n]?=some c) (e2:z.μ[n]?=some r) (ha:ad=r.1∨ad=r.2) (s:Heap.SameBut ad z.h h') (hl:∃ o,h'.get? ad=some o) (hc:l_ X (view z.B h' z.μ) h' r c'):Pt X where
 s:={ z.s with heap:=h',toks:=t }
 σ:=z.σ.set n c'
 μ:=z.μ
 B:=z.B
 R:=by
  have fa:kF z.μ ad:=⟨n,r,e2,ha⟩
  refine ⟨fun b o e=>(s.2 b fun q=>cZ (z.R.free b (.inr (q ▸ fa))) e).trans (z.R.stays b o e),by rw [z.R.len,List.length_set],fun m d q d1 d2=>?_,z.R.free,fun b hb=>?_,z.R.apart⟩
  ·by_cases q':m=n
   ·subst q'
    rw [List.getElem?_set_self (List.getElem?_eq_some_iff.mp e1).1] at d1
    rw [e2] at d2
    cases d1; cases d2; exact hc
   ·rw [List.getElem?_set_ne (Ne.symm q')] at d1
    exact (z.R.cell m d q d1 d2).map (nz fa s) fun b hb o e=>(s.2 b fun y=>q' (z.R.apart m n q r b d2 e2 hb (y ▸ ha))).trans e
  ·by_cases q:b=ad
   ·exact q ▸ hl
   ·exact (z.R.bans b hb).imp fun o e=>(s.2 b q).trans e
theorem Le.turn {t:Nat} {e1:z.σ[n]?=some c} {e2:z.μ[n]?=some r} {ha:ad=r.1∨ad=r.2} {s:Heap.SameBut ad z.h h'} {hl:∃ o,h'.get? ad=some o} {hc:l_ X (view z.B h' z.μ) h' r c'} {own:Addr→Prop}:iZ own z (z.turn t e1 e2 ha s hl hc):=by
 refine ⟨rfl,fun _ _ e=>e,fun b o e=>?_,fun b o e nf _=>(s.2 b fun q=>nf ⟨n,r,e2,q ▸ ha⟩).trans e,fun _ _ _ n=>n,fun _ _ _ n=>n,fun _ m=>m⟩
 by_cases hb:b=ad
 ·exact hb ▸ hl
 ·exact ⟨o,(s.2 b hb).trans e⟩
theorem EJ {s:Shared} {p:Pl} {C:Addr} {m:Str→Option Value} {od:Obj} {tk:Tok} {R:Result→Shared→Prop} {ns:List Str} (P:X.K.In s.heap) (I:InstAt s.heap p.1 (instObj C p.2) C (some od)) (hg:s.heap.get? p.1=some (instObj C p.2))
  (hov:plainOver X.K C=true) (hd:hasDictIn X.K C=true) (ha:findIn X.K (.ref C) a=some none) (hns:s.heap.Ns1 p.2 m) (hw:Within m ns) (hlen:ns.length≤100)
  (h:∀ h',h'.Ns1 p.2 (fun x=>if x=a then some u else m x)→Heap.SameBut p.2 s.heap h'→R (.ok (.ret .none)) { s with heap:=h',toks:=s.toks+1 }) :
  codeAny (model X.prog X.w) A (.call (.builtin "object.__setattr__") ⟨[.ref p.1,.str a tk,u],[]⟩) R s:=by
 refine osa_open P I hov (r:=none) (by unfold takerIn; rw [ha]; rfl) fun b=>?_
 obtain ⟨cd,hc,hd'⟩:=any_some hd
 refine wpAny_bind (wpAny_pure (wpAny_bind (wpAny_bind (wpAny_loadPart hg (wpAny_bind ((looks_clsIn P hc).here ?_))))))
 rw [hd']
 refine wpAny_pure (a:=some p.2) (wpAny_bind (wpAny_pure (wpAny_bind (wpAny_nsSet1 hns fun h' hn' hs=>?_))))
 obtain ⟨oD,esD,epD,hoD,hdD,hcD⟩:=hn'.count (Within.cons a u hw)
 exact wpAny_bind (wpAny_lookBehind hoD (by rw [hdD]; exact pastItsLine_dict (Nat.le_trans hcD (Nat.le_trans (Nat.succ_le_succ hlen) (by rw [sizeLine_eq]; decide)))) (wpAny_pure (h h' hn' hs)))
theorem rD (G:ClsAll X S) (hv:z.V p v) (hu:z.V q u):aA A z M_ (am S p a q) (setAttr v a u):=by
 refine .orLoc (T:=fun v=>setAttr v a u) hv (fun n r hr=>.atI hr fun c as C m od hn h12 hC hg hns I _ h1 h2=>.opt fun ci hci=>.guard fun ha f out Q e k=>?_) .stop
 have ha:=Bool.and_eq_true_iff.mp ha
 have K:=G.cls _ _ _ hC hci
 have P:=z.part G
 have hw:Within m (as.map (·.1)):=fun x hx=>Ew fun hm=>hx (h2 x hm)
 refine set_plain P I K.set (EJ (s:={ z.s with toks:=z.s.toks+1 }) P I hg K.over K.dict (K.attr a ha.1) hns hw (by rw [List.length_map]; exact Nat.le_of_ble_eq_true ha.2) fun h' hn' hs=>?_)
 have fa:kF z.μ r.2:=⟨n,r,hr,.inr rfl⟩
 have M:=nz fa hs
 have hl:∃ o,h'.get? r.2=some o:=hn'.imp fun _ h=>h.elim fun _ h=>h.elim fun _ h=>h.1
 have hc:l_ X (view z.B h' z.μ) h' r (.inst c (put a q as)):=by
  refine ⟨h12,C,hC,(hs.2 _ h12).trans hg,_,hn',fun x y er=>?_,fun x er=>?_⟩ <;> rw [j8] at er <;> by_cases hxa:x=a
  ·rw [if_pos hxa] at er
   cases er
   exact ⟨u,if_pos hxa,cq M hu⟩
  ·rw [if_neg hxa] at er
   exact (h1 x y er).imp fun w e=>⟨(if_neg hxa).trans e.1,cq M e.2⟩
  ·rw [if_pos hxa] at er; cases er
  ·rw [if_neg hxa] at er; exact (if_neg hxa).trans (h2 x er)
 exact k (z.turn _ hn hr (.inr rfl) hs hl hc) () () .turn trivial e
end
end
section
open PySem PySem.W PyProof.Rows
theorem rN {k:Int} {n:Nat} (h:0≤k) (hl:k.toNat<n):seqIndex? k n=some k.toNat:=by
 unfold seqIndex?
 rw [if_neg (Int.not_lt.mpr h)]
 exact if_pos (Bool.and_eq_true_iff.mpr ⟨decide_eq_true h,decide_eq_true ((Int.toNat_lt h).mp hl)⟩)
theorem yN {a b:Nat} (h:a+b≤4194304) (c:Bool):¬ (c && Builtin.List.listTooLong (a+b))=true:=by
 simp [Builtin.List.listTooLong,sizeLine]; omega
noncomputable def KD (X:Fx) (A:Around) (U:Value→Value→Sem Value):Prop :=
 ∀ {v w:Value} {T id:String} {s:Shared} {Q:Value→Shared→Prop},s.TypeIs v T→typeLookup (.type T) "__getitem__"=pure (some (.builtin id))→WP X A (getItem v w) Q s→WP X A (U v w) Q s
noncomputable def ob (i:Option Nat):Option Int:=i.map Int.ofNat
noncomputable def rQ (i:Option Nat) (n:Nat):Nat:=i.casesOn 0 fun a=>min a n
noncomputable def o5 (j:Option Nat) (n:Nat):Nat:=j.casesOn n fun b=>min b n
theorem zN {γ:Type} {l:List γ} {b:Nat}:l.take (min b l.length)=l.take b:=by
 rw [List.take_eq_take_iff,Nat.min_assoc,Nat.min_self]
theorem yl {γ:Type} (l:List γ) (i j:Option Nat):(l.take (o5 j l.length)).drop (rQ i l.length)=xr l i j:=by
 have hd:∀ (m:List γ) (a:Nat),m.length≤l.length→m.drop (min a l.length)=m.drop a:=fun m a hm=>by
  by_cases h:a≤l.length
  ·rw [Nat.min_eq_left h]
  ·have h:=Nat.le_of_not_le h
   rw [Nat.min_eq_right h,List.drop_eq_nil_of_le hm,List.drop_eq_nil_of_le (Nat.le_trans hm h)]
 cases i with
 | none=>cases j with
  | none=>exact List.take_length
  | some b=>exact zN
 | some a=>cases j with
  | none=>exact (congrArg (List.drop _) List.take_length).trans (hd l a (Nat.le_refl _))
  | some b=>exact (congrArg (List.drop _) zN).trans (hd _ a (by rw [List.length_take]; exact Nat.min_le_right ..))
theorem s9 (a n:Nat):max 0 (min (if (a:Int)<0 then (a:Int)+n else (a:Int)) (n:Int))=((min a n:Nat):Int):=by
 rw [if_neg (Int.not_lt.mpr (Int.natCast_nonneg a))]
 rcases Nat.le_total a n with h | h
 ·rw [Int.min_eq_left (Int.ofNat_le.mpr h),Nat.min_eq_left h]; exact Int.max_eq_right (Int.natCast_nonneg _)
 ·rw [Int.min_eq_right (Int.ofNat_le.mpr h),Nat.min_eq_right h]; exact Int.max_eq_right (Int.natCast_nonneg _)
theorem uI (i j:Option Nat) (n:Nat):sliceBounds (ob i) (ob j) none n=((rQ i n:Int),(o5 j n:Int),1):=by
 cases i with
 | none=>cases j with
  | none=>rfl
  | some b=>exact congrArg (fun x=>((0:Int),x,(1:Int))) (s9 b n)
 | some a=>cases j with
  | none=>exact congrArg (fun x=>(x,(n:Int),(1:Int))) (s9 a n)
  | some b=>exact (congrArg (fun x=>(x,_,(1:Int))) (s9 a n)).trans (congrArg (fun x=>(_,x,(1:Int))) (s9 b n))
theorem Cb {γ:Type} (l:List γ) (i j:Option Nat):(l.drop (rQ i l.length)).take (o5 j l.length-rQ i l.length)=xr l i j:=by rw [← List.drop_take,yl]
theorem FX (vs:Array Value) (i j:Option Nat):slicePick vs (ob i) (ob j) none=(xr vs.toList i j).toArray:=by
 unfold slicePick
 rw [uI]
 simp only [sliceRange_one,pick_run]
 rw [← Cb,Array.length_toList]
theorem IW (i j:Option Nat) (n:Nat):Builtin.Str.strSliceIndices (ob i) (ob j) 1 n=(List.range (o5 j n-rQ i n)).map (rQ i n+·):=by
 rw [← sliceRange_one]
 show sliceRange (sliceBounds (ob i) (ob j) none n).1 (sliceBounds (ob i) (ob j) none n).2.1 1=_
 rw [uI]
theorem Iw (x:List Nat) (i j:Option Nat):Txt.slice (one x) (ob i) (ob j)=one (xr x i j):=by
 unfold Txt.slice
 rw [IW,gM,pick_run]
 have e:(((one x).cps.toList.drop (rQ i x.length)).take (o5 j x.length-rQ i x.length))=xr x i j:=Cb x i j
 split
 ·rename_i h
  rw [List.length_map,List.length_range,beq_self_eq_true,Bool.true_and,beq_iff_eq] at h
  refine congrArg one (?_:x=xr x i j)
  rw [← yl]
  have h1:o5 j x.length≤x.length:=by
   cases j with
   | none=>exact Nat.le_refl _
   | some b=>exact Nat.min_le_right ..
  by_cases h0:x.length=0
  ·rw [List.eq_nil_of_length_eq_zero h0,List.take_nil,List.drop_nil]
  ·have e:o5 j x.length=x.length:=Nat.le_antisymm h1 (Nat.le_trans (Nat.le_of_eq h.symm) (Nat.sub_le ..))
   rw [e] at h ⊢
   rw [Nat.eq_zero_of_not_pos fun hp=>Nat.ne_of_lt (Nat.sub_lt (Nat.pos_of_ne_zero h0) hp) h,List.take_length]; rfl
 ·exact congrArg one e
theorem MX {γ:Type} (l:List γ) (i j:Option Nat):(xr l i j).length≤l.length:=by
 rw [← yl,List.length_drop,List.length_take]
 exact Nat.le_trans (Nat.sub_le ..) (Nat.min_le_right ..)
theorem GF {X:Fx} {W:oc} {vs:List Value} {l:List PV} (r:gf X W l vs) (i j:Option Nat):gf X W (xr l i j) (xr vs i j):=by
 cases i with
 | none=>cases j with
  | none=>exact r
  | some b=>exact qH _ r
 | some a=>cases j with
  | none=>exact vF _ r
  | some b=>exact vF _ (qH _ r)
section
variable {X:Fx} {S:lU} {A:Around} {z:Pt X} {p q ans:PV} {v u w:Value} {n:Nat} {r:Pl} {l l':List PV} {vs:Array Value} {k:Nat}
theorem yL {U:Value→Value→Sem Value} (hU:KD X A U) (hv:z.V p v) (hw:z.V q w):aA A z nM (ao p q) (U v w):=by
 refine .orInt hw (fun k t=>.guard fun g=>.orTup (T:=fun v=>U v (.int k t)) hv (fun l a o vs n e c d rl=>.opt fun y hy=>?_) (.orStr (T:=fun v=>U v (.int k t)) hv (fun x t'=>.opt fun c hc=>?_) (.withL (T:=fun v=>U v (.int k t)) hv fun l a vs kk e rl=>.opt fun y hy=>?_)))
  (.orStr hw (fun x t=>.orLoc (T:=fun v=>U v (.str (one x) t)) hv (fun n r hr=>.getD fun es hn=>.opt fun y hy=>?_) (.orDct (T:=fun v=>U v (.str (one x) t)) hv (fun es a f hs hm hf=>.opt fun y hy=>?_) .stop)) .stop)
 ·obtain ⟨u,h1,h2⟩:=qa rl hy
  have hb:=mE g
  have ht:IsTup z.h a vs:=⟨o,e,c,n,d⟩
  have hl:k.toNat<vs.size:=(List.getElem?_eq_some_iff.mp h1).1
  exact .now fun Q h=>hU ht.typeIs PyProof.Rows.slot_tuple_getitem.lookup (getItem_tuple ht (by omega) (by omega) (rN hb.1 hl) (by rw [← Array.getElem?_toList]; exact h1) (h _ _ h2))
 ·have hb:=mE g
  have hl:k.toNat<(one x).length:=by rw [gM]; exact (List.getElem?_eq_some_iff.mp hc).1
  refine .now fun Q h=>hU (typeIs_str z.s _ _) PyProof.Rows.slot_str_getitem.lookup (PyProof.Rows.getItem_str (by rw [Bool.or_eq_false_iff,decide_eq_false_iff_not,decide_eq_false_iff_not]; omega) (show (seqIndex? k (one x).length).bind ((one x).cps[·]?)=some c from ?_) (h _ _ (CW (x:=[c]))))
  rw [rN hb.1 hl,Option.bind_some,← Array.getElem?_toList]; exact hc
 ·obtain ⟨u,h1,h2⟩:=qa rl hy
  have hb:=mE g
  exact .now fun Q h=>hU (bC e).typeIs slot_list_getitem.lookup (wpAny_getItem_list (bC e) hb.1 (by omega) (by rw [← Array.getElem?_toList]; exact h1) (h _ _ h2))
 ·obtain ⟨_,hs,f,hm,hf⟩:=z.R.cell n _ r hn hr
  have hl:=nK (x:=one x) hf
  rw [show es.lookup (cs (one x))=some y from hy] at hl
  obtain ⟨u,h1,h2⟩:=hl
  exact .now fun Q h=>hU hm.typeIs slot_dict_getitem.lookup (wpAny_getItem_of (strKind_is _ _ (one x) t) hm h1 (h _ _ h2))
 ·have hl:=nK (x:=one x) hf
  rw [show es.lookup (cs (one x))=some y from hy] at hl
  obtain ⟨u,h1,h2⟩:=hl
  exact .now fun Q h=>hU hm.typeIs slot_dict_getitem.lookup (wpAny_getItem_of (strKind_is _ _ (one x) t) hm h1 (h _ _ h2))
noncomputable def Pt.lst (z:Pt X) (f:Array Value→Array Value) (hn:z.σ[n]?=some (.lst l)) (hr:z.μ[n]?=some r) (h12:r.1=r.2) (hg:z.h.get? r.1=some (dN vs k)) (rl:z.L l' (f vs).toList):Pt X :=
 z.turn (h':=z.h.update r.1 (Obj.mapSeq f)) (c':=.lst l') z.s.toks hn hr (.inl rfl) (Heap.SameBut.update ..) ⟨_,PySem.IsL.update (show PySem.IsL z.h r.1 vs k from hg) f⟩ ⟨h12,_,_,PySem.IsL.update (show PySem.IsL z.h r.1 vs k from hg) f,dA (nz ⟨n,r,hr,.inl rfl⟩ (Heap.SameBut.update ..)) rl⟩
theorem rW (hv:z.V p v) (hw:z.V q w) (hu:z.V ans u):aA A z M_ (cb p q ans) (setItem v w u):=by
 refine .orLoc (T:=fun v=>setItem v w u) hv (fun n r hr=>.orInt (T:=fun w=>setItem (.ref r.1) w u) hw (fun k t=>.atL hr fun l vs kk hn h12 e rl=>.guard fun g f out Q e0 h=>?_) .stop) .stop
 rw [Bool.and_eq_true,Bool.and_eq_true] at g
 have hb:=mE g.1.1
 have hl:k.toNat<l.length:=Nat.le_of_ble_eq_true g.1.2
 have rl':z.L (l.set k.toNat ans) ((fun vs:Array Value=>vs.setIfInBounds k.toNat u) vs).toList:=by
  show z.L _ (vs.setIfInBounds k.toNat u).toList
  rw [Array.toList_setIfInBounds]; exact Fe hu _ rl
 exact ki_setAt e hb.1 (by omega) (by rw [dH rl]; exact (Int.toNat_lt hb.1).mp hl) (h (z.lst _ hn hr h12 e rl') () () .turn trivial e0)
theorem y5 {T:Value→Sem Value} (hr:z.μ[n]?=some r) (hb:z.V q u) (ha:∀ z':Pt X,Le z z'→z'.V ans v)
  (h:∀ {vs k c vs' k'},z.h.get? r.1=some (dN vs k)→z.h.get? c=some (dN vs' k')→vs.size+vs'.size≤4194304→∀ Q:Value→Shared→Prop,Q v { z.s with heap:=z.h.update r.1 (Obj.mapSeq (·++vs')) }→WP X A (T (.ref c)) Q z.s) :
  aA A z nM (CV n q ans) (T u):=by
 refine .atL hr fun l vs k hn h12 e rl=>.guard fun Z=>.withL hb fun l' c vs' k' e' rl'=>.guard fun g f out Q e0 hQ=>?_
 have rl2:z.L (l++l') ((fun vs:Array Value=>vs++vs') vs).toList:=by
  show z.L _ (vs++vs').toList
  rw [Array.toList_append]; exact nj rl' rl
 exact h e e' (by rw [dH rl,dH rl']; exact Nat.le_of_ble_eq_true g) Q (hQ (z.lst _ hn hr h12 e rl2) _ _ .turn (ha _ .turn) e0)
theorem LE (hr:z.μ[n]?=some r) (z':Pt X) (L:Le z z'):z'.V (.loc n) (.ref r.1):=⟨_,rfl,_,L.map n r hr⟩
theorem x8 {a b:Value} {s:Shared} {Q:Value→Shared→Prop} (ha:s.TypeIs a "list") (hb:s.TypeIs b "list") (hc:WP X A (call (.builtin "list.__iadd__") [a,b]) Q s):WP X A (inplaceOp .Add a b) Q s:=by
 have hl:typeLookup (.type "list") (dunderI "add")=pure (some (.builtin "list.__iadd__")):=PySem.F.slot_list_iadd.lookup
 unfold inplaceOp
 refine wpAny_holding ?_
 have hfi:fillsInplaceSlot (.type "list") "add" (Operator.Add == .Add)=pure false:=by
  unfold fillsInplaceSlot
  show (typeLookup (.type "list") (dunderI "add") >>= fun fi=>pure (fi.isSome && !isSeqSlot fi))=pure false
  rw [hl]; kernel_rfl
 have hsi:seqSlot? (.type "list") (dunderI "add")=pure (some (.builtin "list.__iadd__")):=by
  unfold seqSlot?
  rw [hl]; kernel_rfl
 refine wpAny_bind (wpAny_typeOf ha (wpAny_bind (wpAny_of_eq hfi ?_)))
 show wpAny _ A (if false=true then _ else _) Q _ s
 refine wpAny_bind (wpAny_binaryOp1_none (nm:="add") ha hb noFill_list_add ?_)
 refine wpAny_bind (wpAny_of_eq hsi ?_)
 exact wpAny_bind (wpAny_rule hc)
theorem s8 {a b:Nat} (h:a+b≤4194304):a≤sizeLine∧a+b≤sizeLine+1:=by rw [sizeLine_eq]; omega
theorem yt {op:Operator} (hv:z.V p v) (hw:z.V q w):aA A z nM (dF op p q) (inplaceOp op v w):=by
 cases op with
 | Add =>
  refine .orLoc (T:=fun v=>inplaceOp _ v w) hv (fun n r hr=>y5 (T:=inplaceOp .Add (.ref r.1)) hr hw (LE hr) fun {vs k c vs' k'} e e' hz Q h=>?_) (.orInt (T:=fun v=>inplaceOp _ v w) hv (fun x t=>.orInt hw (fun y t'=>.now fun Q h=>PyProof.Rows.iadd_int (h _ _ ke)) .stop)
   (.orStr (T:=fun v=>inplaceOp _ v w) hv (fun x t=>.orStr hw (fun y t'=>tu fun Q h g=>PyProof.Rows.iadd_str h g) .stop) .stop))
  exact x8 ⟨_,e,rfl⟩ ⟨_,e',rfl⟩ (call_meets PySem.F.slot_list_iadd ⟨_,e,rfl⟩ PySem.F.entry_list_iadd (PySem.F.args_list_iadd_2 _ _)
   (PySem.AutoSeq1.list___iadd___list_list_0 r.1 vs k c vs' k' (yN hz _) (s8 hz).1 (s8 hz).2) ⟨e,e',h⟩)
 | Sub=>exact .int2 hv hw fun x t y t'=>.now fun Q h=>PyProof.Rows.isub_int (h _ _ ke)
 | _=>exact .stop
theorem zE {i:Option Nat} (e:ie p=some i) (hv:z.V p v):IsPart v (ob i):=by
 cases p with
 | none=>cases e; cases (show v=_ from hv); exact .none
 | int k =>
  have e:(if ii k=true then some (some k.toNat) else none)=some i:=e
  by_cases hk:ii k=true
  ·rw [if_pos hk] at e
   cases e
   obtain ⟨t,rfl⟩:=hv
   rw [show ob (some k.toNat)=some k from congrArg some (Int.toNat_of_nonneg (mE hk).1)]; exact .int k t
  ·rw [if_neg hk] at e; cases e
 | _=>first | exact bm e | exact bG e | exact dU e | exact eI e | exact nomatch e
theorem jw {α γ:Type} {o:Option γ} {g:γ→M α} {f:α→M PV} {σ:ah} {out:PV × ah} (e:bnd (opt o g) f σ=some out):∃ a,o=some a∧bnd (g a) f σ=some out:=by
 cases o with
 | none=>first | exact bm e | exact bG e | exact dU e | exact eI e | exact nomatch e
 | some a=>exact ⟨a,rfl,e⟩
theorem fR {α:Type} {b:Bool} {m:M α} {f:α→M PV} {σ:ah} {out:PV × ah} (e:bnd (guard b m) f σ=some out):b=true∧bnd m f σ=some out:=by
 cases b with
 | false=>first | exact bm e | exact bG e | exact dU e | exact eI e | exact nomatch e
 | true=>exact ⟨rfl,e⟩
theorem Fh {α:Type} {f:List Nat→M α} {m:M α}:(∃ x,p=.str x)∨orStr p f m=m:=by
 cases p with
 | str x=>exact .inl ⟨x,rfl⟩
 | _=>exact .inr rfl
theorem DW {lo hi:Option Expr} {ve:Expr} {pp:Pos} {pl pu:PV} {vl vu:Value} (hv:z.V p v) (hl:z.V pl vl) (hu:z.V pu vu) {f:PV→M PV} {out:PV × ah} {Q:Value→Shared→Prop} (e0:bnd (aS p pl pu) f z.σ=some out)
  (hQ:∀ z' a b,Le z z'→z'.V a b→f a z'.σ=some out→Q b z'.s) :
  WP X A (subscriptTail ve (.Slice lo hi none pp) v (.ref z.h.objs.size)) Q { z.s with heap:=z.h.push { cls:=.type "slice",data:=.fields #[vl,vu,.none] } }:=by
 obtain ⟨i,hi',e1⟩:=jw e0
 obtain ⟨j,hj',e2⟩:=jw e1
 have pi:=zE hi' hl
 have pj:=zE hj' hu
 clear e0 e1 hi' hj' hl hu
 rcases Fh (p:=p) with ⟨x,rfl⟩ | e3
 ·obtain ⟨t,rfl⟩:=hv
  obtain ⟨g,e4⟩:=fR (b:=Nat.ble x.length lim) (m:=ret (PV.str (xr x i j))) e2
  have done:∀ h' t' k,fH z.h h'→Q (.str (Txt.slice (one x) (ob i) (ob j)) t') { z.s with heap:=h',toks:=k }:=fun h' t' k hk=>hQ (z.grow h' k hk) (.str (xr x i j)) _ .grow ⟨t',congrArg (fun x=>Value.str x t') (Iw x i j)⟩ e4
  have kept:KeptH fun h'=>fH z.h h':=fun h' o hk b o' e=>Heap.get?_push_of_some _ (hk b o' e)
  have hz:(one x).length≤sizeLine:=by rw [gM]; exact eM g
  have fin:ItemOn (model X.prog X.w) A (fun Z Z=>False) (.str (one x) t) (.ref z.h.objs.size) Q { z.s with heap:=z.h.push { cls:=.type "slice",data:=.fields #[vl,vu,.none] } }:=by
   generalize ob i=oi at pi done
   generalize ob j=oj at pj done
   clear hQ e2 e4
   cases pi <;> cases pj
   ·exact SBH.sliceItem_nn kept (fun _ _ e=>e) done hz
   ·exact SBH.sliceItem_ns kept (fun _ _ e=>e) done hz
   ·exact SBH.sliceItem_sn kept (fun _ _ e=>e) done hz
   ·exact SBH.sliceItem_ss kept (fun _ _ e=>e) done hz
  obtain ⟨T,id,h1,h2,h3⟩:=fin
  exact tail_any h2 h1 h3 rfl
 ·rw [e3] at e2
  refine aA.withL (z:=z.grow _ z.s.toks (be { cls:=.type "slice",data:=.fields #[vl,vu,.none] })) (P:=nM) (T:=fun v=>subscriptTail ve (.Slice lo hi none pp) v (.ref z.h.objs.size)) (Le.V .grow hv) (fun l a vs k e rl=>.guard fun g=>.new fun Q h=>?_) f out Q e2 fun z' a b L=>hQ z' a b (Le.grow.trans L)
  have hz:vs.size≤sizeLine:=by rw [dH rl]; exact eM g
  refine tail_any (T:="list") (Heap.IsList.typeIs (s:={ z.s with heap:=z.h.push { cls:=.type "slice",data:=.fields #[vl,vu,.none] } }) (bC e)) list_getitem_lookup
   (wpAny_getItem_list_slice (bC e) (Heap.IsSliceOf.new ..) pi pj .none (by simp) ?_ hz) rfl
  rw [FX]
  exact h _ _ _ (be _) (CK (z:=z.grow _ z.s.toks (be { cls:=.type "slice",data:=.fields #[vl,vu,.none] })) (GF rl i j) bj (Heap.get?_push_size _ rfl))
end
end
section
open PySem PySem.W PyProof.Rows
noncomputable def FC (name:Str):String:=if name="append" then "list.append" else if name="pop" then "list.pop" else "list.extend"
noncomputable def EY (name:Str):String:=if name="find" then "str.find" else if name="split" then "str.split" else if name="join" then "str.join" else if name="lower" then "str.lower"
 else if name="swapcase" then "str.swapcase" else "str.index"
theorem gK {γ:Type} [BEq γ] [LawfulBEq γ] {x y:γ} {l:List γ} (h:(y::l).contains x=true) {P:γ→Prop} (h1:P y) (h2:l.contains x=true→P x):P x:=by
 rw [List.contains_cons,Bool.or_eq_true] at h
 exact h.elim (fun e=>beq_iff_eq.mp e ▸ h1) h2
@[reducible] noncomputable def Jb (T:String) (id:Str→String) (name:Str):Prop:=Slot T name (id name)∧typeOf (.builtin (id name))=pure (.type "method_descriptor")
theorem Ha {name:Str} (h:lw.contains name=true):Jb "list" FC name :=
 gK h ⟨PySem.F.slot_list_append,PySem.F.type_list_append⟩ fun h=>gK h ⟨PySem.F.slot_list_pop,PySem.F.type_list_pop⟩ fun h=>gK h ⟨PySem.F.slot_list_extend,PySem.F.type_list_extend⟩ fun h=>(by first | exact bm h | exact bG h | exact dU h | exact eI h | exact nomatch h)
theorem ES {name:Str} (h:zC.contains name=true):Jb "str" EY name :=
 gK h ⟨PySem.F.slot_str_find,PySem.F.type_str_find⟩ fun h=>gK h ⟨PySem.F.slot_str_split,PySem.F.type_str_split⟩ fun h=>gK h ⟨PySem.F.slot_str_join,PySem.F.type_str_join⟩ fun h =>
 gK h ⟨PySem.F.slot_str_lower,PySem.F.type_str_lower⟩ fun h=>gK h ⟨PySem.F.slot_str_swapcase,PySem.F.type_str_swapcase⟩ fun h=>gK h ⟨PySem.F.slot_str_index,PySem.F.type_str_index⟩ fun h=>(by first | exact bm h | exact bG h | exact dU h | exact eI h | exact nomatch h)
section
variable {X:Fx} {S:lU} {A:Around} {z:Pt X} {p q:PV} {v:Value} {n:Nat} {r:Pl} {vs:List PV} {ws:List Value} {name:Str} {x:List Nat} {t:Tok}
theorem Fv (hr:z.μ[n]?=some r) (hl:z.L vs ws):aA A z nM (DX n name vs) (call (.builtin (FC name)) (.ref r.1::ws)):=by
 refine .ite (fun e=>?_) fun Z=>.ite (fun e=>?_) fun Z=>.ite (fun e=>?_) fun Z=>.stop <;> subst e
 ·refine .atL hr fun l its kk hn h12 e rl=>.un1 (U:=fun ws=>call (.builtin "list.append") (.ref r.1::ws)) hl fun p w hw=>.guard fun g f out Q e0 hQ=>?_
  have rl':z.L (l++[p]) ((fun vs:Array Value=>vs.push w) its).toList:=by
   show z.L _ (its.push w).toList
   rw [Array.toList_push]; exact nj (ze hw) rl
  exact call_meets PySem.F.slot_list_append ⟨_,e,rfl⟩ PySem.F.entry_list_append (PySem.F.args_list_append_2 _ _) (PySem.list_append r.1 its kk w (by rw [dH rl]; exact eM g)) ⟨e,hQ (z.lst _ hn hr h12 e rl') .none .none .turn rfl e0⟩
 ·refine .atL hr fun l its kk hn h12 e rl=>.unN (U:=fun ws=>call (.builtin "list.pop") (.ref r.1::ws)) hl (.guard fun g=>.opt fun y hy f out Q e0 hQ=>?_)
  rw [List.getLast?_eq_getElem?] at hy
  obtain ⟨u,hu,ru⟩:=qa rl hy
  have hs:=dH rl
  rw [← hs,Array.getElem?_toList] at hu
  have hlt:its.size-1<its.size:=(Array.getElem?_eq_some_iff.mp hu).1
  have rl':z.L l.dropLast ((fun vs:Array Value=>vs.eraseIdxIfInBounds (its.size-1)) its).toList:=by
   show z.L _ (its.eraseIdxIfInBounds (its.size-1)).toList
   unfold Array.eraseIdxIfInBounds
   rw [dif_pos hlt,Array.toList_eraseIdx,List.eraseIdx_eq_take_drop_succ,List.dropLast_eq_take,List.drop_of_length_le (by rw [Array.length_toList,Nat.sub_add_cancel (Nat.lt_of_le_of_lt (Nat.zero_le _) hlt)]; exact Nat.le_refl _),List.append_nil,hs]
   exact qH _ rl
  exact call_meets PySem.F.slot_list_pop ⟨_,e,rfl⟩ PySem.F.entry_list_pop (PySem.F.args_list_pop_1 _) (PySem.MeetsSeq.list_pop_last r.1 its kk u hu (by rw [hs]; exact eM g)) ⟨e,hQ (z.lst _ hn hr h12 e rl') _ _ .turn (cq (nz ⟨n,r,hr,.inl rfl⟩ (Heap.SameBut.update ..)) ru) e0⟩
 ·exact .un1 (U:=fun ws=>call (.builtin "list.extend") (.ref r.1::ws)) hl fun p w hw=>y5 (T:=fun w=>call (.builtin "list.extend") [.ref r.1,w]) (v:=.none) hr hw (fun Z Z=>rfl) fun {vs k c vs' k'} e e' hz Q h=>call_meets PySem.F.slot_list_extend ⟨_,e,rfl⟩ PySem.F.entry_list_extend (PySem.F.args_list_extend_2 _ _)
    (PySem.AutoSeq1.list_extend_list_list_0 r.1 vs k c vs' k' (yN hz _) (s8 hz).1 (s8 hz).2) ⟨e,e',h⟩
theorem Gk {W:oc} (zs:List (Str × Tok)):gf X W (zs.map fun z=>.str (cs z.1)) (strValues zs):=by
 induction zs with
 | nil=>rfl
 | cons y r ih=>exact ⟨_,_,rfl,⟨y.2,rfl⟩,ih⟩
theorem Dq (hl:z.L vs ws):aA A z nM (zW x vs) (call (.builtin "str.split") (.str (one x) t::ws)):=by
 refine .un1 (U:=fun ws=>call (.builtin "str.split") (.str (one x) t::ws)) hl fun p w hw=>.orStr (T:=fun w=>call (.builtin "str.split") [.str (one x) t,w]) hw (fun sep u=>.guard fun g=>.new fun Q h=>?_) .stop
 rw [Bool.and_eq_true,Bool.and_eq_true] at g
 have hy:((one sep).length == 0)=false:=by
  rw [gM]
  exact beq_eq_false_iff_ne.mpr (Nat.ne_of_gt (Nat.le_of_ble_eq_true g.1.1))
 have hx:(one x).length≤sizeLine:=by rw [gM]; exact eM g.1.2
 have hp:(Builtin.Str.partsBetween (one x) (Builtin.Str.occurrences (one x) (one sep) 0 (one x).length ((one x).length+1)) (one sep).length).length≤sizeLine:=by
  rw [gM,gM]; exact eM g.2
 have plain:∀ (D:Addr) (l:List (Str × Tok)) (h':Heap) (k:Nat),Txt.split (one x) (one sep)=l.map (·.1)→fH z.h h'→h'.get? D=some (dN (strValues l).toArray 0)→z.h.get? D=none→Q (.ref D) { z.s with heap:=h',toks:=k }:=fun D l h' k hm hk hD hn =>
  h _ h' k hk (CK (vs:=(strValues l).toArray) (by rw [hm,List.map_map]; exact Gk l) hn hD)
 by_cases h1:(decide ((one x).length<(one sep).length) || decide (Builtin.Str.strKind (one x)<Builtin.Str.strKind (one sep)))=true
 ·exact call_meets PySem.F.slot_str_split (typeIs_str _ _ _) PySem.F.entry_str_split (PySem.F.args_str_split_2 _ _) (meets_str_split_cannot_occur (one x) (one sep) t u h1)
   (plain _ [(one x,t)] _ z.s.toks (if_pos h1) (be _) (Heap.get?_push_size _ rfl) bj)
 ·have h1:=Bool.eq_false_iff.mpr h1
  by_cases hf:(Builtin.Str.occurrences (one x) (one sep) 0 (one x).length ((one x).length+1)).isEmpty=true
  ·exact call_meets PySem.F.slot_str_split (typeIs_str _ _ _) PySem.F.entry_str_split (PySem.F.args_str_split_2 _ _) (meets_str_split_not_found (one x) (one sep) t u h1 hy hf)
    (plain _ [(one x,t)] _ z.s.toks ((if_neg (by rw [h1]; exact Bool.false_ne_true)).trans (if_pos hf)) (be _) (Heap.get?_push_size _ rfl) bj)
  ·have hf:=Bool.eq_false_iff.mpr hf
   refine call_meets PySem.F.slot_str_split (typeIs_str _ _ _) PySem.F.entry_str_split (PySem.F.args_str_split_2 _ _) (meets_str_split_sep (one x) (one sep) t u h1 hy hf hx hp) ?_
   show wants Q _ _ { z.s with toks:=_,heap:=z.h.push { cls:=.type "list",data:=.seq (strsFrom z.s.toks (Builtin.Str.partsBetween (one x) (Builtin.Str.occurrences (one x) (one sep) 0 (one x).length ((one x).length+1)) (one sep).length)).toArray } }
   rw [strsFrom_eq]
   exact plain _ (numbered z.s.toks _) _ _ (((if_neg (by rw [h1]; exact Bool.false_ne_true)).trans (if_neg (by rw [hf]; exact Bool.false_ne_true))).trans (numbered_texts _ _).symm) (be _) (Heap.get?_push_size _ rfl) bj
theorem F6 (hl:z.L vs ws):aA A z nM (Lh x name vs) (call (.builtin (EY name)) (.str (one x) t::ws)):=by
 refine .ite (fun e=>?_) fun Z=>.ite (fun e=>?_) fun Z=>.ite (fun e=>?_) fun Z=>.ite (fun e=>?_) fun Z=>.ite (fun e=>?_) fun Z=>.ite (fun e=>?_) fun Z=>.stop <;> subst e
 ·exact .un2 (U:=fun ws=>call (.builtin "str.find") (.str (one x) t::ws)) hl fun p v q u hv hu=>.orStr (T:=fun v=>call (.builtin "str.find") [_,v,u]) hv (fun y t'=>.orInt (T:=fun u=>call (.builtin "str.find") [_,_,u]) hu (fun i t2=>.now fun Q h=>SC.find3 (h _ _ ke)) .stop) .stop
 ·exact Dq hl
 ·refine .un1 (U:=fun ws=>call (.builtin "str.join") (.str (one x) t::ws)) hl fun p w hw=>.withL (T:=fun w=>call (.builtin "str.join") [_,w]) hw fun l a us k e rl=>.opt fun xs hx=>.guard fun hj=>?_
  obtain ⟨zs,h1,h2⟩:=z9 hx rl
  have hL:z.h.IsList a (strValues zs).toArray:=by rw [← h1,Array.toArray_toList]; exact bC e
  exact .now fun Q h=>SC.join hL h2 hj fun t' k=>h _ _ ⟨t',rfl⟩
 ·exact .unN (U:=fun ws=>call (.builtin "str.lower") (.str (one x) t::ws)) hl (.guard fun g=>.now fun Q h=>call_gives PySem.F.slot_str_lower (typeIs_str _ _ _) PySem.F.entry_str_lower (PySem.F.args_str_lower_1 _) (gives_str_lower (one x) t (Bool.not_eq_true' _ ▸ g)) ⟨fit_le (Bool.not_eq_true' _ ▸ g),h _ _ ⟨_,rfl⟩⟩)
 ·exact .unN (U:=fun ws=>call (.builtin "str.swapcase") (.str (one x) t::ws)) hl (.guard fun g=>.now fun Q h=>call_gives PySem.F.slot_str_swapcase (typeIs_str _ _ _) PySem.F.entry_str_swapcase (PySem.F.args_str_swapcase_1 _) (gives_str_swapcase (one x) t (Bool.not_eq_true' _ ▸ g)) ⟨fit_le (Bool.not_eq_true' _ ▸ g),h _ _ ⟨_,rfl⟩⟩)
 ·refine .un1 (U:=fun ws=>call (.builtin "str.index") (.str (one x) t::ws)) hl fun p w hw=>.orStr (T:=fun w=>call (.builtin "str.index") [_,w]) hw (fun y u=>.opt fun i hi=>?_) .stop
  have ho:∃ rest,Builtin.Str.occurrences (one x) (one y) 0 (one x).length 1=i::rest:=by
   rw [gM]
   generalize Builtin.Str.occurrences (one x) (one y) 0 x.length 1=l at hi
   cases l with
   | nil=>first | exact bm hi | exact bG hi | exact dU hi | exact eI hi | exact nomatch hi
   | cons j r=>cases hi; exact ⟨r,rfl⟩
  exact ho.elim fun rest ho=>.now fun Q h=>call_gives PySem.F.slot_str_index (typeIs_str _ _ _) PySem.F.entry_str_index (PySem.F.args_str_index_2 _ _) (gives_str_index (one x) (one y) t u i rest ho) (h _ _ ke)
theorem Gf {es:List (List Nat × PV)} (hv:z.V (.dct es) v) (hl:z.L vs ws):aA A z nM (LP es name vs) (call (.builtin "dict.get") (v::ws)):=by
 refine .ite (fun Z=>.un2 (U:=fun ws=>call (.builtin "dict.get") (v::ws)) hl fun p w q u hw hu=>.orStr (T:=fun w=>call (.builtin "dict.get") [v,w,u]) hw (fun k t=>.now fun Q h=>?_) .stop) fun Z=>.stop
 obtain ⟨a,f,rfl,hs,hm,hf⟩:=hv
 have hm':=MapOf.keep (z.R.stays a) hm
 refine call_meetsIn PySem.F.slot_dict_get hm'.typeIs PySem.F.entry_dict_get (PySem.F.args_dict_get_3 _ _ _) (meets_dict_get_default (strKind X.prog X.w) _ (strKind_is _ _ (one k) t) (beq_eq_false_iff_ne.mpr hs) _) ⟨f,hm',?_⟩
 have hl:=nK (x:=one k) hf
 revert h hl
 show _→JO X _ (es.lookup k) _→_
 cases es.lookup k with
 | none=>exact fun h hl=>(show f (one k)=none from hl) ▸ h _ _ hu
 | some y=>exact fun h hl=>hl.elim fun w hl=>hl.1 ▸ h _ _ hl.2
end
end
section
open PySem PySem.W PyProof.Rows
section
variable {X:Fx} {A:Around} {z:Pt X} {p:PV} {v:Value} {n:Nat} {vs:List PV} {ws:List Value} {id:String}
theorem Dd {n:Nat} (h:Nat.ble n lim=true):n≤4194304:=Nat.le_of_ble_eq_true h
theorem HT (hr:om n A) (hl:z.L vs ws):aA A z nM (M5 id vs) (call (.builtin id) ws):=by
 refine .ite (fun e=>?_) fun Z=>.ite (fun e=>?_) fun Z=>.ite (fun e=>?_) fun Z=>.ite (fun e=>?_) fun Z=>.ite (fun e=>?_) fun Z=>.ite (fun e=>?_) fun Z=>.stop <;> subst e
 ·refine .un1 (U:=fun ws=>call (.builtin "len") ws) hl fun p w hw=>.orStr (T:=fun w=>call (.builtin "len") [w]) hw (fun x t=>.guard fun g=>?_) (.withL (T:=fun w=>call (.builtin "len") [w]) hw fun l a us k e rl=>.guard fun g=>?_)
  ·rw [← gM (x:=x)] at g ⊢
   have:=Dd g
   exact .now fun Q h=>PyProof.Rows.len_str (by omega) (h _ _ ke)
  ·rw [← dH rl] at g ⊢
   have:=Dd g
   exact .now fun Q h=>Calls.call_len_list (bC e) (by omega) (h _ _ ke)
 ·exact .un1 (U:=fun ws=>call (.builtin "ord") ws) hl fun p w hw=>.orStr (T:=fun w=>call (.builtin "ord") [w]) hw (fun x t=>.opt fun c hc=>(v_ hc) ▸ .now fun Q h=>P.ord_of_char (h _ _ ke)) .stop
 ·refine .un1 (U:=fun ws=>call (.builtin "chr") ws) hl fun p w hw=>.orInt (T:=fun w=>call (.builtin "chr") [w]) hw (fun i t=>.guard fun g=>.now fun Q h=>P.chr_of_int ?_ (h _ _ (CW (x:=[i.toNat])))) .stop
  have g:=Bool.and_eq_true_iff.mp g
  have g1:=of_decide_eq_true g.1
  have g2:=of_decide_eq_true g.2
  rw [Bool.or_eq_false_iff,decide_eq_false_iff_not,decide_eq_false_iff_not]
  omega
 ·refine .un2 (U:=fun ws=>call (.builtin "min") ws) hl fun p v q u hv hu=>.int2 (T:=fun v u=>call (.builtin "min") [v,u]) hv hu fun x t y t'=>.new fun Q h=>min_two_ints hr.handled fun h' tk hk=>?_
  by_cases c:y<x
  ·rw [if_pos c] at h ⊢; exact h _ _ _ hk ⟨_,rfl⟩
  ·rw [if_neg c] at h ⊢; exact h _ _ _ hk ⟨_,rfl⟩
 ·refine .un2 (U:=fun ws=>call (.builtin "max") ws) hl fun p v q u hv hu=>.int2 (T:=fun v u=>call (.builtin "max") [v,u]) hv hu fun x t y t'=>.new fun Q h=>max_two_ints hr.handled fun h' tk hk=>?_
  by_cases c:x<y
  ·rw [if_pos c] at h; rw [if_pos (show y>x from c)]; exact h _ _ _ hk ⟨_,rfl⟩
  ·rw [if_neg c] at h; rw [if_neg (show ¬ y>x from c)]; exact h _ _ _ hk ⟨_,rfl⟩
 ·refine .un1 (U:=fun ws=>call (.builtin "sum") ws) hl fun p w hw=>.withL (T:=fun w=>call (.builtin "sum") [w]) hw fun l a us k e rl=>.opt fun ns hns=>.guard fun g=>.new fun Q h=>?_
  have hi:=yw hns rl
  have hall:AllInts us:=by have:=hi.allInts; rwa [Array.toArray_toList] at this
  obtain ⟨xs,hxs⟩:=hall.items
  subst hxs
  have hsum:=hi.numsOf
  rw [nums_intItems] at hsum
  refine sum_intListG hr.handled (bC e) fun h' tk t' hk=>?_
  rw [preSum_eq,List.take_of_length_le (by simp),hsum]
  exact h _ _ _ hk ⟨_,rfl⟩
theorem Fs {a b c:Int} {t u w:Tok} {k:Nat}:(z.grow (z.h.push { cls:=.type "range",dict:=none,data:=.fields #[.int a t,.int b u,.int c w],slots:=#[] }) k (be _)).V (.rng a b c) (.ref z.h.objs.size) :=
 ⟨_,t,u,w,rfl,Heap.get?_push_size _ rfl,.inr ⟨rfl,_,rfl⟩,z.fresh bj⟩
theorem H9 (hl:z.L vs ws):aA A z nM (M4 id vs) (call (.type id) ws):=by
 refine .ite (fun e=>?_) fun Z=>.stop
 subst e
 refine .unC (U:=fun ws=>call (.type "range") ws) hl fun p r w us hw hl=>.orInt (T:=fun w=>call (.type "range") (w::us)) hw (fun a t=>?_) .stop
 cases r with
 | nil=>cases (show us=[] from hl); exact .guard fun Z=>.new fun Q h=>call_range_1 (h _ _ _ (be _) Fs)
 | cons q r =>
  obtain ⟨w',us,rfl,hw',hl⟩:=hl
  refine .orInt (T:=fun w=>call (.type "range") (_::w::us)) hw' (fun b u=>?_) .stop
  cases r with
  | nil=>cases (show us=[] from hl); exact .guard fun Z=>.new fun Q h=>call_range_2 (h _ _ _ (be _) Fs)
  | cons q' r =>
   obtain ⟨w2,us,rfl,hw2,hl⟩:=hl
   refine .unN (U:=fun us=>call (.type "range") (_::_::w2::us)) hl (.orInt (T:=fun w=>call (.type "range") [_,_,w]) hw2 (fun c u'=>.guard fun g=>?_) .stop)
   rw [Bool.and_eq_true,Bool.and_eq_true,decide_eq_true_eq] at g
   obtain ⟨⟨h1,h2⟩,rfl⟩:=g
   have:=jR h1
   have:=jR h2
   exact .new fun Q h=>call_range_3 (by decide) (h _ _ _ (be _) Fs) (Or.inl (PyProof.noPylong_small (by omega)))
end
noncomputable def qU (X:Fx) (z:Pt X) (I:Addr) (it:It):Prop:=it.casesOn
 (fun l=>(∃ a vs k i,z.W.obj a (dN vs k)∧z.h.IsListIter I a i∧gf X z.W l (vs.toList.drop i))∨(∃ x t i,z.h.IsStrIter I "str_ascii_iterator" x t i∧l=(x.cps.toList.drop i).map fun c=>.str [c])∨∃ x c k,IsRangeIter z.h I x (k:Nat) c∧l=steps x c k)
 fun n i=>∃ r:Pl,z.μ[n]?=some r∧z.h.IsListIter I r.1 i
noncomputable def B_ (s:String):Prop:=s="list_iterator"∨s="str_ascii_iterator"∨s="range_iterator"
section
variable {X:Fx} {A:Around} {z z':Pt X} {p:PV} {v:Value} {n:Nat} {I:Addr} {it:It}
theorem qU.obj (x:qU X z I it):∃ o n vs,z.h.get? I=some o∧o.cls=.type n∧B_ n∧o.data=.fields vs:=by
 cases it with
 | items l =>
  obtain ⟨a,vs,k,i,_,⟨o,h1,h2,h3⟩,_⟩ | ⟨x,t,i,⟨o,h1,h2,h3⟩,_⟩ | ⟨x,c,k,h1,_⟩:=x
  ·exact ⟨o,_,_,h1,h2,.inl rfl,h3⟩
  ·exact ⟨o,_,_,h1,h2,.inr (.inl rfl),h3⟩
  ·exact ⟨_,_,_,h1,rfl,.inr (.inr rfl),rfl⟩
 | lst n i =>
  obtain ⟨r,_,o,h1,h2,h3⟩:=x
  exact ⟨o,_,_,h1,h2,.inl rfl,h3⟩
theorem qU.loose (x:qU X z I it):∀ o,z.h.get? I=some o→¬ vZ o:=by
 obtain ⟨o',n,vs,e',hc,hn,hd⟩:=x.obj
 rintro o e (⟨vs',k,f⟩ | ⟨f,_⟩) <;> rw [e'] at e <;> cases e
 ·rw [hd] at f; cases f
 ·rw [hc] at f; cases f; revert hn; unfold B_; decide
theorem qU.later (x:qU X z I it) (m:z.W.Le z'.W) (hm:∀ (n:Nat) (p:Pl),z.μ[n]?=some p→z'.μ[n]?=some p) (k:∀ o,z.h.get? I=some o→z'.h.get? I=some o):qU X z' I it:=by
 cases it with
 | items l =>
  obtain ⟨a,vs,kk,i,h1,h2,h3⟩ | ⟨x,t,i,⟨o,h1,h2⟩,h3⟩ | ⟨x,c,kk,h1,h2⟩:=x
  ·exact .inl ⟨a,vs,kk,i,m.obj _ _ h1,h2.at k,dA m h3⟩
  ·exact .inr (.inl ⟨x,t,i,⟨o,k o h1,h2⟩,h3⟩)
  ·exact .inr (.inr ⟨x,c,kk,k _ h1,h2⟩)
 | lst n i=>exact x.imp fun r h=>⟨hm n r h.1,h.2.at k⟩
theorem z_ {target:Expr} {Q:Unit→Shared→Prop} (x:qU X z I it) (h:Q () z.s):WP X A (letOwnedTupleGo target (.ref I) v) Q z.s:=by
 have t:WP X A (letOwnedTupleGo (.Tuple [] default default) (.ref I) v) Q z.s:=by
  cases v with
  | ref _ =>
   obtain ⟨o,n,vs,e,hc,hn,hd⟩:=x.obj
   refine wpAny_bind (wpAny_load e ?_)
   rw [hc,hd]
   rcases hn with rfl | rfl | rfl <;> exact wpAny_pure h
  | _=>exact wpAny_pure h
 cases target with
 | Tuple _ _ _=>exact t
 | List _ _=>exact t
 | _=>exact wpAny_pure h
theorem yf (a b:Int):Builtin.Range.rangeSize a b 1=((b-a).toNat:Int):=by
 rw [rangeSize_one]
 by_cases h:b>a
 ·rw [if_pos h,Int.toNat_of_nonneg (Int.le_of_lt (Int.sub_pos_of_lt h))]
 ·rw [if_neg h,Int.toNat_eq_zero.mpr (Int.sub_nonpos_of_le (Int.not_lt.mp h))]; rfl
theorem m4 (a b:Int):Builtin.Range.rangeSize a b (-1)=((a-b).toNat:Int):=by
 unfold Builtin.Range.rangeSize
 simp only [show ¬ ((-1:Int)>0) by decide,if_false,Int.neg_neg,Int.ediv_one]
 split <;> omega
noncomputable def Mu {X:Fx} (z:Pt X) (z':Pt X) (it:It) (v:Value):Prop:=∃ I,v=.ref I∧z.h.get? I=none∧¬ oa z'.B z'.μ I∧qU X z' I it
theorem AC (hv:z.V p v):aA A z (Mu z) (ce p) (pyIter v):=by
 refine .orLoc (T:=fun v=>pyIter v) hv (fun n r hr=>.atL hr fun l vs k hn h12 e rl=>.guard fun g=>.new fun Q h=>wpAny_pyIter_list (bC e) (h _ _ _ (be _) ⟨_,rfl,bj,z.fresh bj,r,hr,_,Heap.get?_push_size _ rfl,rfl,rfl⟩))
  (.orFrz (T:=fun v=>pyIter v) hv (fun l a vs k e rl=>.guard fun g=>.new fun Q h=>wpAny_pyIter_list (bC e.1) (h _ _ _ (be _) ⟨_,rfl,bj,z.fresh bj,.inl ⟨a,vs,k,0,⟨be _ _ _ e.1,e.2⟩,⟨_,Heap.get?_push_size _ rfl,rfl,rfl⟩,dA (Le.W .grow) rl⟩⟩))
  (.orStr (T:=fun v=>pyIter v) hv (fun x t=>.guard fun g=>.new fun Q h=>wpAny_pyIter_ascii (by rw [← Array.all_toList]; exact g) (h _ _ _ (be _) ⟨_,rfl,bj,z.fresh bj,.inr (.inl ⟨one x,t,0,⟨_,Heap.get?_push_size _ rfl,rfl,rfl⟩,rfl⟩)⟩))
  (.orRng (T:=fun v=>pyIter v) hv (fun a b c ad t t' t2 e=>.guard fun g=>?_) .stop)))
 rw [Bool.and_eq_true,Bool.and_eq_true,Bool.or_eq_true,decide_eq_true_eq,decide_eq_true_eq] at g
 have h1:=jR g.1.1
 have h2:=jR g.1.2
 rcases g.2 with rfl | rfl
 ·refine .new fun Q h=>wpAny_pyIter_range e (small_one (by omega) (by omega) (by omega) (by omega)) ?_
  rw [yf]
  exact h _ _ _ (be _) ⟨_,rfl,bj,z.fresh bj,.inr (.inr ⟨a,1,(b-a).toNat,Heap.get?_push_size _ rfl,if_pos (by decide)⟩)⟩
 ·have hsm:Builtin.Range.small a b (-1)=true:=by
   unfold Builtin.Range.small
   rw [m4]
   simp only [Builtin.Range.rangeFitsLong,Bool.and_eq_true,Bool.or_eq_true,decide_eq_true_eq,beq_iff_eq,show ¬ ((-1:Int)>0) by decide,if_false]
   refine ⟨⟨⟨⟨?_,?_⟩,?_⟩,?_⟩,.inr ?_⟩ <;> omega
  refine .new fun Q h=>wpAny_pyIter_range e hsm ?_
  rw [m4]
  exact h _ _ _ (be _) ⟨_,rfl,bj,z.fresh bj,.inr (.inr ⟨a,-1,(a-b).toNat,Heap.get?_push_size _ rfl,if_neg (by decide)⟩)⟩
end
end
section
open PySem PySem.W PyProof.Rows
@[reducible] noncomputable def fS (I:Addr) (h h':Heap):Prop:=∀ b o,b≠I→h.get? b=some o→h'.get? b=some o
structure my {X:Fx} (z:Pt X) (I:Addr):Prop where
 np:¬ kF z.μ I
 nb:X.hb.get? I=none
 lo:I ∈ z.B∨∀ o,z.h.get? I=some o→¬ vZ o
section
variable {X:Fx} {A:Around} {z z0:Pt X} {I:Addr} {h':Heap} {t:Nat} {own:Addr→Prop} {p:PV} {v:Value} {it:It} {n:Nat}
theorem my.ne (b:my z I) {a:Addr} {o:Obj} (h:z.W.obj a o):a≠I:=fun q=>by subst q; exact b.lo.elim (fun m=>h.2.2 (.inl m)) fun l=>l o h.1 h.2.1
theorem my.view (b:my z I) (kb:fS I z.h h'):z.W.Le (view z.B h' z.μ):=⟨fun a o h=>⟨kb a o (b.ne h) h.1,h.2⟩,fun _ _ h=>h⟩
noncomputable def Pt.but (z:Pt X) (t:Nat) (b:my z I) (kb:fS I z.h h') (hl:I ∈ z.B→∃ o,h'.get? I=some o):Pt X where
 s:={ z.s with heap:=h',toks:=t }
 σ:=z.σ
 μ:=z.μ
 B:=z.B
 R:=by
  refine ⟨fun c o e=>kb c o (fun q=>cZ b.nb (q ▸ e)) (z.R.stays c o e),z.R.len,fun n c r e1 e2=>(z.R.cell n c r e1 e2).map (b.view kb) fun a ha o e=>kb a o (fun q=>b.np ⟨n,r,e2,q ▸ ha⟩) e,z.R.free,fun c hc=>?_,z.R.apart⟩
  by_cases q:c=I
  ·exact q ▸ hl (q ▸ hc)
  ·exact (z.R.bans c hc).imp fun o e=>kb c o q e
theorem iZ.but (L:iZ own z0 z) (hI:z0.h.get? I=none) {b:my z I} {kb:fS I z.h h'} {hl:I ∈ z.B→∃ o,h'.get? I=some o}:iZ own z0 (z.but t b kb hl) :=
 have ne:∀ {c o},z0.h.get? c=some o→c≠I:=fun e q=>cZ hI (q ▸ e)
 ⟨congrArg (fun s:Shared=>{ s with heap:=h',toks:=t }) L.rest,L.map,fun c o e=>(L.live c o e).imp fun _ e'=>kb _ _ (ne e) e',fun c o e np no=>kb _ _ (ne e) (L.keep c o e np no),L.plc,L.ban,L.sub⟩
theorem vT {γ:Type} {l r:List γ} {x:γ} {i:Nat} (h:l.drop i=x::r):l[i]?=some x∧r=l.drop (i+1):=by
 have h1:=congrArg (·[0]?) h
 have h2:=congrArg (List.drop 1) h
 rw [List.drop_drop] at h2
 exact ⟨by simpa using h1,h2.symm⟩
theorem GJ {α:Type} {n:Nat} {g:List PV→M α} {f:α→M PV} {σ:ah} {out:PV × ah} (e:bnd (getL n g) f σ=some out):∃ l,σ[n]?=some (.lst l)∧bnd (g l) f σ=some out:=by
 obtain ⟨c,h,e⟩:=jw (show bnd (opt σ[n]? fun c:dl=>c.casesOn g (fun Z Z=>stop) fun Z=>stop) f σ=some out from e)
 cases c with
 | lst l=>exact ⟨l,h,e⟩
 | _=>first | exact bm e | exact bG e | exact dU e | exact eI e | exact nomatch e
theorem Ax (hr:om n A) (x:qU X z I it) (b:my z I) (bI:I ∉ z.B) (L:iZ own z0 z) (hI:z0.h.get? I=none) {f:Option (PV × It)→M PV} {out:PV × ah} {Q:Option Value→Shared→Prop} (e:bnd (vW it) f z.σ=some out)
  (h0:∀ h' t (kb:fS I z.h h'),iZ own z0 (z.but t b kb fun m=>absurd m bI)→f none z.σ=some out→Q none { z.s with heap:=h',toks:=t })
  (h1:∀ h' t (kb:fS I z.h h') p it' v,iZ own z0 (z.but t b kb fun m=>absurd m bI)→qU X (z.but t b kb fun m=>absurd m bI) I it'→uT X z.W p v→f (some (p,it')) z.σ=some out→Q (some v) { z.s with heap:=h',toks:=t }) :
  WP X A (pyNext (.ref I)) Q z.s:=by
 have nil:∀ h',(∀ c:Addr,∀ o,c≠I→z.h.get? c=some o→h'.get? c=some o)→f none z.σ=some out→Q none { z.s with heap:=h' }:=fun h' kb e=>h0 h' z.s.toks kb (L.but hI) e
 have eb:∀ {h':Heap},Heap.SameBut I z.h h'→fS I z.h h':=fun hs b o hb e=>(hs.2 b hb).trans e
 cases it with
 | lst m i =>
  obtain ⟨r,hr',hit⟩:=x
  obtain ⟨l,hn,e⟩:=GJ e
  obtain ⟨h12,vs,kk,h2,h3⟩:=z.R.cell m _ r hn hr'
  cases hq:l[i]? with
  | none =>
   rw [hq] at e
   have hv:vs[i]?=none:=by
    rw [Array.getElem?_eq_none_iff,dH h3]
    exact List.getElem?_eq_none_iff.mp hq
   exact wpAny_pyNext_list_end hr.handled hit (bC h2) hv fun h' hs=>nil h' (fun b o hb e=>hs b o hb e) e
  | some q =>
   rw [hq] at e
   obtain ⟨u,hu,ru⟩:=qa h3 hq
   rw [Array.getElem?_toList] at hu
   exact wpAny_pyNext_list_item hit (bC h2) hu fun h' hi hs=>h1 h' z.s.toks (eb hs) q (.lst m (i+1)) u (L.but hI) ⟨r,hr',hi⟩ ru e
 | items l =>
  obtain ⟨a,vs,kk,i,h2,hit,rl⟩ | ⟨y,t,i,hit,rfl⟩ | ⟨y,c,k,hit,rfl⟩:=x
  ·cases l with
   | nil =>
    have hv:vs[i]?=none:=by
     rw [Array.getElem?_eq_none_iff,← Array.length_toList]
     exact List.drop_eq_nil_iff.mp rl
    exact wpAny_pyNext_list_end hr.handled hit (bC h2.1) hv fun h' hs=>nil h' (fun b o hb e=>hs b o hb e) e
   | cons q l =>
    obtain ⟨u,us,hd,ru,rl⟩:=rl
    obtain ⟨hu,rfl⟩:=vT hd
    rw [Array.getElem?_toList] at hu
    exact wpAny_pyNext_list_item hit (bC h2.1) hu fun h' hi hs=>h1 h' z.s.toks (eb hs) q (.items l) u (L.but hI) (.inl ⟨a,vs,kk,i+1,(b.view (eb hs)).obj _ _ h2,hi,dA (b.view (eb hs)) rl⟩) ru e
  ·cases hq:y.cps.toList.drop i with
   | nil =>
    rw [hq] at e
    have hv:y.cps[i]?=none:=by
     rw [Array.getElem?_eq_none_iff,← Array.length_toList]
     exact List.drop_eq_nil_iff.mp hq
    exact wpAny_pyNext_ascii_end hr.handled hit hv fun h' hs=>nil h' (fun b o hb e=>hs b o hb e) e
   | cons c l =>
    rw [hq] at e
    obtain ⟨hu,rfl⟩:=vT hq
    rw [Array.getElem?_toList] at hu
    exact wpAny_pyNext_ascii_item hit hu fun h' hi hs=>h1 h' _ (eb hs) (.str [c]) (.items ((y.cps.toList.drop (i+1)).map fun c=>.str [c])) _ (L.but hI) (.inr (.inl ⟨y,t,i+1,hi,rfl⟩)) ⟨_,rfl⟩ e
  ·cases k with
   | zero=>exact wpAny_pyNext_range_end hr.handled hit (Int.le_refl _) fun h' hs=>nil h' (fun b o hb e=>hs b o hb e) e
   | succ k =>
    refine wpAny_pyNext_range_item hit (Int.ofNat_lt.mpr (Nat.succ_pos k)) fun h' hi hs=>?_
    rw [show ((k+1:Nat):Int)-1=(k:Int) by omega] at hi
    exact h1 h' _ (eb hs) (.int y) (.items (steps (y+c) c k)) _ (L.but hI) (.inr (.inr ⟨y+c,c,k,hi,rfl⟩)) ⟨_,rfl⟩ e
end
end
section
open PySem PySem.W PyProof.Rows
noncomputable def ww (sc:Scope) (x:Str):Prop:=sc.names.lookup x=some .cell∨sc.names.lookup x=some .free
structure MP (sc:Scope) (env:Env):Prop where
 kind:env.scope.kind=.function
 glob:env.globals=mainGlobals
 blt:env.builtins=builtinsNs
 loc:∀ x,sc.names.lookup x=some .local→env.kindOf x=some .local
 cel:∀ x,ww sc x→env.kindOf x=some .cell
 gl:∀ x,sc.names.lookup x=some .globalImplicit→env.kindOf x=some .globalImplicit
 apart:∀ x y c,env.cells.lookup x=some c→env.cells.lookup y=some c→x=y
noncomputable def JC {X:Fx} (z:Pt X) (env:Env) (o:Option (Option PV)) (c:Addr):Prop:=(∃ u,z.h.IsCell c u∧∀ p,o=some (some p)→∃ v,u=some v∧z.V p v)∧¬ oa z.B z.μ c∧X.hb.get? c=none∧c≠env.locals
structure c_ {X:Fx} (z:Pt X) (sc:Scope) (env:Env) (ρ:cP):Prop where
 st:MP sc env
 ns:∃ m,z.h.Ns env.locals m∧∀ x p,sc.names.lookup x=some .local→ρ.lookup x=some (some p)→∃ v,m x=some v∧z.V p v
 cells:∀ x,ww sc x→∃ c,env.cells.lookup x=some c∧JC z env (ρ.lookup x) c
 foot:¬ oa z.B z.μ env.locals
 hb:X.hb.get? env.locals=none
noncomputable def jY (sc:Scope) (env:Env) (a:Addr):Prop:=a=env.locals∨∃ x,sc.names.lookup x=some .cell∧env.cells.lookup x=some a
noncomputable def wv (sc:Scope) (env:Env) (b:Addr):Prop:=b=env.locals∨∃ x,ww sc x∧env.cells.lookup x=some b
structure GlobAll (X:Fx) (S:lU):Prop extends ClsAll X S where
 g:X.hb.Ns mainGlobals X.mg
 b:X.hb.Ns builtinsNs X.mb
 glob:∀ x p,S.glob x=some p→∃ v,uT X (view [] X.hb []) p v∧(X.mg x=some v∨(X.mg x=none∧X.mb x=some v))
theorem nE {b:Addr}:¬ kF [] b:=fun h=>h.elim fun _ h=>h.elim fun _ h=>bm h.1
theorem kz {h h':Heap} {c:Addr} {u:Option Value} (k:∀ o,h.get? c=some o→h'.get? c=some o) (x:h.IsCell c u):h'.IsCell c u:=x.imp fun o x=>⟨k o x.1,x.2⟩
theorem qd {h h':Heap} {a:Addr} {m:Str→Option Value} (k:∀ o,h.get? a=some o→h'.get? a=some o) (x:h.Ns a m):h'.Ns a m:=x.imp fun o x=>x.imp fun _ x=>x.imp fun _ x=>⟨k o x.1,x.2⟩
theorem Du {o:Option NameKind} (h:ro o=true):o=some .local∨(o=some .cell∨o=some .free):=by
 unfold ro at h
 rw [Bool.or_eq_true,Bool.or_eq_true] at h
 exact h.imp beq_iff_eq.mp fun h=>h.imp beq_iff_eq.mp beq_iff_eq.mp
theorem Go {o:Option NameKind} (h:yx o=true):o=some .local∨o=some .cell:=by
 unfold yx at h
 rw [Bool.or_eq_true] at h
 exact h.imp beq_iff_eq.mp beq_iff_eq.mp
section
variable {X:Fx} {S:lU} {A:Around} {z z0 z':Pt X} {sc:Scope} {env:Env} {ρ:cP} {I:Addr} {h':Heap} {t:Nat} {own:Addr→Prop} {p:PV} {v:Value} {x:Str} {out:PV × ah}
theorem Pt.base (z:Pt X):(view [] X.hb []).Le z.W:=⟨fun a o e=>⟨z.R.stays a o e.1,e.2.1,fun f=>cZ (z.R.free a f) e.1⟩,fun n a e=>e.elim fun _ e=>(by first | exact bm e | exact bG e | exact dU e | exact eI e | exact nomatch e)⟩
theorem c_.live (N:c_ z sc env ρ) {b:Addr} (w:wv sc env b):(∃ o,z.h.get? b=some o∧¬ vZ o)∧¬ oa z.B z.μ b:=by
 rcases w with rfl | ⟨x,h1,h2⟩
 ·obtain ⟨m,⟨o,es,ep,ho,hd,_⟩,_⟩:=N.ns
  exact ⟨⟨o,ho,fun f=>by rcases f with ⟨_,_,f⟩ | ⟨_,_,f⟩ <;> (rw [hd] at f; cases f)⟩,N.foot⟩
 ·obtain ⟨c,e1,⟨u,⟨o,ho,hd⟩,_⟩,nf,_⟩:=N.cells x h1
  rw [h2] at e1; cases e1
  exact ⟨⟨o,ho,fun f=>by rcases f with ⟨_,_,f⟩ | ⟨_,_,f⟩ <;> (rw [hd] at f; cases f)⟩,nf⟩
theorem wZ {a:Addr} (w:jY sc env a):wv sc env a:=w.imp id fun w=>w.imp fun _ w=>⟨.inl w.1,w.2⟩
theorem c_.ownOk (N:c_ z sc env ρ):zA z.h (jY sc env):=fun a o e w=>(N.live (wZ w)).1.elim fun o' h=>Option.some.inj (h.1.symm.trans e) ▸ h.2
theorem c_.later (N:c_ z sc env ρ) (m:z.W.Le z'.W) (k:∀ b o,wv sc env b→¬ oa z.B z.μ b→z.h.get? b=some o→z'.h.get? b=some o∧¬ oa z'.B z'.μ b):c_ z' sc env ρ:=by
 refine ⟨N.st,N.ns.imp fun n h=>⟨qd (fun o e=>(k _ o (.inl rfl) N.foot e).1) h.1,fun x p a b=>(h.2 x p a b).imp fun _ h=>⟨h.1,cq m h.2⟩⟩,fun x hx=>(N.cells x hx).imp fun c h=>⟨h.1,?_,?_,h.2.2.2⟩,?_,N.hb⟩
 ·exact h.2.1.imp fun u q=>⟨kz (fun o e=>(k _ o (.inr ⟨x,hx,h.1⟩) h.2.2.1 e).1) q.1,fun p e=>(q.2 p e).imp fun _ q=>⟨q.1,cq m q.2⟩⟩
 ·obtain ⟨u,⟨o,ho,_⟩,_⟩:=h.2.1
  exact (k _ o (.inr ⟨x,hx,h.1⟩) h.2.2.1 ho).2
 ·exact (N.live (.inl rfl)).1.elim fun o h=>(k _ o (.inl rfl) N.foot h.1).2
theorem c_.step (N:c_ z sc env ρ) (L:Le z z'):c_ z' sc env ρ:=N.later (Le.W L) fun b o _ nf e=>⟨L.keep b o e (fun p=>nf (.inr p)) id,L.foot e nf⟩
theorem c_.notIn (N:c_ z0 sc env ρ) (hI:z0.h.get? I=none):¬ wv sc env I:=fun w=>(N.live w).1.elim fun _ h=>cZ hI h.1
theorem c_.but (N:c_ z sc env ρ) {b:my z I} {kb:fS I z.h h'} {hl:I ∈ z.B→∃ o,h'.get? I=some o} (ni:¬ wv sc env I):c_ (z.but t b kb hl) sc env ρ :=
 N.later (b.view kb) fun c o w nf e=>⟨kb c o (fun q=>ni (q ▸ w)) e,nf⟩
theorem iZ.mine {b:my z I} {kb:fS I z.h h'} {hl:I ∈ z.B→∃ o,h'.get? I=some o} (w:own I) (l:∃ o,h'.get? I=some o):iZ own z (z.but t b kb hl):=by
 refine ⟨rfl,fun _ _ e=>e,fun c o e=>?_,fun c o e _ no=>kb c o (fun q=>no (q ▸ w)) e,fun _ _ _ n=>n,fun _ _ _ n=>n,fun _ m=>m⟩
 by_cases q:c=I
 ·exact q ▸ l
 ·exact ⟨o,kb c o q e⟩
theorem my.of (N:c_ z sc env ρ) {b:Addr} (w:wv sc env b) (nb:X.hb.get? b=none):my z b :=
 ⟨fun q=>(N.live w).2 (.inr q),nb,.inr fun o e=>(N.live w).1.elim fun o' h=>Option.some.inj (h.1.symm.trans e) ▸ h.2⟩
theorem yC (G:GlobAll X S) (N:c_ z sc env ρ) {f:PV→M PV} (e:bnd (rB S sc ρ x) f z.σ=some out) :
  ∃ r v,f r z.σ=some out∧z.V r v∧∀ {A:Around} {s:Shared} {Q:Value→Shared→Prop},fH z.h s.heap→(∀ t,Q v { s with toks:=t })→WP X A (loadName env x) Q s:=by
 cases c:ro (sc.names.lookup x) with
 | true =>
  unfold rB at e
  rw [c] at e
  obtain ⟨o,ho,e⟩:=jw (show bnd (opt (ρ.lookup x) fun o=>opt o ret) f z.σ=some out from e)
  obtain ⟨r,rfl,e⟩:=jw e
  rcases Du c with hk | hk
  ·obtain ⟨m,hn,hm⟩:=N.ns
   obtain ⟨v,h1,h2⟩:=hm x r hk ho
   exact ⟨r,v,e,h2,fun k h=>wpAny_loadName_local N.st.kind (N.st.loc x hk) (hn.keeps k) h1 (h _)⟩
  ·obtain ⟨c,e1,⟨u,hc,hp⟩,_⟩:=N.cells x hk
   obtain ⟨v,rfl,h2⟩:=hp r ho
   exact ⟨r,v,e,h2,fun k h=>wpAny_loadName_cell N.st.kind (N.st.cel x hk) e1 (kz (k c) hc) (h _)⟩
 | false =>
  unfold rB at e
  rw [c] at e
  obtain ⟨hk,e⟩:=fR (show bnd (guard (sc.names.lookup x == some .globalImplicit) (opt (S.glob x) ret)) f z.σ=some out from e)
  obtain ⟨r,hr,e⟩:=jw e
  obtain ⟨v,rv,hv⟩:=G.glob x r hr
  refine ⟨r,v,e,cq z.base rv,fun {A s Q} k h=>?_⟩
  rw [PyProof.Rows.loadName_read N.st.kind (N.st.gl x (beq_iff_eq.mp hk))]
  have hg:s.heap.Ns env.globals X.mg:=N.st.glob ▸ G.g.keeps fun b o q=>k b o (z.R.stays b o q)
  have hb:s.heap.Ns env.builtins X.mb:=N.st.blt ▸ G.b.keeps fun b o q=>k b o (z.R.stays b o q)
  exact hv.elim (fun hv=>Calls.loadGlobal_global hg hv (h _)) fun hv=>Calls.loadGlobal_builtin hg hv.1 hb hv.2 (h _)
theorem zo (G:GlobAll X S) (N:c_ z sc env ρ):aA A z nM (rB S sc ρ x) (loadName env x):=fun f out Q e h=>by
 obtain ⟨r,v,e,hv,hw⟩:=yC G N e
 exact hw (fun _ _ e=>e) fun t=>h (z.at t) r v .grow hv e
theorem wi {α:Type} {kn:cP→M α} {σ:ah} {r:α × ah} (e:bnd (jK sc ρ x p) kn σ=some r):yx (sc.names.lookup x)=true∧kn (put x (some p) ρ) σ=some r:=by
 unfold jK at e
 cases c:yx (sc.names.lookup x) with
 | false=>rw [c] at e; first | exact bm e | exact bG e | exact dU e | exact eI e | exact nomatch e
 | true=>rw [c] at e; exact ⟨rfl,e⟩
theorem jG (N:c_ z sc env ρ) (hv:z.V p v) {kn:Kn} {Q:Unit→Shared→Prop} (e:bnd (jK sc ρ x p) kn z.σ=some out)
  (hQ:∀ z' ρ',iZ (jY sc env) z z'→c_ z' sc env ρ'→kn ρ' z'.σ=some out→Q () z'.s):WP X A (storeName env x v) Q z.s:=by
 obtain ⟨c,e⟩:=wi e
 ·rcases Go c with hk | hk
  ·obtain ⟨m,hn,hm⟩:=N.ns
   refine wpAny_storeName_local (N.st.loc x hk) hn (fun h' hn' hs=>?_) (by rw [N.st.kind]; rfl)
   have b:=my.of N (.inl rfl) N.hb
   have kb:fS env.locals z.h h':=fun b o hb e=>(hs.2 b hb).trans e
   have hl:∃ o,h'.get? env.locals=some o:=hn'.imp fun _ h=>h.elim fun _ h=>h.elim fun _ h=>h.1
   refine hQ (z.but _ b kb fun Z=>hl) _ (.mine (.inl rfl) hl) ⟨N.st,⟨_,hn',fun y q hy hq=>?_⟩,fun y hy=>(N.cells y hy).imp fun c h=>⟨h.1,?_,h.2.2⟩,N.foot,N.hb⟩ e
   ·rw [j8] at hq
    by_cases hxy:y=x
    ·rw [if_pos hxy] at hq; cases hq
     exact ⟨v,if_pos hxy,cq (b.view kb) hv⟩
    ·rw [if_neg hxy] at hq
     exact (hm y q hy hq).imp fun w h=>⟨(if_neg hxy).trans h.1,cq (b.view kb) h.2⟩
   ·rw [j8,if_neg (fun q=>by subst q; rcases hy with hy | hy <;> (rw [hk] at hy; cases hy))]
    exact h.2.1.imp fun u q=>⟨kz (fun o=>kb c o h.2.2.2.2) q.1,fun p e=>(q.2 p e).imp fun _ q=>⟨q.1,cq (b.view kb) q.2⟩⟩
  ·obtain ⟨c,e1,⟨u,hc,hp⟩,nf,nb,nl⟩:=N.cells x (.inl hk)
   refine wpAny_storeName_cell N.st.kind (N.st.cel x (.inl hk)) e1 hc fun h' hc' hs=>?_
   have b:=my.of N (.inr ⟨x,.inl hk,e1⟩) nb
   have kb:fS c z.h h':=fun b o hb e=>(hs.2 b hb).trans e
   have hl:∃ o,h'.get? c=some o:=hc'.imp fun _ h=>h.1
   refine hQ (z.but _ b kb fun Z=>hl) _ (.mine (.inr ⟨x,hk,e1⟩) hl) ⟨N.st,N.ns.imp fun m h=>⟨qd (fun o=>kb _ o (Ne.symm nl)) h.1,fun y q hy hq=>?_⟩,fun y hy=>?_,N.foot,N.hb⟩ e
   ·rw [j8,if_neg (fun q=>by subst q; rw [hk] at hy; cases hy)] at hq
    exact (h.2 y q hy hq).imp fun w h=>⟨h.1,cq (b.view kb) h.2⟩
   ·rw [j8]
    by_cases hxy:y=x
    ·rw [if_pos hxy,hxy]
     exact ⟨c,e1,⟨some v,hc',fun q hq=>by cases hq; exact ⟨v,rfl,cq (b.view kb) hv⟩⟩,nf,nb,nl⟩
    ·rw [if_neg hxy]
     exact (N.cells y hy).imp fun d h=>⟨h.1,h.2.1.imp fun u q=>⟨kz (fun o=>kb d o fun q=>hxy (N.st.apart y x c (q ▸ h.1) e1)) q.1,fun p e=>(q.2 p e).imp fun _ q=>⟨q.1,cq (b.view kb) q.2⟩⟩,h.2.2⟩
theorem pv {α:Type} {e:Expr} {g:Str→M α} {σ:ah} {r:α × ah} (h:pd e g σ=some r):∃ x p,e=.Name x p∧g x σ=some r:=by
 cases e with
 | Name x p=>exact ⟨x,p,rfl,h⟩
 | _=>first | exact bm h | exact bG h | exact dU h | exact eI h | exact nomatch h
theorem yc {kn:Kn} {σ:ah} {ts:List Expr}:∀ {ps:List PV} {ρ:cP},iP sc kn ts ps ρ σ=some out→(assignEach ts env).length=ps.length∧(assignEach ts env).findIdx? (·.1)=none:=by
 induction ts with
 | nil =>
  intro ps ρ e
  cases ps with
  | cons _ _=>first | exact bm e | exact bG e | exact dU e | exact eI e | exact nomatch e
  | nil=>exact ⟨rfl,rfl⟩
 | cons t r ih =>
  intro ps ρ e
  obtain ⟨x,px,rfl,e⟩:=pv e
  cases ps with
  | nil=>first | exact bm e | exact bG e | exact dU e | exact eI e | exact nomatch e
  | cons p ps =>
   have st:=ih (wi (show bnd (jK sc ρ x p) (fun ρ'=>iP sc kn r ps ρ') σ=some out from e)).2
   exact ⟨congrArg (·+1) st.1,by rw [show assignEach (.Name x px::r) env=(false,assign (.Name x px) env)::assignEach r env from rfl,List.findIdx?_cons,st.2]; rfl⟩
theorem AW {kn:Kn} {Q:Unit→Shared→Prop} {ts:List Expr}:∀ {ps:List PV} {vs:List Value} {ρ:cP} {z:Pt X},c_ z sc env ρ→z.L ps vs→iP sc kn ts ps ρ z.σ=some out →
  (∀ z' ρ',iZ (jY sc env) z z'→c_ z' sc env ρ'→kn ρ' z'.σ=some out→Q () z'.s)→WP X A (assignInOrder ((assignEach ts env).map (·.2)) vs) Q z.s:=by
 induction ts with
 | nil =>
  intro ps vs ρ z N hl e hQ
  cases ps with
  | cons _ _=>first | exact bm e | exact bG e | exact dU e | exact eI e | exact nomatch e
  | nil=>cases (show vs=[] from hl); exact wpAny_assignInOrder_none (hQ z ρ .refl N e)
 | cons t r ih =>
  intro ps vs ρ z N hl e hQ
  obtain ⟨x,px,rfl,e⟩:=pv e
  cases ps with
  | nil=>first | exact bm e | exact bG e | exact dU e | exact eI e | exact nomatch e
  | cons p ps =>
   obtain ⟨v,us,rfl,hv,hl⟩:=hl
   exact wpAny_assignInOrder_more (wpAny_assign_Name (jG (kn:=fun ρ'=>iP sc kn r ps ρ') N hv e fun z' ρ' L N' e'=>ih N' (dA (L.view N.ownOk) hl) e' fun z2 ρ2 L2=>hQ z2 ρ2 (L.trans L2)))
theorem xk {n:Nat} {kn:Kn} {Q:Unit→Shared→Prop} {t:Expr} (hr:om n A) (N:c_ z sc env ρ) (hv:z.V p v) (e:dx sc ρ t p kn z.σ=some out)
  (hQ:∀ z' ρ',iZ (jY sc env) z z'→c_ z' sc env ρ'→kn ρ' z'.σ=some out→Q () z'.s):WP X A (assign t env v) Q z.s:=by
 cases t with
 | Name x px=>exact wpAny_assign_Name (jG N hv e hQ)
 | Tuple ts k px =>
  cases p with
  | tup ps =>
   obtain ⟨a,o,vs,m,rfl,e0,c,d,rl⟩:=hv
   have e:guard (Nat.ble ts.length 20) (iP sc kn ts ps ρ) z.σ=some out:=e
   cases g:Nat.ble ts.length 20 with
   | false=>rw [g] at e; first | exact bm e | exact bG e | exact dU e | exact eI e | exact nomatch e
   | true =>
    rw [g] at e
    have e:iP sc kn ts ps ρ z.σ=some out:=e
    have sh:=yc (env:=env) e
    refine wpAny_assign_Tuple hr.handled ⟨o,e0.1,c,m,d⟩ (by rw [sh.1,dH rl]) sh.2 fun h' hx=>?_
    have k:fH z.h h':=fun b o e=>hx b o (Nat.ne_of_lt (Heap.lt_size e)) e
    exact AW (z:=z.grow h' z.s.toks k) (N.step .grow) (Le.L .grow rl) e fun z' ρ' L=>hQ z' ρ' (Le.grow.trans L)
  | _=>first | exact bm e | exact bG e | exact dU e | exact eI e | exact nomatch e
 | _=>first | exact bm e | exact bG e | exact dU e | exact eI e | exact nomatch e
theorem v7 {α β:Type} {kn:cP→M α} {f:α→M β}:bnd (bnd (jK sc ρ x p) kn) f=bnd (jK sc ρ x p) fun ρ'=>bnd (kn ρ') f:=gw _ _ _
theorem BF {α β:Type} {kn:cP→M α} {f:α→M β} {ts:List Expr}:∀ {ps:List PV} {ρ:cP},bnd (iP sc kn ts ps ρ) f=iP sc (fun ρ'=>bnd (kn ρ') f) ts ps ρ:=by
 induction ts with
 | nil=>intro ps ρ; cases ps <;> rfl
 | cons t r ih =>
  intro ps ρ
  show bnd (pd t _) f=pd t _
  cases t with
  | Name x px=>cases ps with
   | nil=>rfl
   | cons p ps=>exact v7.trans (congrArg (bnd _) (funext fun ρ'=>ih))
  | _=>rfl
theorem Ht {α β:Type} {kn:cP→M α} {f:α→M β} {t:Expr}:bnd (dx sc ρ t p kn) f=dx sc ρ t p fun ρ'=>bnd (kn ρ') f:=by
 cases t with
 | Name x px=>exact v7
 | Tuple ts k px=>cases p with
  | tup ps =>
   show bnd (guard (Nat.ble ts.length 20) _) f=guard (Nat.ble ts.length 20) _
   cases Nat.ble ts.length 20 with
   | true=>exact BF
   | false=>rfl
  | _=>rfl
 | _=>rfl
end
end
section
open PySem PySem.W PyProof.Rows
noncomputable def j_:List Value→List PV→Prop
 | [],[]=>True
 | v::vs,p::ps=>(∃ i t,v=.int i t∧p=.int i)∧j_ vs ps
 | _,_=>False
theorem j_.rep {X:Fx} {W:oc} {ps:List PV}:∀ {vs:List Value},j_ vs ps→gf X W ps vs:=by
 induction ps with
 | nil =>
  intro vs h
  cases vs with
  | nil=>rfl
  | cons _ _=>exact h.elim
 | cons p ps ih =>
  intro vs h
  cases vs with
  | nil=>exact h.elim
  | cons v vs =>
   obtain ⟨⟨i,t,rfl,rfl⟩,r⟩:=h
   exact ⟨_,_,rfl,⟨t,rfl⟩,ih r⟩
noncomputable def Bh (hb:Heap) (fd:FuncData) (fi:gA):Prop :=
 ∀ {s:Shared} {ws:List Value} {vs:List PV} {b:List (Str × PV)},(∀ a o,hb.get? a=some o→s.heap.get? a=some o)→ws.length=vs.length→CY fi vs=some b →
  ∃ dv dq,BindsTo s fd ⟨ws,[]⟩ (fi.params.zip (ws++dv))∧(ws++dv).length=fi.params.length∧b=fi.params.zip (vs++dq)∧j_ dv dq
noncomputable def jI:List Str→Bool
 | []=>true
 | x::r=>!r.contains x && jI r
noncomputable def HF (fi:gA):Bool :=
 jI fi.params && (fi.params.all fun x=>fi.scope.names.lookup x == some .local || fi.scope.names.lookup x == some .cell) && (fi.scope.names.all fun p=>p.2 != .free) &&
  (fi.scope.kind == .function) && !fi.scope.isCoroutine && !fi.scope.isGenerator
structure JK (hb:Heap) (a:Addr) (fi:gA):Prop where
 fd:∃ (fd:FuncData) (o:Obj),hb.get? a=some o∧o.data=.func fd∧fd.body=.stmts fi.body∧fd.scope=fi.scope∧fd.closure=[]∧fd.globals=mainGlobals∧fd.builtins=builtinsNs ∧
  hb.CodeRec fd.code fd.qualname∧Bh hb fd fi
 ok:HF fi=true
structure qn (X:Fx) (S:lU):Prop extends GlobAll X S where
 nolimit:X.hb.NoLimit
 funs:∀ x a fi,X.fa x=some a→S.fns x=some fi→JK X.hb a fi
 makes:∀ c C ci,X.ca c=some C→S.clss c=some ci→makesIn X.K C=true∧∃ fI,X.fa ci.init=some fI∧findIn X.K (.ref C) "__init__"=some (some (.ref fI))∧typeIn X.K (.ref fI)=some (.type "function")
 fnk:∀ x a,X.fa x=some a→keepIn X.K (.ref a)=true
 clk:∀ c C,X.ca c=some C→keepIn X.K (.ref C)=true
 meth:∀ c C ci n f,X.ca c=some C→S.clss c=some ci→ci.meths.lookup n=some f→∃ fa,X.fa f=some fa∧findIn X.K (.ref C) n=some (some (.ref fa))∧typeIn X.K (.ref fa)=some (.type "function")
noncomputable def mY (S:lU) (n:Nat) (call:PV→List PV→M PV):Prop:=∀ {X:Fx} {A:Around} {z:Pt X} {f:Value} {p:PV} {ws:List Value} {vs:List PV},qn X S→om n A→z.V p f→z.L vs ws→aA A z nM (call p vs) (PySem.call f ws)
structure nH (S:lU) (n:Nat) {X:Fx} (A:Around) (z:Pt X) (sc:Scope) (env:Env) (ρ:cP):Prop where
 F:qn X S
 hr:om n A
 N:c_ z sc env ρ
noncomputable def nR (env:Env) (es:List Expr) (b:Bool):Sem Bool:=forIn es b fun c r=>if r=true then do let ok ← isTrue c env (eval c env); pure (ForInStep.yield ok) else pure (ForInStep.yield r)
structure fD (S:lU) (n:Nat) (f:EK):Prop where
 E:∀ {X:Fx} {A:Around} {z:Pt X} {sc:Scope} {env:Env} {ρ:cP},nH S n A z sc env ρ→∀ e,aA A z nM (f.E sc ρ e) (eval e env)
 T:∀ {X:Fx} {A:Around} {z:Pt X} {sc:Scope} {env:Env} {ρ:cP},nH S n A z sc env ρ→∀ e,aA A z Hj (f.T sc ρ e) (isTrue e env (eval e env))
 L:∀ {X:Fx} {A:Around} {z:Pt X} {sc:Scope} {env:Env} {ρ:cP},nH S n A z sc env ρ→∀ pos es,aA A z Nr (f.L sc ρ es) (spliced (backTo pos (starEach es env)))
 O:∀ {X:Fx} {A:Around} {z:Pt X} {sc:Scope} {env:Env} {ρ:cP},nH S n A z sc env ρ→∀ e,aA A z nM (f.O sc ρ e) (evalPart e env)
 B:∀ {X:Fx} {A:Around} {z:Pt X} {sc:Scope} {env:Env} {ρ:cP},nH S n A z sc env ρ→∀ pos op es,aA A z nM (f.B sc ρ op es) (boolOp pos op (evalEach es env))
 A:∀ {X:Fx} {A:Around} {z:Pt X} {sc:Scope} {env:Env} {ρ:cP},nH S n A z sc env ρ→∀ op es,aA A z Hj (f.A sc ρ op es) (allTrue op es env)
 C:∀ {X:Fx} {A:Around} {z:Pt X} {sc:Scope} {env:Env} {ρ:cP},nH S n A z sc env ρ→∀ pos ops es {p a},z.V p a→aA A z (Ho false) (f.C sc ρ p ops es) (compareChain pos a ops (evalEach es env))∧aA A z Hj (f.C sc ρ p ops es) (testChain pos a ops (evalEach es env))
 I:∀ {X:Fx} {A:Around} {z:Pt X} {sc:Scope} {env:Env} {ρ:cP},nH S n A z sc env ρ→∀ es,aA A z Hj (f.I sc ρ es) (nR env es true)
section
variable {S:lU} {n:Nat} {X:Fx} {A:Around} {z z':Pt X} {sc:Scope} {env:Env} {ρ:cP} {call:PV→List PV→M PV} {fe:EK} {p:PV} {v:Value} {vs:List PV} {ws:List Value} {name:Str} {γ:Type}
theorem nH.step (C:nH S n A z sc env ρ) (L:Le z z'):nH S n A z' sc env ρ:=⟨C.F,C.hr,C.N.step L⟩
theorem oK {e:Expr} {r:List Expr} (h:gI e=true):starEach (e::r) env=(false,eval e env)::starEach r env:=by
 cases e <;> first | rfl | cases h
theorem CS {o:Expr} {whole:Sem Value} (h:BX o=true):attributeBase o name env whole=whole:=by
 cases o <;> first | rfl | cases h
theorem tN {pos:Pos} {es:List Expr} (h:es.all gI=true):(backTo pos (starEach es env)).any (·.1)=false:=by
 induction es with
 | nil=>rfl
 | cons e r ih =>
  have h:=Bool.and_eq_true_iff.mp h
  rw [oK h.1]
  exact ih h.2
theorem Ar {pos:Pos} {f:Value} {s:Shared} {es:List Expr} {Q:Args→Shared→Prop} (pl:es.all gI=true) (h:WP X A (spliced (backTo pos (starEach es env))) (fun vs s'=>Q ⟨vs,[]⟩ s') s):WP X A (evalArgs f true (backTo pos (starEach es env)) []) Q s:=by
 cases es with
 | nil =>
  unfold evalArgs
  show WP X A (spliced [] >>= _) Q s
  refine wpAny_bind (wpAny_mono h (fun vs s' h'=>wpAny_bind (wpAny_pure (wpAny_holding ?_))) fun _ _ x=>x)
  exact wpAny_bind (wpAny_pure (wpAny_bind (wpAny_pure (wpAny_pure h'))))
 | cons e r =>
  rw [oK (Bool.and_eq_true_iff.mp pl).1] at h ⊢
  exact Calls.evalArgs_plain h
noncomputable def GA (X:Fx) (P:Heap→Prop) (f:Value):Prop:=∀ h,P h→∃ k,(k=Keeper.frame∨k=Keeper.machine∨k=Keeper.boundFrame)∧Looks (model X.prog X.w) h (keeperOf f) k
theorem hJ (IH:fD S n fe) (C:nH S n A z sc env ρ) {f:Value} {first:List Value} {args:List Expr} {pos:Pos} {P:Heap→Prop} {Q:Value→Shared→Prop} {g:List PV→M γ} {f':γ→M PV} {out:PV × ah} (pl:args.all gI=true) (hk:GA X P f)
  (e:bnd (bnd (fe.L sc ρ args) g) f' z.σ=some out) (h:∀ z' vs ws,Le z z'→z'.L vs ws→bnd (g vs) f' z'.σ=some out→P z'.h∧WP X A (PySem.call f (first++ws)) Q z'.s):WP X A (callWith pos f first (backTo pos (starEach args env)) []) Q z.s :=
 callWith_of (P:=P) (by rw [tN pl]; rfl) hk (Ar pl ((IH.L C pos args).run e h))
theorem aA.orFn {α β:Type} {P:Pt X→α→β→Prop} {m:M α} {T:Value→Sem β} {f:Str→M α} (hv:z.V p v) (h:∀ x a,X.fa x=some a→aA A z P (f x) (T (.ref a))) (h':aA A z P m (T v)):aA A z P (orFn p f m) (T v):=by
 cases p with
 | fn x=>obtain ⟨a,rfl,e⟩:=hv; exact h x a e
 | _=>exact h'
theorem aA.orCls {α β:Type} {P:Pt X→α→β→Prop} {m:M α} {T:Value→Sem β} {f:Str→M α} (hv:z.V p v) (h:∀ x a,X.ca x=some a→aA A z P (f x) (T (.ref a))) (h':aA A z P m (T v)):aA A z P (orCls p f m) (T v):=by
 cases p with
 | cls x=>obtain ⟨a,rfl,e⟩:=hv; exact h x a e
 | _=>exact h'
theorem aA.orBi {α β:Type} {P:Pt X→α→β→Prop} {m:M α} {T:Value→Sem β} {f:String→M α} (hv:z.V p v) (h:∀ x,aA A z P (f x) (T (.builtin x))) (h':aA A z P m (T v)):aA A z P (orBi p f m) (T v):=by
 cases p with
 | bi x=>cases (show v=_ from hv); exact h x
 | _=>exact h'
theorem aA.orTy {α β:Type} {P:Pt X→α→β→Prop} {m:M α} {T:Value→Sem β} {f:String→M α} (hv:z.V p v) (h:∀ x,aA A z P (f x) (T (.type x))) (h':aA A z P m (T v)):aA A z P (orTy p f m) (T v):=by
 cases p with
 | ty x=>cases (show v=_ from hv); exact h x
 | _=>exact h'
theorem Do (hc:mY S n call) (F:qn X S) (hr:om n A) (hv:z.V p v) (hl:z.L vs ws):aA A z nM (uw call p vs) (PySem.call v ws) :=
 .orBi (T:=fun v=>PySem.call v ws) hv (fun Z=>HT hr hl) (.orTy (T:=fun v=>PySem.call v ws) hv (fun Z=>H9 hl) (.orFn (T:=fun v=>PySem.call v ws) hv (fun x a e=>hc F hr (p:=.fn x) ⟨a,rfl,e⟩ hl) (.orCls (T:=fun v=>PySem.call v ws) hv (fun x a e=>hc F hr (p:=.cls x) ⟨a,rfl,e⟩ hl) .stop)))
theorem lc {f:String}:GA X (fun Z=>True) (.builtin f):=fun Z Z=>⟨.machine,.inr (.inl rfl),.now⟩
theorem FN (F:qn X S) (hv:z.V p v):GA X X.K.In v∨uw call p=fun Z=>stop:=by
 cases p with
 | fn x=>obtain ⟨a,rfl,e⟩:=hv; exact .inl fun h' hK=>keeps_K (F.fnk _ _ e) h' hK
 | cls x=>obtain ⟨a,rfl,e⟩:=hv; exact .inl fun h' hK=>keeps_K (F.clk _ _ e) h' hK
 | bi id=>cases (show v=_ from hv); exact .inl fun Z Z=>⟨.machine,.inr (.inl rfl),.now⟩
 | ty id=>cases (show v=_ from hv); exact .inl fun Z Z=>⟨.machine,.inr (.inl rfl),.now⟩
 | _=>exact .inr rfl
theorem Fr {α δ:Type} {m:M α} {f:γ→M PV} {σ:ah} {out:PV × ah} (e:bnd (bnd m fun Z=>(stop:M γ)) f σ=some out):False:=by
 rw [gw] at e
 unfold bnd at e
 cases q:m σ with
 | none=>rw [q] at e; cases e
 | some x=>rw [q] at e; cases e
noncomputable def Mf {X:Fx} (z0:Pt X) (p:PV) (v:Value) (name:Str) (_:Pt X) (c:Ke) (u:Value × List Value):Prop:=∃ f,u=(f,[v])∧c.casesOn (f=.builtin (FC name)∧∃ n r,p=.loc n∧z0.μ[n]?=some r∧v=.ref r.1)
 (f=.builtin (EY name)∧∃ x t,p=.str x∧v=.str (one x) t) (f=.builtin "dict.get"∧∃ es,p=.dct es) fun g=>∃ a,f=.ref a∧X.fa g=some a
theorem IX {pl:Sem Bool} (F:qn X S) (hv:z.V p v):aA A z (Mf z p v name) (bw S p name) (getMethod v name pl):=by
 cases p with
 | loc n =>
  obtain ⟨a,rfl,b,hr⟩:=hv
  refine .eq (n:=Mine.opt z.σ[n]? fun c=>c.casesOn (fun Z=>guard (lw.contains name) (ret .lst)) (fun Z Z=>Mine.getI n fun c as=>Mine.opt (S.clss c) fun ci=>Mine.opt (ci.meths.lookup name) fun f=>guard (as.lookup name).isNone (ret (.fn f))) fun Z=>Mine.stop) rfl (.opt fun c hn=>?_)
  cases c with
  | lst l =>
   obtain ⟨h12,vs,k,h2,h3⟩:=z.R.cell n _ _ hn hr
   refine .guard fun g=>.now fun Q h=>?_
   obtain ⟨sl,ty⟩:=Ha g
   exact getMethod_builtin ⟨_,h2,rfl⟩ PySem.F.plainAttrs_list sl ty (fun a e=>by cases e; exact ⟨_,h2,rfl⟩) (h _ z.s.toks ⟨_,rfl,rfl,n,_,rfl,hr,rfl⟩)
  | inst cl as =>
   refine .atI hr fun c as C m od _ _ hC _ hns I hlk _ h2=>.opt fun ci hci=>.opt fun f hf=>.guard fun g=>.now fun Q h=>?_
   have K:=F.cls _ _ _ hC hci
   obtain ⟨fa,hfa,hf',ht⟩:=F.meth _ _ _ _ _ hC hci hf
   refine method_fn (z.part F.toClsAll) I K.get K.miss hf' ht ?_ (h _ z.s.toks ⟨_,rfl,fa,rfl,hfa⟩)
   show (lookIn name od).map _=_
   rw [hlk,h2 name (Option.isNone_iff_eq_none.mp g)]; rfl
  | dct _=>exact .stop
 | str x =>
  obtain ⟨t,rfl⟩:=hv
  refine .guard fun g=>.now fun Q h=>?_
  obtain ⟨sl,ty⟩:=ES g
  exact getMethod_builtin (typeIs_str _ _ _) PySem.F.plainAttrs_str sl ty (fun a e=>(by first | exact bm e | exact bG e | exact dU e | exact eI e | exact nomatch e)) (h _ z.s.toks ⟨_,rfl,rfl,x,t,rfl,rfl⟩)
 | dct es =>
  obtain ⟨a,f,rfl,hs,hm,hf⟩:=hv
  refine .guard fun g=>.now fun Q h=>?_
  rw [of_decide_eq_true g]
  have hm':=MapOf.keep (z.R.stays a) hm
  obtain ⟨o,_,_,ho,hx,_⟩:=id hm'
  exact getMethod_builtin hm'.typeIs PySem.F.plainAttrs_dict PySem.F.slot_dict_get PySem.F.type_dict_get (fun a e=>by cases e; exact ⟨_,ho,hx.2.1⟩) (h _ z.s.toks ⟨_,rfl,rfl,es,rfl⟩)
 | _=>exact .stop
end
end
section
open PySem PySem.W PyProof.Rows
theorem kL {sc:Scope} {f:Str→Option PV} {x:Str} {o:Option PV} {l:List (Str × NameKind)} (h:(lR sc f l).lookup x=some o):o=f x:=by
 induction l with
 | nil=>cases h
 | cons p r ih =>
  have h:(if ro (sc.names.lookup p.1)=true then (p.1,f p.1)::lR sc f r else lR sc f r).lookup x=some o:=h
  split at h
  ·rw [List.lookup_cons] at h
   by_cases q:x=p.1
   ·rw [beq_iff_eq.mpr q] at h
    exact q ▸ (Option.some.inj h).symm
   ·rw [beq_eq_false_iff_ne.mpr q] at h
    exact ih h
  ·exact ih h
section
variable {env:Env}
theorem Bb {names:List (Str × NameKind)}:(∀ p ∈ names,p.2=.free→∃ c,env.cells.lookup p.1=some c)→∀ acc:List (Str × Addr),∃ cl:List (Str × Addr),
  (forIn names acc fun (x:Str × NameKind) (cs:List (Str × Addr))=>(if (x.2 == NameKind.free)=true then (do let c ← cellOf env x.1; pure (ForInStep.yield ((x.1,c)::cs))) else pure (ForInStep.yield cs):Sem _))=pure cl ∧
  (∀ x c,cl.lookup x=some c→acc.lookup x=some c∨env.cells.lookup x=some c)∧(∀ x c,acc.lookup x=some c→(∃ c',cl.lookup x=some c'))∧∀ p ∈ names,p.2=.free→∃ c,cl.lookup p.1=some c:=by
 induction names with
 | nil=>exact fun _ acc=>⟨acc,List.forIn_nil,fun x c h=>.inl h,fun x c h=>⟨c,h⟩,fun p hp=>(by first | exact bm hp | exact bG hp | exact dU hp | exact eI hp | exact nomatch hp)⟩
 | cons yk r ih =>
  intro hc acc
  by_cases hk:yk.2=.free
  ·obtain ⟨c,hcc⟩:=hc yk (.head _) hk
   obtain ⟨cl,h1,h2,h3,h4⟩:=ih (fun p hp=>hc p (.tail _ hp)) ((yk.1,c)::acc)
   have look:∀ x,((yk.1,c)::acc).lookup x=if x=yk.1 then some c else acc.lookup x:=fun x=>by
    rw [List.lookup_cons]
    by_cases q:x=yk.1
    ·rw [if_pos q,beq_iff_eq.mpr q]
    ·rw [if_neg q,beq_eq_false_iff_ne.mpr q]
   refine ⟨cl,?_,fun x d h=>(h2 x d h).elim (fun h=>?_) .inr,fun x d h=>?_,fun p hp hf=>?_⟩
   ·rw [List.forIn_cons,if_pos (beq_iff_eq.mpr hk),show cellOf env yk.1=pure c by unfold cellOf; rw [hcc]]
    rw [pure_bind,pure_bind]; exact h1
   ·rw [look] at h
    split at h
    ·rename_i q; cases h; exact .inr (q ▸ hcc)
    ·exact .inl h
   ·by_cases q:x=yk.1
    ·exact h3 x c ((look x).trans (if_pos q))
    ·exact h3 x d ((look x).trans ((if_neg q).trans h))
   ·exact (List.mem_cons.mp hp).elim (fun q=>h3 p.1 c ((look p.1).trans (if_pos (congrArg Prod.fst q)))) fun hp=>h4 p hp hf
  ·obtain ⟨cl,h1,h2,h3,h4⟩:=ih (fun p hp=>hc p (.tail _ hp)) acc
   refine ⟨cl,?_,h2,h3,fun p hp hf=>(List.mem_cons.mp hp).elim (fun q=>absurd (q ▸ hf) hk) fun hp=>h4 p hp hf⟩
   rw [List.forIn_cons,if_neg (fun q=>hk (beq_iff_eq.mp q)),pure_bind]; exact h1
structure yd (csc:Scope) (env:Env) (cl:List (Str × Addr)):Prop where
 eq:closureFor csc env=pure cl
 sub:∀ x c,cl.lookup x=some c→env.cells.lookup x=some c
 all:∀ p ∈ csc.names,p.2=.free→∃ c,cl.lookup p.1=some c
theorem u0 {csc:Scope} (hc:∀ p ∈ csc.names,p.2=.free→∃ c,env.cells.lookup p.1=some c):∃ cl,yd csc env cl:=by
 obtain ⟨cl,h1,h2,_,h4⟩:=Bb hc []
 refine ⟨cl,?_,fun x c h=>(h2 x c h).elim (fun y=>(by first | exact bm y | exact bG y | exact dU y | exact eI y | exact nomatch y)) id,h4⟩
 rw [← h1]
 unfold closureFor
 exact bind_pure _
theorem jO (csc:Scope) (env:Env) (x:Str):(relabel csc env).names.lookup x=(csc.names.lookup x).map fun k=>if (k == .free && env.scope.kind == .function && env.kindOf x == some .cell)=true then .cell else k:=by
 show (csc.names.map _).lookup x=_
 generalize csc.names=l
 induction l with
 | nil=>rfl
 | cons p r ih =>
  obtain ⟨y,k⟩:=p
  have e:∀ c:Bool,(if c=true then (y,NameKind.cell) else (y,k))=(y,if c=true then .cell else k):=fun c=>by cases c <;> rfl
  rw [List.map_cons,List.lookup_cons (k:=y)]
  show List.lookup x ((if _ then _ else _)::_)=_
  rw [e,List.lookup_cons]
  by_cases q:x=y
  ·rw [beq_iff_eq.mpr q,← q]; rfl
  ·rw [beq_eq_false_iff_ne.mpr q]; exact ih
end
structure tz (sc csc:Scope):Prop where
 kind:csc.kind=.function
 cell:∀ p ∈ csc.names,p.2≠.cell
 loc:∀ p ∈ csc.names,p.2=.local→csc.names.lookup p.1=some .local
 free:∀ p ∈ csc.names,p.2=.free→ww sc p.1
theorem tz.of {sc csc:Scope} (h:GP sc csc=true):tz sc csc:=by
 have h:=Bool.and_eq_true_iff.mp h
 have h2:=List.all_eq_true.mp h.2
 refine ⟨beq_iff_eq.mp h.1,fun p hp=>?_,fun p hp hl=>?_,fun p hp hf=>?_⟩ <;> have h3:=Bool.and_eq_true_iff.mp (h2 p hp) <;> have h4:=Bool.and_eq_true_iff.mp h3.1
 ·exact bne_iff_ne.mp h4.1
 ·exact (Bool.or_eq_true_iff.mp h4.2).elim (fun q=>absurd hl (bne_iff_ne.mp q)) beq_iff_eq.mp
 ·exact (Bool.or_eq_true_iff.mp h3.2).elim (fun q=>(Bool.or_eq_true_iff.mp q).elim (fun q=>absurd hf (bne_iff_ne.mp q)) fun q=>.inl (beq_iff_eq.mp q)) fun q=>.inr (beq_iff_eq.mp q)
section
variable {X:Fx} {S:lU} {n:Nat} {A:Around} {z z0 z':Pt X} {sc csc:Scope} {env:Env} {ρ:cP} {cl:List (Str × Addr)} {C D I:Addr} {fe:EK} {it:It} {ys:List PV} {own:Addr→Prop} {out:PV × ah}
theorem qg {h:Heap} {a:Addr} (x:∃ m,h.Ns a m):(∃ o,h.get? a=some o)∧∀ o,h.get? a=some o→¬ vZ o:=by
 obtain ⟨m,o,es,ep,ho,hd,_⟩:=x
 refine ⟨⟨o,ho⟩,fun o' e f=>?_⟩
 rw [ho] at e; cases e
 rcases f with ⟨_,_,f⟩ | ⟨_,_,f⟩ <;> (rw [hd] at f; cases f)
theorem FP (ok:tz sc csc) (N:c_ z sc env ρ) (K:yd csc env cl) (hn:∃ m,z.h.Ns C m) (nf:¬ oa z.B z.μ C) (nb:X.hb.get? C=none):c_ z csc (compEnvC csc cl C env) (CQ csc ρ):=by
 have kf:∀ x,ww csc x→(x,NameKind.free) ∈ csc.names:=fun x hx=>hx.elim (fun hx=>absurd rfl (ok.cell _ (mem_of_lookup hx))) fun hx=>mem_of_lookup hx
 refine ⟨⟨ok.kind,N.st.glob,N.st.blt,fun x hx=>?_,fun x hx=>?_,fun x hx=>?_,fun x y c a b=>N.st.apart x y c (K.sub _ _ a) (K.sub _ _ b)⟩,hn.imp fun m hn=>⟨hn,fun x p hx hp=>?_⟩,fun x hx=>?_,nf,nb⟩
 ·exact (jO csc env x).trans (by rw [hx]; rfl)
 ·have hm:=kf x hx
  refine (jO csc env x).trans ?_
  have hx:csc.names.lookup x=some .free:=hx.elim (fun hx=>absurd rfl (ok.cell _ (mem_of_lookup hx))) id
  rw [hx,Option.map_some,if_pos]
  rw [N.st.kind,N.st.cel x (ok.free _ hm rfl)]; rfl
 ·exact (jO csc env x).trans (by rw [hx]; rfl)
 ·have:=kL hp
  rw [if_neg (by rw [hx]; exact fun q=>(by first | exact bm q | exact bG q | exact dU q | exact eI q | exact nomatch q))] at this
  cases this
 ·have hm:=kf x hx
  obtain ⟨c,hc⟩:=K.all _ hm rfl
  obtain ⟨c',e1,⟨u,hu,hp⟩,h2⟩:=N.cells x (ok.free _ hm rfl)
  have e2:=K.sub x c hc
  rw [e1] at e2; cases e2
  refine ⟨_,hc,⟨u,hu,fun p hpk=>hp p ?_⟩,h2.1,h2.2.1,fun q=>?_⟩
  ·have:=kL hpk
   rw [if_pos (hx.elim (fun hx=>absurd rfl (ok.cell _ (mem_of_lookup hx))) id)] at this
   revert this
   generalize ρ.lookup x=o
   cases o with
   | none=>exact fun q=>(by first | exact bm q | exact bG q | exact dU q | exact eI q | exact nomatch q)
   | some o=>cases o with
    | none=>exact fun q=>(by first | exact bm q | exact bG q | exact dU q | exact eI q | exact nomatch q)
    | some y=>exact fun q=>by cases q; rfl
  ·have q:_=C:=q
   obtain ⟨m,o,es,ep,ho,hd,_⟩:=hn
   obtain ⟨o',ho',hd'⟩:=hu
   rw [q,ho] at ho'; cases ho'
   rw [hd] at hd'; cases hd'
structure Ae {X:Fx} (z0:Pt X) (D C I:Addr):Prop where
 sD:z0.h.get? D=none
 sC:z0.h.get? C=none
 sI:z0.h.get? I=none
 DC:D≠C
 DI:D≠I
 CI:C≠I
structure mt {X:Fx} (z0 z:Pt X) (D C:Addr) (ys:List PV):Prop where
 L:Le z0 z
 bD:D ∈ z.B
 pD:¬ kF z.μ D
 fC:¬ oa z.B z.μ C
 ns:∃ m,z.h.Ns C m
 ls:∃ arr kk,z.h.get? D=some (dN arr kk)∧z.L ys arr.toList
structure ku {X:Fx} (z:Pt X) (I:Addr) (it:It):Prop where
 fI:¬ oa z.B z.μ I
 it:qU X z I it
theorem mt.later (K:mt z0 z D C ys) (S0:Ae z0 D C I) (L:iZ own z z') (w:∀ x,own x→x=C) (hn:∃ m,z'.h.Ns C m):mt z0 z' D C ys :=
 have lC:=(qg K.ns)
 have ok:zA z.h own:=fun a o e q=>lC.2 o (w a q ▸ e)
 ⟨K.L.fresh L fun x q=>w x q ▸ S0.sC,L.sub _ K.bD,K.ls.elim fun _ h=>h.elim fun _ h=>L.plc _ _ h.1 K.pD,lC.1.elim fun o e=>L.foot e K.fC,hn,
  K.ls.imp fun arr h=>h.imp fun kk h=>⟨L.keep _ _ h.1 K.pD fun q=>S0.DC (w _ q),dA (L.view ok) h.2⟩⟩
theorem ku.later (K:ku z I it) (L:iZ own z z') (no:¬ own I) (ok:zA z.h own):ku z' I it:=by
 obtain ⟨o,_,_,e,_⟩:=K.it.obj
 exact ⟨L.foot e K.fI,K.it.later (L.view ok) L.map fun o e=>L.keep _ _ e (fun p=>K.fI (.inr p)) no⟩
theorem ku.bare (K:ku z I it) (nb:X.hb.get? I=none):my z I:=⟨fun q=>K.fI (.inr q),nb,.inr K.it.loose⟩
theorem mt.but {h':Heap} {t:Nat} {b:my z I} {kb:fS I z.h h'} {hl:I ∈ z.B→∃ o,h'.get? I=some o} (K:mt z0 z D C ys) (S0:Ae z0 D C I):mt z0 (z.but t b kb hl) D C ys :=
 ⟨K.L.but S0.sI,K.bD,K.pD,K.fC,K.ns.imp fun m h=>qd (fun o=>kb _ o S0.CI) h,K.ls.imp fun arr h=>h.imp fun kk h=>⟨kb _ _ S0.DI h.1,dA (b.view kb) h.2⟩⟩
theorem xu {prog:Program} {w:World} {s:Shared} {R:Result→Shared→Prop} {elt target iter:Expr} {ifs:List Expr} {scope:Scope} {pos:Pos} {it acc:Value} (I:Nat→Shared→Prop)
  (turn:∀ n s,I n s→wpAny (model prog w) A (pyNext it) (fun r s₁=>match r with
   | none=>R (.ok .next) s₁
   | some v=>wpAny (model prog w) A (letOwnedTupleGo target it v) (fun _ s₁'=>wpAny (model prog w) A (assign target env v) (fun _ s₂ =>
     wpAny (model prog w) A (nR env ifs true) (fun ok s₃ =>
      if ok=true then wpAny (model prog w) A (eval elt env) (fun x s₄ =>
       wpAny (model prog w) A (PySem.call (.builtin "list.append") [acc,x]) (fun _ s₅=>∃ m,m<n∧I m s₅) (fun Z Z=>False) s₄) (fun Z Z=>False) s₃
      else ∃ m,m<n∧I m s₃) (fun Z Z=>False) s₂) (fun Z Z=>False) s₁') (fun Z Z=>False) s₁) (fun Z Z=>False) s)
  (n:Nat) (h:I n s):codeAny (model prog w) A (.compLoop (.ListComp elt [⟨target,iter,ifs,0⟩] scope pos) 0 it acc env) R s:=by
 refine codeAny_loop rfl I (fun n s hI=>?_) n h
 show wpAny _ A ((compTurn (.ListComp elt [⟨target,iter,ifs,0⟩] scope pos) 0 it acc env).onRaise (fun x=>do noteFrame x env; theTreesLotGoes x)) _ _ s
 refine wpAny_noted ?_
 rw [compTurn_list]
 refine wpAny_bind (wpAny_standAt (wpAny_bind (wpAny_mono (turn n s hI) (fun r s₁ h₁=>?_) fun _ _ h'=>h'.elim)))
 cases r with
 | none=>exact wpAny_pure h₁
 | some v =>
  refine wpAny_bind (wpAny_mono h₁ (fun _ s₁' h₁'=>?_) fun _ _ h'=>h'.elim)
  refine wpAny_bind (wpAny_mono h₁' (fun _ s₂ h₂=>wpAny_bind (wpAny_mono h₂ (fun ok s₃ h₃=>?_) fun _ _ h'=>h'.elim)) fun _ _ h'=>h'.elim)
  cases ok with
  | false=>exact wpAny_pure ⟨rfl,h₃⟩
  | true =>
   exact wpAny_bind (wpAny_bind (wpAny_mono h₃ (fun x s₄ h₄=>wpAny_bind (wpAny_mono h₄ (fun _ s₅ h₅=>wpAny_pure (wpAny_pure ⟨rfl,h₅⟩)) fun _ _ h'=>h'.elim)) fun _ _ h'=>h'.elim))
end
end
section
open PySem PySem.W PyProof.Rows
section
variable {X:Fx} {S:lU} {n:Nat} {A:Around} {z z0 z':Pt X} {sc csc:Scope} {env:Env} {ρ:cP} {cl:List (Str × Addr)} {C D I:Addr} {fe:EK} {it:It} {ys:List PV} {out:PV × ah} {elt iter tgt:Expr} {ifs:List Expr} {pos:Pos}
theorem Ah {α:Type} {m:M α} {f:α→M PV} {σ:ah} (e:bnd m f σ=some out):∃ a σ',f a σ'=some out:=by
 unfold bnd at e
 generalize m σ=o at e
 cases o with
 | none=>cases e
 | some x=>exact ⟨x.1,x.2,e⟩
theorem DR (S0:Ae z0 D C I) (K:mt z0 z D C ys) (KI:ku z I it) (nD:X.hb.get? D=none) {y:PV} {v:Value} (hv:z.V y v) (hz:ys.length≤sizeLine) {Q:Value→Shared→Prop} (h:∀ z',mt z0 z' D C (ys++[y])→ku z' I it→z'.σ=z.σ→Q .none z'.s) :
  WP X A (PySem.call (.builtin "list.append") [.ref D,v]) Q z.s:=by
 obtain ⟨arr,kk,hd,hl⟩:=K.ls
 refine wpAny_list_append_plain ⟨kk,hd⟩ (fun h5 hp hs=>?_) (by rw [dH hl]; exact hz)
 obtain ⟨k5,hd5⟩:=hp
 have b:my z D:=⟨K.pD,nD,.inl K.bD⟩
 have kb:fS D z.h h5:=fun b o hb e=>(hs.2 b hb).trans e
 refine h (z.but z.s.toks b kb fun Z=>⟨_,hd5⟩) ⟨K.L.but S0.sD,K.bD,K.pD,K.fC,K.ns.imp fun m h=>qd (fun o=>kb _ o (Ne.symm S0.DC)) h,arr.push v,k5,hd5,?_⟩
  ⟨KI.fI,KI.it.later (b.view kb) (fun _ _ e=>e) fun o=>kb _ o (Ne.symm S0.DI)⟩ rfl
 rw [Array.toList_push]
 exact nj (ze (cq (b.view kb) hv)) (dA (b.view kb) hl)
theorem D1 (IH:fD S n fe) (F:qn X S) (hr:om n A) (S0:Ae z0 D C I) (ok:tz sc csc) (N:c_ z0 sc env ρ) (Kc:yd csc env cl) {f:List PV→M PV} {RR:Result→Shared→Prop} (nD:X.hb.get? D=none) (nC:X.hb.get? C=none) (nI:X.hb.get? I=none)
  (hf:∀ l σ,f l σ=some out→l.length≤sizeLine) (hRR:∀ z' l,mt z0 z' D C l→f l z'.σ=some out→RR (.ok .next) z'.s) (N':Nat) {z:Pt X} {it:It} (K:mt z0 z D C []) (KI:ku z I it) (e:bnd (compLoop (ut fe ρ csc tgt elt ifs) N' it) f z.σ=some out) :
  codeAny (model X.prog X.w) A (.compLoop (.ListComp elt [⟨tgt,iter,ifs,0⟩] csc pos) 0 (.ref I) (.ref D) (compEnvC csc cl C env)) RR z.s:=by
 refine xu (fun N' s'=>∃ (z:Pt X) (it:It) (ys:List PV),s'=z.s∧mt z0 z D C ys∧ku z I it∧bnd (compLoop (ut fe ρ csc tgt elt ifs) N' it) (fun xs=>f (ys++xs)) z.σ=some out) ?_ N' ⟨z,it,[],rfl,K,KI,e⟩
 rintro fuel _ ⟨z,it,ys,rfl,K,KI,e⟩
 cases fuel with
 | zero=>first | exact bm e | exact bG e | exact dU e | exact eI e | exact nomatch e
 | succ fuel =>
  have e:=(congrFun (gw (vW it) _ fun xs=>f (ys++xs)) z.σ).symm.trans e
  refine Ax hr KI.it (KI.bare nI) (fun m=>KI.fI (.inl m)) K.L S0.sI e (fun h' t kb L e=>?_) fun h' t kb p it' v L hit hv e=>?_
  ·have e:f (ys++[]) z.σ=some out:=e
   rw [List.append_nil] at e
   exact hRR _ ys (K.but (b:=KI.bare nI) (kb:=kb) (t:=t) (hl:=fun m=>absurd m fun m=>KI.fI (.inl m)) S0) e
  ·have K1:=K.but (b:=KI.bare nI) (kb:=kb) (t:=t) (hl:=fun m=>absurd m fun m=>KI.fI (.inl m)) S0
   have KI1:ku (z.but t (KI.bare nI) kb fun m=>absurd m fun m=>KI.fI (.inl m)) I it':=⟨KI.fI,hit⟩
   have hv1:=cq ((KI.bare nI).view kb) hv
   generalize hz1:z.but t (KI.bare nI) kb (fun m=>absurd m fun m=>KI.fI (.inl m))=z1 at K1 KI1
   have hv1:z1.V p v:=hz1 ▸ hv1
   have hs1:({ z.s with heap:=h',toks:=t }:Shared)=z1.s:=hz1 ▸ rfl
   have e:bnd (bnd (ut fe ρ csc tgt elt ifs p) fun x=>bnd (compLoop (ut fe ρ csc tgt elt ifs) fuel it') fun xs=>match x with | some y=>ret (y::xs) | none=>ret xs) (fun xs=>f (ys++xs)) z1.σ=some out:=hz1 ▸ e
   rw [gw] at e
   clear hz1
   rw [hs1]
   refine z_ KI1.it ?_
   have NC:=FP ok (N.step K1.L) Kc K1.ns K1.fC nC
   have e:=(congrFun Ht z1.σ).symm.trans e
   refine xk hr NC hv1 e fun z2 ρ' L2 N2 e=>?_
   have own:∀ x,jY csc (compEnvC csc cl C env) x→x=C:=fun x w=>w.elim id fun w=>w.elim fun y w=>absurd rfl (ok.cell _ (mem_of_lookup w.1))
   have K2:=K1.later S0 L2 own (N2.ns.imp fun m h=>h.1)
   have KI2:=KI1.later L2 (fun q=>S0.CI (own _ q).symm) NC.ownOk
   refine (IH.I ⟨F,hr,N2⟩ ifs).run e fun z3 c d L3 hd e=>?_
   obtain rfl:d=c:=hd
   have no:∀ x,Gl x→x=C:=fun _ q=>q.elim
   have N3:=N2.step L3
   have K3:=K2.later S0 L3 no (N3.ns.imp fun m h=>h.1)
   have KI3:=KI2.later L3 (fun q=>q) tI
   cases d with
   | false =>
    have e:=(congrFun (gw _ _ fun xs=>f (ys++xs)) z3.σ).symm.trans e
    exact ⟨fuel,Nat.lt_succ_self _,z3,it',ys,rfl,K3,KI3,e⟩
   | true =>
    refine (IH.E ⟨F,hr,N3⟩ elt).run e fun z4 y u L4 hu e=>?_
    have N4:=N3.step L4
    have e:=(congrFun (gw _ _ fun xs=>f (ys++xs)) z4.σ).symm.trans e
    have e:bnd (compLoop (ut fe ρ csc tgt elt ifs) fuel it') (fun xs=>f (ys++([y]++xs))) z4.σ=some out:=e
    rw [show (fun xs=>f (ys++([y]++xs)))=fun xs=>f ((ys++[y])++xs) from funext fun xs=>congrArg f (List.append_assoc ..).symm] at e
    refine DR S0 (K3.later S0 L4 no (N4.ns.imp fun m h=>h.1)) (KI3.later L4 (fun q=>q) tI) nD hu ?_ fun z5 K5 KI5 es=>⟨fuel,Nat.lt_succ_self _,z5,it',ys++[y],rfl,K5,KI5,es ▸ e⟩
    obtain ⟨xs,σ',e⟩:=Ah e
    have:=hf _ _ e
    rw [List.length_append,List.length_append] at this
    omega
noncomputable def Pt.down (z:Pt X) (B:List Addr) (hs:∀ b,b ∈ B→b ∈ z.B):Pt X where
 s:=z.s
 σ:=z.σ
 μ:=z.μ
 B:=B
 R:=⟨z.R.stays,z.R.len,fun n c p e1 e2=>(z.R.cell n c p e1 e2).map (W:=view B z.h z.μ) (V:=view z.B z.h z.μ) ⟨fun a o e=>⟨e.1,e.2.1,fun f=>e.2.2 (f.imp (hs a) id)⟩,fun _ _ e=>e⟩ fun _ _ _ e=>e,fun a f=>z.R.free a (f.imp (hs a) id),fun a m=>z.R.bans a (hs a m),z.R.apart⟩
theorem EE {B:List Addr} {hs:∀ b,b ∈ B→b ∈ z.B}:z.W.Le (z.down B hs).W:=⟨fun a o e=>⟨e.1,e.2.1,fun f=>e.2.2 (f.imp (hs a) id)⟩,fun _ _ e=>e⟩
theorem Le.down (L:Le z0 z):Le z0 (z.down z0.B L.sub):=⟨L.rest,L.map,L.live,L.keep,L.plc,fun _ _ _ n=>n,fun _ m=>m⟩
noncomputable def Pt.up (z:Pt X) (D:Addr) (h':Heap) (t:Nat) (k:fH z.h h') (hn:z.h.get? D=none) (hl:∃ o,h'.get? D=some o):Pt X where
 s:={ z.s with heap:=h',toks:=t }
 σ:=z.σ
 μ:=z.μ
 B:=D::z.B
 R:=by
  have ne:∀ {a o},z.h.get? a=some o→a≠D:=fun e q=>cZ hn (q ▸ e)
  refine ⟨fun b o e=>k b o (z.R.stays b o e),z.R.len,fun n c p e1 e2=>(z.R.cell n c p e1 e2).map (V:=view z.B z.h z.μ) (W:=view (D::z.B) h' z.μ) ⟨fun a o e=>⟨k a o e.1,e.2.1,fun f=>f.elim (fun m=>(List.mem_cons.mp m).elim (ne e.1) fun m=>e.2.2 (.inl m)) fun m=>e.2.2 (.inr m)⟩,fun _ _ e=>e⟩ fun _ _ o e=>k _ o e,
   fun a f=>f.elim (fun m=>(List.mem_cons.mp m).elim (fun q=>z.hb (q ▸ hn)) fun m=>z.R.free a (.inl m)) fun m=>z.R.free a (.inr m),fun a m=>(List.mem_cons.mp m).elim (fun q=>q ▸ hl) fun m=>(z.R.bans a m).imp fun o e=>k a o e,z.R.apart⟩
theorem Le.up {h':Heap} {t:Nat} {k:fH z.h h'} {hn:z.h.get? D=none} {hl:∃ o,h'.get? D=some o}:Le z (z.up D h' t k hn hl) :=
 ⟨rfl,fun _ _ e=>e,fun b o e=>⟨o,k b o e⟩,fun b o e _ _=>k b o e,fun _ _ _ n=>n,fun b o e n m=>(List.mem_cons.mp m).elim (fun q=>cZ hn (q ▸ e)) n,fun _ m=>.tail _ m⟩
theorem DB (x:qU X z I it) {Q:Value→Shared→Prop} (h:Q (.ref I) z.s):WP X A (pyIter (.ref I)) Q z.s:=by
 cases it with
 | items l =>
  obtain ⟨a,vs,k,i,h1,h2,h3⟩ | ⟨x,t,i,h1,h2⟩ | ⟨x,c,k,h1,h2⟩:=x
  ·exact wpAny_pyIter_listiter h2 h
  ·exact wpAny_pyIter_striter_ascii h1 h
  ·exact wpAny_pyIter_rangeiter h1 h
 | lst n i=>exact x.elim fun r x=>wpAny_pyIter_listiter x.2 h
theorem tG (h:BK iter=true) (x:Value):foldedSetIterable iter env x=pure x:=by
 cases iter <;> first | rfl | cases h
theorem Ag (IH:fD S n fe) (Cx:nH S n A z sc env ρ) {f:PV→M PV} (e:bnd (Ja S fe sc ρ elt csc tgt iter ifs) f z.σ=some out) {use:Option (Value→Sem Unit)} {Q:Value→Shared→Prop} {ppos:Pos}
  (h:∀ D C z' r,Le z z'→z'.V r (.ref D)→my z' C→C ∉ z'.B→(∃ m,z'.h.Ns C m)→z.h.get? C=none→f r z'.σ=some out→compPost (model X.prog X.w) A (fun Z Z=>False) use Q (.ref D) C (.ok .next) z'.s) :
  WP X A (comprehension (.ListComp elt [⟨tgt,iter,ifs,0⟩] csc pos) csc env ppos (newList []) false (eval iter env) use) Q z.s:=by
 obtain ⟨g,e⟩:=fR e
 have g:=Bool.and_eq_true_iff.mp g
 have ok:=tz.of g.1
 obtain ⟨cl,Kc⟩:=u0 (env:=env) (csc:=csc) fun p hp hf=>(Cx.N.cells p.1 (ok.free p hp hf)).imp fun c h=>h.1
 refine wpAny_comprehension_free (use:=use) rfl (tG g.2) Kc.eq ok.kind ok.loc ((IH.E Cx iter).run e fun z1 p v L1 hv e=>(AC hv).run e fun z2 it w L2 hw e=>?_)
 obtain ⟨I,rfl,nI,fI2,hit⟩:=hw
 refine wpAny_newObj_type (wpAny_newFunctionEnv ok.cell (fun y hy=>(by first | exact bm hy | exact bG hy | exact dU hy | exact eI hy | exact nomatch hy)) (fun h₁ hns hsb=>?_) ok.kind)
 dsimp only at hns hsb ⊢
 generalize hH3:z2.s.heap.push { cls:=.type "list",dict:=none,data:=.seq ([]:List Value).toArray }=h3 at hns hsb ⊢
 have k23:fH z2.h h3:=fun b o e=>hH3 ▸ be _ b o e
 have k34:fH h3 h₁:=fun b o e=>hsb.extBut b o (Nat.ne_of_lt (Heap.lt_size e)) (be _ b o e)
 have hDlive:h₁.get? z2.h.objs.size=some (dN #[] 0):=k34 _ _ (hH3 ▸ Heap.get?_push_size _ rfl)
 have L12:=L1.trans L2
 obtain ⟨oI,_,_,hIo,_⟩:=hit.obj
 have nC2:z2.h.get? h3.objs.size=none:=xG fun o q=>cZ bj (k23 _ _ q)
 have S0:Ae z z2.h.objs.size h3.objs.size I:=⟨L12.gone bj,L12.gone nC2,L1.gone nI,fun q=>by rw [← hH3,Heap.size_push] at q; exact Nat.ne_of_lt (Nat.lt_succ_self _) q,fun q=>cZ bj (q ▸ hIo),fun q=>cZ nC2 (q ▸ hIo)⟩
 have L23:=Le.up (z:=z2) (D:=z2.h.objs.size) (h':=h₁) (t:=z2.s.toks+([]:List (Str × Value)).length) (k:=fun b o e=>k34 b o (k23 b o e)) (hn:=bj) (hl:=⟨_,hDlive⟩)
 generalize hz3:z2.up z2.h.objs.size h₁ (z2.s.toks+([]:List (Str × Value)).length) (fun b o e=>k34 b o (k23 b o e)) bj ⟨_,hDlive⟩=z3 at L23
 have hs3:({ z2.s with heap:=h₁,toks:=z2.s.toks+([]:List (Str × Value)).length }:Shared)=z3.s:=hz3 ▸ rfl
 have e:bnd (bnd (compLoop (ut fe ρ csc tgt elt ifs) S.loops it) fun xs=>hM xs) f z3.σ=some out:=hz3 ▸ e
 have fC2:=z2.fresh nC2
 have fD2:=z2.fresh bj
 have K:mt z z3 z2.h.objs.size h3.objs.size []:=by
  subst hz3
  exact ⟨L12.trans L23,.head _,fun q=>fD2 (.inr q),fun q=>q.elim (fun m=>(List.mem_cons.mp m).elim (Ne.symm S0.DC) fun m=>fC2 (.inl m)) fun m=>fC2 (.inr m),⟨_,hns⟩,#[],0,hDlive,rfl⟩
 have KI:ku z3 I it:=by
  refine ⟨L23.foot hIo fI2,hit.later (Le.W L23) L23.map fun o e=>L23.keep _ _ e (fun q=>fI2 (.inr q)) id⟩
 rw [gw] at e
 have loop:=D1 (pos:=pos) (iter:=iter) (RR:=compPost (model X.prog X.w) A (fun Z Z=>False) use Q (.ref z2.h.objs.size) h3.objs.size) IH Cx.F Cx.hr S0 ok Cx.N Kc (z.hb S0.sD) (z.hb S0.sC) (z.hb S0.sI) (fun l σ e=>eM (fR e).1) (fun z' l K e=>?_) S.loops K KI e
 rotate_left
 ·obtain ⟨arr,kk,hd,hl⟩:=K.ls
  have e:=(fR e).2
  exact h _ _ (z'.down z.B K.L.sub) (.frz l) (Le.down K.L) ⟨_,arr,kk,rfl,⟨hd,.inl ⟨_,_,rfl⟩,fun f=>f.elim (fun m=>(z.R.bans _ m).elim fun o e=>cZ S0.sD e) K.pD⟩,dA EE hl⟩
   ⟨fun q=>K.fC (.inr q),z.hb S0.sC,.inr (qg K.ns).2⟩ (fun m=>K.fC (.inl (K.L.sub _ m))) K.ns S0.sC e
 rw [hs3]
 refine codeAny_compStart_list loop (wpAny_mono (DB (Q:=fun v s'=>v=.ref I∧s'=z3.s) KI.it ⟨rfl,rfl⟩) (fun v s' q=>?_) fun _ _ x=>x.elim)
 rw [q.1,q.2]
 exact loop
end
end
section
open PySem PySem.W PyProof.Rows
noncomputable def Reads (X:Fx) (H:Heap) (m:Sem Value) (v:Value→Prop):Prop :=
 ∀ {A:Around} {s:Shared} {Q:Value→Shared→Prop},fH H s.heap→(∀ u t,v u→Q u { s with toks:=t })→WP X A m Q s
inductive Rd (X:Fx) (H:Heap):List (Sem Value × Sem Value)→List (Str × Value)→Prop
 | nil:Rd X H [] []
 | cons {k v:Sem Value} {x:Str} {u:Value} {ps:List (Sem Value × Sem Value)} {kvs:List (Str × Value)}:Reads X H k (fun w=>∃ t,w=.str x t)→Reads X H v (fun w=>w=u)→Rd X H ps kvs→Rd X H ((k,v)::ps) ((x,u)::kvs)
theorem Rd.length {X:Fx} {H:Heap} {ps:List (Sem Value × Sem Value)} {kvs:List (Str × Value)} (r:Rd X H ps kvs):ps.length=kvs.length:=by
 induction r with
 | nil=>rfl
 | cons _ _ _ ih=>rw [List.length_cons,List.length_cons,ih]
theorem Rd.take {X:Fx} {H:Heap} {ps:List (Sem Value × Sem Value)} {kvs:List (Str × Value)} (r:Rd X H ps kvs):∀ n,Rd X H (ps.take n) (kvs.take n):=by
 induction r with
 | nil=>intro n; simpa using Rd.nil
 | cons a b _ ih=>intro n; cases n with
  | zero=>exact .nil
  | succ n=>exact .cons a b (ih n)
theorem Rd.drop {X:Fx} {H:Heap} {ps:List (Sem Value × Sem Value)} {kvs:List (Str × Value)} (r:Rd X H ps kvs):∀ n,Rd X H (ps.drop n) (kvs.drop n):=by
 induction r with
 | nil=>intro n; simpa using Rd.nil
 | cons a b r ih=>intro n; cases n with
  | zero=>exact .cons a b r
  | succ n=>exact ih n
theorem vO {b:Bool} (h:(!b)=true):b=false:=by cases b with
 | true=>cases h
 | false=>rfl
theorem DZ {P:Prop} {k:Option Expr} {y:List Nat} (e:KP k=some y) (h:∀ x kd p,k=some (.Constant (.str x) kd p)→cs x=y→P):P:=by
 cases k with
 | none=>exact bm e
 | some ex=>cases ex with
  | Constant c kd p=>cases c with
   | str x=>exact h x kd p rfl (Option.some.inj e)
   | _=>exact bm e
  | _=>exact bm e
theorem rJ {k:Option Expr} {ks:List (Option Expr)} {xs:List (List Nat)} (e:nW (k::ks)=some xs):∃ x kd p l,k=some (.Constant (.str x) kd p)∧nW ks=some l∧xs=cs x::l:=by
 obtain ⟨y,e1,e⟩:=Option.bind_eq_some_iff.mp (show (KP k).bind (fun x=>(nW ks).bind fun l=>some (x::l))=some xs from e)
 obtain ⟨l,e2,e⟩:=Option.bind_eq_some_iff.mp e
 exact DZ e1 fun x kd p hk hx=>⟨x,kd,p,l,hk,e2,hx ▸ (Option.some.inj e).symm⟩
theorem BO {α:Type} {t:Expr} {g:Str→M α} {f:α→M PV} {σ:ah} {out:PV × ah} (h:bnd (pd t g) f σ=some out):∃ x p,t=.Name x p∧bnd (g x) f σ=some out:=by
 cases e:pd t g σ with
 | none=>unfold bnd at h; rw [e] at h; exact bm h
 | some r =>
  obtain ⟨x,p,rfl,_⟩:=pv e
  exact ⟨x,p,rfl,h⟩
theorem Dr {X:Fx} {S:lU} {z:Pt X} {sc:Scope} {env:Env} {ρ:cP} {pos:Pos} {out:PV × ah} (G:GlobAll X S) (N:c_ z sc env ρ) {vs:List Expr} :
  ∀ {ks:List (Option Expr)} {xs:List (List Nat)} {f:List PV→M PV},nW ks=some xs→bnd (wA S sc ρ vs) f z.σ=some out→xs.length=vs.length →
   ∃ ws kvs,f ws z.σ=some out∧ks.all (·.isSome)=true∧ks.length=vs.length∧Rd X z.h (pairTrees ks vs env pos) kvs∧u_ X z.W (xs.zip ws) (valueAt kvs)∧kvs.map (fun p=>cs p.1)=xs:=by
 induction vs with
 | nil =>
  intro ks xs f e1 e2 e3
  cases List.length_eq_zero_iff.mp e3
  cases ks with
  | nil=>exact ⟨[],[],e2,rfl,rfl,.nil,fun Z=>rfl,rfl⟩
  | cons k ks=>obtain ⟨_,_,_,_,_,_,q⟩:=rJ e1; cases q
 | cons v vs ih =>
  intro ks xs f e1 e2 e3
  cases ks with
  | nil=>cases e1; cases e3
  | cons k ks =>
   obtain ⟨x,kd,p,l,rfl,hl,rfl⟩:=rJ e1
   obtain ⟨y,q,rfl,e2⟩:=BO e2
   obtain ⟨hd,e2⟩:=fR (show bnd (guard (!(y == "__debug__")) (bnd (rB S sc ρ y) fun v=>bnd (wA S sc ρ vs) fun ws=>ret (v::ws))) f z.σ=some out from e2)
   rw [gw] at e2
   obtain ⟨w,u,e4,ru,hu⟩:=yC G N e2
   rw [gw] at e4
   obtain ⟨ws,kvs,e5,h1,h2,h3,h4,h5⟩:=ih hl e4 (Nat.succ.inj e3)
   refine ⟨w::ws,(x,u)::kvs,e5,h1,congrArg (·+1) h2,.cons ?_ ?_ h3,⟨u,valueAt kvs,ru,h4,fun y=>?_⟩,congrArg (cs x::·) h5⟩
   ·exact fun k h=>wpAny_Constant_str (h _ _ ⟨_,rfl⟩)
   ·exact fun k h=>wpAny_bind (wpAny_Name (hu k fun t=>wpAny_bind (wpAny_standAt (wpAny_pure (h _ _ rfl)))) (vO hd))
   ·by_cases e:y=x
    ·rw [if_pos (congrArg cs e)]; simp [valueAt,e]
    ·rw [if_neg (fun q=>e (AP.mp q))]; simp [valueAt,Ne.symm e]
section
variable {X:Fx} {A:Around} {H:Heap}
theorem fH.but {h h':Heap} {d:Addr} (k:fH H h) (n:H.get? d=none) (s:Heap.SameBut d h h'):fH H h':=fun b o e=>(s.2 b fun q=>by rw [q,n] at e; cases e).trans (k b o e)
theorem AM {K:Type} [DecidableEq K] (acc:List (K × Value)) (k:K) (v:Value) (n:k ∉ acc.map (·.1)):stored acc k v=acc++[(k,v)]:=by
 rw [stored,if_neg]
 rw [List.any_eq_true]
 rintro ⟨p,hp,e⟩
 exact n (List.mem_map.mpr ⟨p,hp,of_decide_eq_true e⟩)
theorem F5 {d:Addr} (n:H.get? d=none):∀ {ps:List (Sem Value × Sem Value)} {kvs:List (Str × Value)} (_:Rd X H ps kvs) {acc:List (Str × Value)} {s:Shared} {Q:PUnit→Shared→Prop},fH H s.heap →
  s.heap.DictOf (strKind X.prog X.w) d acc→((acc++kvs).map (·.1)).Nodup→acc.length+kvs.length≤30 →
  (∀ h' t,h'.DictOf (strKind X.prog X.w) d (acc++kvs)→Heap.SameBut d s.heap h'→Q PUnit.unit { s with heap:=h',toks:=t }) →
  WP X A (forIn ps PUnit.unit fun (x:Sem Value × Sem Value) (_:PUnit)=>(do let kv ← x.1; let vv ← holding [kv] x.2; holding [kv,vv] (dictSet d kv vv); pure (ForInStep.yield PUnit.unit):Sem (ForInStep PUnit))) Q s:=by
 intro ps kvs r
 induction r with
 | nil =>
  intro acc s Q k hd _ _ h
  rw [List.forIn_nil]
  exact wpAny_pure (by simpa using h s.heap s.toks (by simpa using hd) (Heap.SameBut.refl _ _))
 | @cons kt vt x u ps kvs a b r ih =>
  intro acc s Q k hd hn hl h
  rw [List.forIn_cons]
  refine wpAny_bind (wpAny_bind (a k fun w t=>?_))
  rintro ⟨t1,rfl⟩
  refine wpAny_bind (wpAny_holding (b (s:={ s with toks:=t }) k fun w t2=>?_))
  rintro rfl
  have hx:x ∉ acc.map (·.1):=by
   intro q
   rw [List.map_append,List.nodup_append] at hn
   exact hn.2.2 x q x (by simp) rfl
  rw [List.length_cons] at hl
  refine wpAny_bind (wpAny_holding (wpAny_dictSet_pairs (knd:=strKind X.prog X.w) (hsz:=by rw [sizeLine_eq]; omega) (strKind_is _ _ x t1) hd fun h1 hd1 hs1=>wpAny_pure ?_))
  rw [AM acc x _ hx] at hd1
  refine ih (acc:=acc++[(x,w)]) (s:={ s with heap:=h1,toks:=t2+1 }) (k.but n hs1) hd1 (by simpa using hn) (by simp; omega) fun h' t' hd' hs'=>?_
  have:=h h' t' (by simpa using hd') (hs1.trans hs')
  exact this
theorem D5:∀ {ps:List (Sem Value × Sem Value)} {kvs:List (Str × Value)} (_:Rd X H ps kvs) {s:Shared} {Q:List (Value × Value)→Shared→Prop},fH H s.heap →
  (∀ vs t,Carries (strKind X.prog X.w) vs kvs→Q vs { s with toks:=t })→WP X A (evalPairs ps) Q s:=by
 intro ps kvs r
 induction r with
 | nil=>intro s Q k h; exact evalPairs_nil (h [] s.toks trivial)
 | @cons kt vt x u ps kvs a b r ih =>
  intro s Q k h
  refine evalPairs_cons (a k fun w t=>?_)
  rintro ⟨t1,rfl⟩
  refine b (s:={ s with toks:=t }) k fun w t2=>?_
  rintro rfl
  exact ih (s:={ s with toks:=t2 }) k fun vs t3 hc=>h _ t3 ⟨strKind_is _ _ x t1,rfl,hc⟩
theorem Gd {ps:List (Sem Value × Sem Value)} {kvs:List (Str × Value)} (r:Rd X H ps kvs) {s:Shared} {Q:Addr→Shared→Prop} (k:fH H s.heap) (n:H.get? s.heap.objs.size=none) (h15:¬ ps.length≤15) (h30:ps.length≤30)
  (hn:(kvs.map (·.1)).Nodup) (h:∀ h' t,h'.DictOf (strKind X.prog X.w) s.heap.objs.size kvs→fH H h'→Q s.heap.objs.size { s with heap:=h',toks:=t }) :
  WP X A (subDict ps) Q s:=by
 unfold subDict
 refine wpAny_bind (wpAny_alloc ?_)
 refine wpAny_bind (wpAny_holding ?_)
 rw [if_neg h15]
 refine wpAny_bind (wpAny_rule ?_)
 have k1:fH H (s.heap.push { cls:=.type "dict",data:=.dict #[] }):=fun b o e=>Heap.get?_push_of_some _ (k b o e)
 refine wpAny_bind (F5 (s:={ s with heap:=s.heap.push { cls:=.type "dict",data:=.dict #[] } }) n r (acc:=[]) k1 (Heap.DictOf.new _) (by simpa using hn) (by rw [← r.length]; simpa using h30) fun h' t hd hs=>wpAny_pure ?_)
 exact wpAny_pure (h h' t (by simpa using hd) (k1.but n hs))
theorem Dy {ps:List (Sem Value × Sem Value)} {kvs:List (Str × Value)} (r:Rd X H ps kvs) {s:Shared} {Q:Addr→Shared→Prop} (k:fH H s.heap) (h15:ps.length≤15)
  (hn:(kvs.map (·.1)).Nodup) (h:∀ h' t,h'.DictOf (strKind X.prog X.w) s.heap.objs.size kvs→fH s.heap h'→Q s.heap.objs.size { s with heap:=h',toks:=t }) :
  WP X A (subDict ps) Q s:=by
 have k0:fH s.heap (s.heap.push { cls:=.type "dict",data:=.dict #[] }):=fun b o e=>Heap.get?_push_of_some _ e
 refine wpAny_subDict (knd:=strKind X.prog X.w) h15 (D5 r (s:={ s with heap:=s.heap.push { cls:=.type "dict",data:=.dict #[] } }) (fun b o e=>k0 b o (k b o e)) fun vs t hc=>?_)
 refine ⟨kvs,hc,Heap.DictOf.new _,fun h' hd hs=>?_⟩
 rw [merged_nil_of_nodup kvs hn] at hd
 exact h h' _ hd (k0.but bj hs)
end
section
variable {prog:Program} {w:World} {K:Type} [DecidableEq K] {knd:KeyKind prog w K} {A:Around} {E:Value→Shared→Prop} {s:Shared}
theorem IQ {d:Addr} {kvs:List (K × Value)} {k:K} {key v:Value} {Q:Unit→Shared→Prop} (hkey:knd.is k key=true) (hm:s.heap.DictOf knd d kvs) (hnot:k ∉ kvs.map (·.1)) (hsz:kvs.length≤sizeLine)
  (hQ:∀ h',h'.DictOf knd d (kvs++[(k,v)])→Heap.SameBut d s.heap h'→Q () { s with heap:=h' }) :
  wpAny (model prog w) A (dictPut d (knd.hash k) key v) Q E s:=by
 obtain ⟨o,es,ep,ho,hc,hd,hk,hp,hn⟩:=hm
 have hes:es.size≤sizeLine:=by
  have e1:=hp.length
  have e2:es.toList.length=es.size:=by simp
  omega
 unfold dictPut
 refine wpAny_bind (wpAny_dictFind_of hkey ho hd hk ?_)
 have hidx:(es.findIdx? fun e=>knd.is k e.key)=kvs.findIdx? fun kv=>decide (kv.1=k):=by
  rw [← hp.findIdx k]; obtain ⟨l⟩:=es; simp
 cases hi:es.findIdx? fun e=>knd.is k e.key with
 | some i =>
  exfalso
  have:=any_of_findIdx_some (hidx ▸ hi)
  rw [List.any_eq_true] at this
  obtain ⟨p,hp,e⟩:=this
  exact hnot (List.mem_map.mpr ⟨p,hp,of_decide_eq_true e⟩)
 | none =>
  refine wpAny_updateDictKeys (hz:=hes) ho hd (hQ _ ⟨_,_,ep+1,Heap.get?_update_self _ ho (Obj.isFreed_of_dict (Obj.data_mapDictKeys hd _)),
   hc.mapDictKeys _,Obj.data_mapDictKeys hd _,hk.push hkey _,?_,?_⟩ (Heap.SameBut.update ..))
  ·have:=hp.append hkey (knd.hash k) v
   obtain ⟨l⟩:=es
   simpa using this
  ·rw [List.map_append,List.nodup_append]
   refine ⟨hn,by simp,?_⟩
   intro a ha b hb
   simp only [List.map_cons,List.map_nil,List.mem_singleton] at hb
   subst hb
   exact fun e=>hnot (e ▸ ha)
theorem AZ {a:Addr} {K:Bool→Sem Unit} {Z:Sem Unit} {Q:Unit→Shared→Prop} (ha:s.TypeIs (.ref a) "dict") (h:wpAny (model prog w) A (K true) Q E s) :
  wpAny (model prog w) A (isInstance (.ref a) (.type "dict") >>= fun b=>if b=true then specialOf (.ref a) "__iter__" >>= fun l=>pure (l == some (.builtin "dict.__iter__")) >>= K else Z) Q E s:=by
 refine wpAny_bind (wpAny_isInstance ha isSubtype_dict_dict (wpAny_bind (wpAny_specialOf ha F.slot_dict_iter.lookup (wpAny_bind (wpAny_pure ?_)))))
 rw [beq_self_eq_true]
 exact h
theorem C2 {α:Type} {c:Prop} [Decidable c] {x y:Sem α} {Q:α→Shared→Prop} (h:¬ c) (k:wpAny (model prog w) A y Q E s):wpAny (model prog w) A (if c then x else y) Q E s:=by
 rw [if_neg h]; exact k
theorem A0 {F:Nat→PUnit→Sem (ForInStep PUnit)} {n:Nat} {I:Heap→Nat→Prop} {Q:PUnit→Shared→Prop} (h0:I s.heap 0)
  (turn:∀ h' i,i<n→I h' i→wpAny (model prog w) A (F i PUnit.unit) (fun r s'=>∃ h2,r=.yield PUnit.unit∧s'={ s with heap:=h2 }∧I h2 (i+1)) E { s with heap:=h' })
  (hQ:∀ h',I h' n→Q PUnit.unit { s with heap:=h' }):wpAny (model prog w) A (forIn (List.range n) PUnit.unit F) Q E s:=by
 rw [List.range_eq_range']
 have go:∀ m i h',i+m=n→I h' i→wpAny (model prog w) A (forIn (List.range' i m) PUnit.unit F) Q E { s with heap:=h' }:=by
  intro m
  induction m with
  | zero=>exact fun i h' e hI=>wpAny_pure (hQ h' (e ▸ hI))
  | succ m ih =>
   intro i h' e hI
   rw [List.range'_succ,List.forIn_cons]
   refine wpAny_bind (wpAny_mono (turn h' i (e ▸ Nat.lt_add_of_pos_right (Nat.succ_pos m)) hI) (fun r s' hr=>?_) fun _ _ h=>h)
   obtain ⟨h2,rfl,rfl,h3⟩:=hr
   exact ih (i+1) h2 ((Nat.succ_add_eq_add_succ i m).trans e) h3
 exact go n 0 s.heap (Nat.zero_add n) h0
theorem Ec {d a:Addr} {kvs more:List (K × Value)} {Q:Unit→Shared→Prop} (hda:d≠a) (haS:(a == sysModules)=false)
  (hd:s.heap.DictOf knd d kvs) (ha:s.heap.DictOf knd a more) (h0:kvs≠[]) (hn:((kvs++more).map (·.1)).Nodup) (hsz:kvs.length+more.length≤sizeLine)
  (hQ:∀ h',h'.DictOf knd d (kvs++more)→Heap.SameBut d s.heap h'→Q () { s with heap:=h' }) :
  wpAny (model prog w) A (mergeMapping d (.ref a) false) Q E s:=by
 obtain ⟨od,esd,epd,hod,hcd,hdd,hkd,hpd,hnd⟩:=id hd
 obtain ⟨oo,eso,epo,hoo,hco,hdo',hko,hpo,hno⟩:=id ha
 have hlen:more.length=eso.size:=by rw [← hpo.length]; simp
 unfold mergeMapping
 refine AZ ha.typeIs ?_
 refine C2 (by rw [haS]; exact Bool.false_ne_true) ?_
 refine wpAny_bind (wpAny_dictEntries hod hdd ?_)
 have he:esd.isEmpty=false:=by
  rw [Bool.eq_false_iff]
  intro q
  have:kvs.length=0:=by rw [← hpd.length,Array.isEmpty_iff.mp q]; rfl
  exact h0 (List.length_eq_zero_iff.mp this)
 refine C2 (by rw [he]; exact Bool.false_ne_true) ?_
 refine wpAny_bind (wpAny_dictEntries hoo hdo' ?_)
 refine wpAny_bind (wpAny_dictEpoch hoo hdo' ?_)
 refine wpAny_bind ?_
 refine A0 (I:=fun h' i=>h'.DictOf knd d (kvs++more.take i)∧h'.get? a=some oo∧Heap.SameBut d s.heap h') ⟨by rw [List.take_zero,List.append_nil]; exact hd,hoo,Heap.SameBut.refl _ _⟩ (fun h' x hlt I=>?_)
  fun h' I=>by
   have:=I.1
   rw [← hlen,List.take_length] at this
   exact wpAny_pure (hQ h' this I.2.2)
 have hlm:x<more.length:=by rw [hlen]; exact hlt
 have hkv:more[x]?=some (more[x].1,more[x].2):=List.getElem?_eq_getElem _
 generalize more[x].1=k at hkv
 generalize more[x].2=v at hkv
 obtain ⟨hkey,hval⟩:=hpo.get? (e:=eso[x]) (by simp [hlt]) hkv
 have hhash:eso[x].hash=knd.hash k:=by
  obtain ⟨k',hkey',hh⟩:=hko eso[x] (Array.getElem_mem hlt)
  exact knd.inj _ _ _ hkey' hkey ▸ hh
 have e1:kvs++more.take (x+1)=(kvs++more.take x)++[(k,v)]:=by rw [List.take_add_one,hkv,List.append_assoc]; rfl
 have hfresh:k ∉ (kvs++more.take x).map (·.1):=by
  have:((kvs++more.take (x+1)).map (·.1)).Nodup:=List.Sublist.nodup (List.Sublist.map _ (List.Sublist.append_left (List.take_sublist _ _) _)) hn
  rw [e1,List.map_append,List.nodup_append] at this
  exact fun q=>this.2.2 k q k (.head _) rfl
 rw [e1]
 refine wpAny_bind (wpAny_dictEntries I.2.1 hdo' ?_)
 rw [Array.getElem?_eq_getElem hlt]
 refine wpAny_bind (wpAny_holding (C2 Bool.false_ne_true ?_))
 rw [hhash,hval]
 refine IQ (s:={ s with heap:=h' }) hkey I.1 hfresh (by rw [List.length_append,List.length_take]; omega) fun h2 hd2 hs2=>?_
 have hoo2:h2.get? a=some oo:=(hs2.2 a (Ne.symm hda)).trans I.2.1
 refine wpAny_bind (wpAny_dictEpoch (s:={ s with heap:=h2 }) hoo2 hdo' ?_)
 exact C2 (by simp) (wpAny_pure ⟨h2,rfl,rfl,hd2,hoo2,I.2.2.trans hs2⟩)
end
theorem o8 (rest:List (Option (Sem Value) × Sem Value)) (m:Option Addr) (f:(Option (Sem Value) × Sem Value)→(Option Addr × List (Sem Value × Sem Value))→Sem (ForInStep (Option Addr × List (Sem Value × Sem Value))))
  (hf:∀ (p:Sem Value × Sem Value) (run:List (Sem Value × Sem Value)),run.length+1<17→f (some p.1,p.2) (m,run)=pure (.yield (m,run++[p]))) :
  ∀ (items run:List (Sem Value × Sem Value)),run.length+items.length<17→forIn ((items.map fun p=>(some p.1,p.2))++rest) (m,run) f=forIn rest (m,run++items) f
 | [],run,_=>by simp
 | p::items,run,h=>by
  rw [List.map_cons,List.cons_append,List.forIn_cons,hf p run (by simp at h; omega),pure_bind]
  have:=o8 rest m f hf items (run++[p]) (by simp at h ⊢; omega)
  show forIn (List.map (fun p=>(some p.fst,p.snd)) items++rest) (m,run++[p]) f=_
  rw [this,List.append_assoc]; rfl
theorem Av (as:List (Sem Value × Sem Value)) (p:Sem Value × Sem Value) (bs:List (Sem Value × Sem Value)) (ha:as.length=16) (hb:bs.length<17) (h0:bs≠[]) :
  dictDisplay ((as.map fun p=>(some p.1,p.2))++(some p.1,p.2)::(bs.map fun p=>(some p.1,p.2)))=(do
   let d ← subDict (as++[p])
   let sub ← holding [.ref d] (subDict bs)
   (holding [.ref d,.ref sub] (mergeMapping d (.ref sub) false)).onRaise fun x=>do let _ ← holding [.ref d,x] (runValue (.builtin "proto.let_go" {}))
   pure (.ref d)):=by
 unfold dictDisplay
 dsimp only
 rw [o8 _ none _ (fun p run h=>by
  have hne:((run++[(p.1,p.2)]).length == 17)=false:=by simp; omega
  simp only [hne,Bool.false_eq_true,if_false]) as [] (by rw [ha]; decide)]
 rw [List.forIn_cons]
 have h17:(([]++as++[(p.1,p.2)]).length == 17)=true:=by simp [ha]
 simp only [h17,if_true]
 have e0:(as++[(p.1,p.2)]).isEmpty=false:=by simp
 simp only [List.nil_append,e0,Bool.false_eq_true,if_false,bind_assoc,pure_bind]
 congr 1
 funext d
 rw [← List.append_nil (List.map _ bs),o8 [] (some d) _ (fun p run h=>by
  have hne:((run++[(p.1,p.2)]).length == 17)=false:=by simp; omega
  simp only [hne,Bool.false_eq_true,if_false]) bs [] (by simpa using hb)]
 rw [List.forIn_nil,pure_bind]
 have e1:bs.isEmpty=false:=by simpa using h0
 simp only [List.nil_append,e1,Bool.false_eq_true,if_false,bind_assoc,pure_bind]
theorem mZ:∀ {l:List (List Nat)},pJ l=true→l.Nodup
 | [],_=>List.nodup_nil
 | x::r,h=>by
  unfold pJ at h
  rw [Bool.and_eq_true] at h
  refine List.nodup_cons.mpr ⟨fun hx=>?_,mZ h.2⟩
  have:=h.1
  rw [List.contains_iff_mem.mpr hx] at this
  cases this
theorem BC {kvs:List (Str × Value)} {xs:List (List Nat)} (e:kvs.map (fun p=>cs p.1)=xs) (h:xs.Nodup):(kvs.map (·.1)).Nodup:=by
 have:(kvs.map (·.1)).map cs=xs:=by rw [List.map_map]; exact e
 rw [← this] at h
 exact List.Pairwise.of_map cs (fun a b hne q=>hne (congrArg cs q)) h
theorem G_ {S:lU} {X:Fx} {A:Around} {n:Nat} {z:Pt X} {sc:Scope} {env:Env} {ρ:cP} {ks:List (Option Expr)} {vs:List Expr} {pos:Pos} (C:nH S n A z sc env ρ):aA A z nM (Jg S sc ρ ks vs) (eval (.Dict ks vs pos) env):=by
 refine .opt fun xs hx=>.guard fun hg f out Q e h=>?_
 rw [Bool.and_eq_true,Bool.and_eq_true,Bool.or_eq_true,beq_iff_eq,beq_iff_eq,beq_iff_eq] at hg
 obtain ⟨⟨hd,hl⟩,hlen⟩:=hg
 rw [gw] at e
 obtain ⟨ws,kvs,e2,hall,hlk,rd,tie,hk⟩:=Dr (pos:=pos) C.F.toGlobAll C.N hx e hlen
 have hn:(kvs.map (·.1)).Nodup:=BC hk (mZ hd)
 have hsys:z.h.objs.size≠sysModules:=by
  obtain ⟨o,es,ep,ho,_⟩:=C.F.g
  have:=Heap.lt_size (z.R.stays _ _ ho)
  intro q
  rw [q] at this
  exact absurd this (by decide)
 have hn0:∀ a,(a=z.h.objs.size∨a=z.h.objs.size)→z.h.get? a=none:=fun a ha=>(ha.elim id id) ▸ bj
 have fin:∀ h' t,h'.DictOf (strKind X.prog X.w) z.h.objs.size kvs→fH z.h h'→Q (.ref z.h.objs.size) { z.s with heap:=h',toks:=t }:=fun h' t hdo k =>
  h (z.more (pl:=(z.h.objs.size,z.h.objs.size)) (.dct (xs.zip ws)) h' t k hn0 ⟨rfl,hsys,valueAt kvs,hdo.mapOf,zr (qB (pl:=(z.h.objs.size,z.h.objs.size)) k hn0) tie⟩) _ _ .more pY e2
 rcases hl with hl | hl
 ·obtain rfl:vs=[]:=List.length_eq_zero_iff.mp hl
  obtain rfl:ks=[]:=List.length_eq_zero_iff.mp hlk
  cases rd
  exact wpAny_Dict_empty (fin _ _ (Heap.DictOf.new _) fun b o q=>Heap.get?_push_of_some _ q)
 ·have hp:(pairTrees ks vs env pos).length=19:=by rw [pairTrees_length _ _ _ _ hall hlk,hlk,hl]
  rw [arm_eval_Dict,zip_pairTrees ks vs env pos hall hlk]
  generalize pairTrees ks vs env pos=ps at hp rd
  have hkl:kvs.length=19:=by rw [← rd.length,hp]
  have r1:=rd.take 17
  have r2:=rd.drop 17
  have s1:ps=ps.take 16++ps[16]::ps.drop 17:=by
   rw [← List.drop_eq_getElem_cons (by omega),List.take_append_drop]
  have s2:ps.take 16++[ps[16]]=ps.take 17:=(List.take_succ_eq_append_getElem (by omega)).symm
  have s3:=congrArg (List.map fun p:Sem Value × Sem Value=>(some p.1,p.2)) s1
  rw [List.map_append,List.map_cons] at s3
  have hb2:(ps.drop 17).length=2:=by rw [List.length_drop,hp]
  rw [s3,Av _ _ _ (by rw [List.length_take]; omega) (by omega) (by intro q; rw [q] at hb2; cases hb2),s2]
  have n1:((kvs.take 17).map (·.1)).Nodup:=List.Sublist.nodup (List.Sublist.map _ (List.take_sublist _ _)) hn
  have n2:((kvs.drop 17).map (·.1)).Nodup:=List.Sublist.nodup (List.Sublist.map _ (List.drop_sublist _ _)) hn
  have l1:(ps.take 17).length=17:=by rw [List.length_take]; omega
  refine wpAny_bind (wpAny_standAt (wpAny_bind (Gd r1 (fun b o q=>q) bj (by omega) (by omega) n1 fun h1 t1 d1 k1=>?_)))
  refine wpAny_bind (wpAny_holding (Dy (s:={ z.s with heap:=h1,toks:=t1 }) r2 k1 (by omega) n2 fun h2 t2 d2 k2=>?_))
  have hlt:z.h.objs.size<h1.objs.size:=by
   obtain ⟨o,_,_,ho,_⟩:=d1; exact Heap.lt_size ho
  have hne:z.h.objs.size≠h1.objs.size:=by omega
  have hs2:(h1.objs.size == sysModules)=false:=by
   rw [beq_eq_false_iff_ne]
   intro q
   have:0<z.h.objs.size:=by
    obtain ⟨o,es,ep,ho,_⟩:=C.F.b
    exact Nat.lt_of_le_of_lt (Nat.zero_le _) (Heap.lt_size (z.R.stays _ _ ho))
   have q:h1.objs.size=1:=q
   omega
  refine wpAny_bind (wpAny_onRaise (wpAny_holding (Ec (s:={ z.s with heap:=h2,toks:=t2 }) (knd:=strKind X.prog X.w) (kvs:=kvs.take 17) (more:=kvs.drop 17) hne hs2 (d1.keep k2) d2 ?_ ?_ ?_ fun h3 d3 b3=>wpAny_pure (fin h3 t2 ?_ ?_))))
  ·intro q
   have:=congrArg List.length q
   rw [List.length_take,hkl] at this; cases this
  ·rw [List.take_append_drop]; exact hn
  ·rw [← List.length_append,List.take_append_drop,hkl,sizeLine_eq]; decide
  ·rw [List.take_append_drop] at d3; exact d3
  ·exact fH.but (fun b o q=>k2 b o (k1 b o q)) bj b3
end
section
open PySem PySem.W PyProof.Rows
section
variable {S:lU} {n:Nat} {X:Fx} {A:Around} {z z1:Pt X} {sc:Scope} {env:Env} {ρ:cP} {call:PV→List PV→M PV} {fe:EK} {p:PV} {v:Value} {e:Expr} {es:List Expr}
theorem aA.last {α β:Type} {P:Pt X→α→β→Prop} {m:M α} {t:Sem β} {f:α→M PV} {out:PV × ah} {Q:β→Shared→Prop} (s:aA A z1 P m t) (L:Le z z1) (e:Mine.bnd m f z1.σ=some out) (h:∀ z' a b,Le z z'→P z' a b→f a z'.σ=some out→Q b z'.s):WP X A t Q z1.s :=
 s f out Q e fun z' a b L'=>h z' a b (L.trans L')
theorem EI {c:Const} {kd:Nat} {pos:Pos}:aA A z nM (F3 c) (eval (.Constant c kd pos) env):=by
 cases c with
 | none=>exact .now fun Q h=>wpAny_Constant_none (h _ z.s.toks rfl)
 | bool b=>exact .now fun Q h=>wpAny_Constant_bool (h _ z.s.toks rfl)
 | int i=>exact .now fun Q h=>wpAny_Constant_int (h _ _ ke)
 | str x=>exact .now fun Q h=>wpAny_Constant_str (h _ _ CW)
 | _=>exact .stop
theorem Em (IH:fD S n fe) (hc:mY S n call) (C:nH S n A z sc env ρ) {g:Expr} {args:List Expr} {pos:Pos} (he:eval (.Call g args [] pos) env=(do callWith pos (← eval g env) [] (backTo pos (starEach args env)) (backToKw pos (keywordEach [] env)))) :
  aA A z nM (guard (args.all gI) (bnd (fe.E sc ρ g) fun fv=>bnd (fe.L sc ρ args) fun vs=>uw call fv vs)) (eval (.Call g args [] pos) env):=by
 refine .guard fun pl f out Q e h=>?_
 rw [he]
 refine wpAny_bind ((IH.E C g).run e fun z1 p u L1 hu e=>?_)
 refine (FN (call:=call) C.F hu).elim (fun hk=>?_) fun q=>?_
 ·exact hJ IH (C.step L1) pl hk e fun z2 vs ws L2 hl e=>⟨z2.part C.F.toClsAll,(Do hc C.F C.hr (Le.V L2 hu) hl).last (L1.trans L2) e h⟩
 ·rw [q] at e; exact (Fr (δ:=PV) e).elim
theorem zD (IH:fD S n fe) (C:nH S n A z sc env ρ) {o i:Expr} {pos:Pos} (hs:∀ v j,subscripted i false v j=operate [v,j] (getItem v j)):aA A z nM (bnd (fe.E sc ρ o) fun b=>bnd (fe.E sc ρ i) fun j=>ao b j) (eval (.Subscript o i pos) env) :=
 fun f out Q e h=>Subscript_ ((IH.E C o).run e fun z1 p u L1 hu e=>(IH.E (C.step L1) i).run e fun z2 q w L2 hw e =>
  (yL (U:=subscriptTail o i) (fun hT hl hg=>tail_any hT hl hg (hs _ _)) (Le.V L2 hu) hw).last (L1.trans L2) e h)
theorem uA (IH:fD S n fe) (C:nH S n A z sc env ρ) (he:isTrue e env (eval e env)=(do let v ← eval e env; standAt e.pos; holding [v] (truthy v))):aA A z Hj (bnd (fe.E sc ρ e) aH) (isTrue e env (eval e env)) :=
 fun f out Q e0 h=>isTrue_plain ((IH.E C e).run e0 fun z1 p u L1 hu e1=>(rj hu).last L1 e1 h) he
theorem Fz {pos:Pos} (pl:es.all gI=true):(backTo pos (starEach es env)).all (fun x=>!x.1)=true:=by
 rw [List.all_eq_true]
 intro x hx
 have:=List.any_eq_false.mp (tN (env:=env) (pos:=pos) pl) x hx
 cases q:x.1 with
 | true=>exact absurd q this
 | false=>rfl
theorem BB (IH:fD S n fe) (hc:mY S n call) (C:nH S n A z sc env ρ) {o:Expr} {name:Str} {apos pos:Pos} {args:List Expr} :
  aA A z nM (Jp S call fe sc ρ (.Attribute o name apos) args pos) (eval (.Call (.Attribute o name apos) args [] pos) env):=by
 refine .guard fun hg f out Q e h=>?_
 rw [Bool.and_eq_true,Bool.and_eq_true,Bool.and_eq_true] at hg
 obtain ⟨⟨⟨g1,g2⟩,g3⟩,pl⟩:=hg
 rw [arm_eval_Call,CS g1]
 refine wpAny_bind ((IH.E C o).run e fun z1 p u L1 hu e=>wpAny_bind (wpAny_standAt ?_))
 have hform:methodCallForm (args.length+([]:List Keyword).length) (backTo pos (starEach args env)) (backToKw pos (keywordEach [] env))=true:=by
  unfold methodCallForm
  rw [Fz pl]
  have:args.length≤20:=Nat.le_of_ble_eq_true g3
  have h3:(keywordEach [] env)=[]:=rfl
  simp [backToKw,h3]
  omega
 have hpos:methodCallPos true o env apos pos=pure pos:=by
  unfold methodCallPos
  rw [show (apos.endLine == pos.line)=true from g2]; rfl
 unfold methodCall
 rw [hform]
 refine wpAny_bind (wpAny_holding ((IX C.F hu).run e fun z2 c w L2 hw e=>?_))
 obtain ⟨g,rfl,hf⟩:=hw
 refine wpAny_bind (wpAny_of_eq hpos ?_)
 have L12:=L1.trans L2
 cases c with
 | lst =>
  obtain ⟨rfl,m,r,rfl,hr,rfl⟩:=hf
  exact hJ IH (C.step L12) pl lc e fun z3 vs ws L3 hl e=>⟨trivial,(Fv ((L2.trans L3).map m r hr) hl).last (L12.trans L3) e h⟩
 | str =>
  obtain ⟨rfl,x,t,rfl,rfl⟩:=hf
  exact hJ IH (C.step L12) pl lc e fun z3 vs ws L3 hl e=>⟨trivial,(F6 hl).last (L12.trans L3) e h⟩
 | dct =>
  obtain ⟨rfl,es,rfl⟩:=hf
  exact hJ IH (C.step L12) pl lc e fun z3 vs ws L3 hl e=>⟨trivial,(Gf (Le.V (L2.trans L3) hu) hl).last (L12.trans L3) e h⟩
 | fn x =>
  obtain ⟨a,rfl,ha⟩:=hf
  exact hJ IH (P:=X.K.In) (C.step L12) pl (fun h' hK=>keeps_K (C.F.fnk _ _ ha) h' hK) e fun z3 vs ws L3 hl e =>
   ⟨z3.part C.F.toClsAll,(hc (p:=.fn x) C.F C.hr ⟨a,rfl,ha⟩ (show z3.L (p::vs) (u::ws) from ⟨u,ws,rfl,Le.V (L2.trans L3) hu,hl⟩)).last (L12.trans L3) e h⟩
theorem Iu (IH:fD S n fe) (hc:mY S n call) (C:nH S n A z sc env ρ) (e:Expr):aA A z nM (M6 S call fe sc ρ e) (eval e env):=by
 cases e with
 | Constant c kd pos=>exact EI
 | Name x pos=>exact .guard fun hd f out Q e h=>wpAny_Name (zo C.F.toGlobAll C.N f out Q e h) (vO hd)
 | BoolOp op vs pos=>exact IH.B C pos op vs
 | BinOp l op r pos=>exact fun f out Q e h=>wpAny_BinOp ((IH.E C l).run e fun z1 a u L1 hu e=>(IH.E (C.step L1) r).run e fun z2 b w L2 hw e=>(IT (Le.V L2 hu) hw).last (L1.trans L2) e h)
 | UnaryOp op x pos=>exact fun f out Q e h=>wpAny_UnaryOp ((IH.E C x).run e fun z1 a u L1 hu e=>(Kf hu).last L1 e h)
 | IfExp t b o pos =>
  refine fun f out Q e h=>wpAny_IfExp ((IH.T C t).run e fun z1 c d L1 hd e=>?_)
  obtain rfl:d=c:=hd
  cases d with
  | true=>exact (IH.E (C.step L1) b).last L1 e h
  | false=>exact (IH.E (C.step L1) o).last L1 e h
 | Compare l ops rs pos =>
  refine .guard fun hm f out Q e h=>?_
  show WP X A (do compareChain pos (← eval l env) ops (markedEach ops rs (evalEach rs env))) Q z.s
  rw [markedEach_of_false _ _ _ (vO hm)]
  exact wpAny_bind ((IH.E C l).run e fun z1 a u L1 hu e=>(IH.C (C.step L1) pos ops rs hu).1.run e fun z2 c w L2 hw e=>h z2 (.bool c) w (L1.trans L2) hw e)
 | Call g args kws pos =>
  cases kws with
  | cons kw kws=>exact .stop
  | nil=>cases g with
   | Attribute o name apos=>exact BB IH hc C
   | _=>exact Em IH hc C rfl
 | Attribute o a pos=>exact .guard fun hb f out Q e h=>Attribute_any_ ((IH.E C o).run e fun z1 p u L1 hu e=>(zX C.F.toClsAll hu).last L1 e h) (by rw [arm_eval_Attribute,CS hb])
 | Subscript o i pos =>
  cases i with
  | Slice lo hi st p=>cases st with
   | none =>
    refine fun f out Q e h=>Subscript_ ((IH.E C o).run e fun z1 q u L1 hu e=>wpAny_Slice ((IH.O (C.step L1) lo).run e fun z2 q2 u2 L2 h2 e=>(IH.O (C.step (L1.trans L2)) hi).run e fun z3 q3 u3 L3 h3 e=>?_))
    rw [evalPart_none]
    exact wpAny_pure (DW (Le.V (L2.trans L3) hu) (Le.V L3 h2) h3 e fun z' a b L=>h z' a b ((L1.trans L2).trans (L3.trans L)))
   | some st=>exact zD IH C fun Z Z=>rfl
  | _=>exact zD IH C fun Z Z=>rfl
 | List es pos =>
  refine fun f out Q e h=>wpAny_List ((IH.L C pos es).run e fun z1 vs ws L1 hl e=>?_)
  obtain ⟨g,e⟩:=fR e
  exact ⟨j2 hl ▸ eM g,h (z1.grow _ z1.s.toks (be _)) (.frz vs) _ (L1.trans Le.grow) (CK (vs:=ws.toArray) hl bj (Heap.get?_push_size _ rfl)) e⟩
 | Tuple es kd pos =>
  refine fun f out Q e h=>wpAny_Tuple ((IH.L C pos es).run e fun z1 vs ws L1 hl e=>?_)
  obtain ⟨g,e⟩:=fR e
  refine ⟨?_,h (z1.grow (z1.h.push { cls:=.type "tuple",data:=.seq ws.toArray }) z1.s.toks (be _)) (.tup vs) _ (L1.trans Le.grow) ⟨_,_,_,_,rfl,⟨Heap.get?_push_size _ rfl,.inl ⟨_,_,rfl⟩,z1.fresh bj⟩,rfl,rfl,dA (Le.W .grow) hl⟩ e⟩
  rw [j2 hl,sizeLine_eq]
  exact Nat.le_trans (Nat.le_of_ble_eq_true g) (by decide)
 | ListComp elt gens csc pos =>
  cases gens with
  | nil=>exact .stop
  | cons g gs =>
   obtain ⟨tgt,iter,ifs,as⟩:=g
   cases as with
   | negSucc as=>cases gs <;> exact .stop
   | ofNat as=>cases as with
    | succ as=>cases gs <;> exact .stop
    | zero=>cases gs with
     | cons g' gs=>exact .stop
     | nil =>
      intro f out Q e h
      show WP X A (eval (.ListComp elt [⟨tgt,iter,ifs,0⟩] csc pos) env) Q z.s
      rw [eval_ListComp]
      refine Ag (use:=none) IH C e fun D K z' r L hr b nB hn nC e=>hn.imp fun m hn=>⟨hn,fun h' hs=>?_⟩
      have kb:fS K z'.h h':=fun b o hb e=>(hs.2 b hb).trans e
      exact h (z'.but z'.s.toks b kb fun m=>absurd m nB) r _ (L.but nC) (cq (b.view kb) hr) e
 | Dict ks vs pos=>exact G_ C
 | _=>exact .stop
theorem IB (IH:fD S n fe) (C:nH S n A z sc env ρ) (e:Expr):aA A z Hj (Nn fe sc ρ e) (isTrue e env (eval e env)):=by
 cases e with
 | UnaryOp op x pos=>cases op with
  | Not=>exact fun f out Q e h=>isTrue_not ((IH.T C x).run e fun z1 c d L1 hd e=>h z1 (!c) (!d) L1 (congrArg _ hd) e)
  | _=>exact uA IH C rfl
 | BoolOp op vs pos=>exact fun f out Q e h=>wpAny_isTrue_BoolOp (IH.A C op vs f out Q e h)
 | IfExp t b o pos =>
  refine fun f out Q e h=>isTrue_IfExp ((IH.T C t).run e fun z1 c d L1 hd e=>?_)
  obtain rfl:d=c:=hd
  cases d with
  | true=>exact (IH.T (C.step L1) b).last L1 e h
  | false=>exact (IH.T (C.step L1) o).last L1 e h
 | Compare l ops rs pos =>
  refine .guard fun hm f out Q e h=>?_
  show WP X A (do testChain pos (← eval l env) ops (markedEach ops rs (evalEach rs env))) Q z.s
  rw [markedEach_of_false _ _ _ (vO hm)]
  exact wpAny_bind ((IH.E C l).run e fun z1 a u L1 hu e=>(IH.C (C.step L1) pos ops rs hu).2.last L1 e h)
 | _=>exact uA IH C rfl
theorem HX (IH:fD S n fe) (C:nH S n A z sc env ρ) (pos:Pos) (es:List Expr):aA A z Nr (Nt fe sc ρ es) (spliced (backTo pos (starEach es env))):=by
 cases es with
 | nil=>exact .now fun Q h=>Calls.spliced_nil (h [] z.s.toks rfl)
 | cons e r =>
  refine .guard fun hp f out Q e0 h=>?_
  rw [oK hp]
  exact Calls.spliced_cons ((IH.E C e).run e0 fun z1 p u L1 hu e1=>(IH.L (C.step L1) pos r).run e1 fun z2 ps us L2 hl e2=>h z2 (p::ps) _ (L1.trans L2) ⟨u,us,rfl,Le.V L2 hu,hl⟩ e2)
theorem Hx (IH:fD S n fe) (C:nH S n A z sc env ρ) (pos:Pos) (op:BoolOp) (es:List Expr):aA A z nM (Nk fe sc ρ op es) (boolOp pos op (evalEach es env)):=by
 cases es with
 | nil=>exact .stop
 | cons e r=>cases r with
  | nil=>exact IH.E C e
  | cons e' r =>
   intro f out Q e0 h
   show WP X A (do
    let v ← eval e env
    standAt pos
    let t ← holding [v] (truthy v)
    match op,t with
    | .And,false | .Or,true=>pure v
    | _,_=>boolOp pos op (evalEach (e'::r) env)) Q z.s
   refine wpAny_bind ((IH.E C e).run e0 fun z1 p u L1 hu e1=>wpAny_bind (wpAny_standAt (wpAny_bind (wpAny_holding ((rj hu).run e1 fun z2 c d L2 hd e2=>?_)))))
   obtain rfl:d=c:=hd
   have L:=L1.trans L2
   cases op <;> cases d
   ·exact wpAny_pure (h z2 p u L (Le.V L2 hu) e2)
   ·exact (IH.B (C.step L) pos _ _).last L e2 h
   ·exact (IH.B (C.step L) pos _ _).last L e2 h
   ·exact wpAny_pure (h z2 p u L (Le.V L2 hu) e2)
theorem Il (IH:fD S n fe) (C:nH S n A z sc env ρ) (op:BoolOp) (es:List Expr):aA A z Hj (Ni fe sc ρ op es) (allTrue op es env):=by
 cases es with
 | nil=>cases op with
  | And=>exact .now fun Q h=>wpAny_allTrue_And_nil (h _ z.s.toks rfl)
  | Or=>exact .now fun Q h=>wpAny_allTrue_Or_nil (h _ z.s.toks rfl)
 | cons e r=>cases op with
  | And =>
   refine fun f out Q e0 h=>wpAny_allTrue_And_cons ((IH.T C e).run e0 fun z1 c d L1 hd e1=>?_)
   obtain rfl:d=c:=hd
   cases d with
   | true=>exact (IH.A (C.step L1) _ _).last L1 e1 h
   | false=>exact h z1 _ _ L1 rfl e1
  | Or =>
   refine fun f out Q e0 h=>wpAny_allTrue_Or_cons ((IH.T C e).run e0 fun z1 c d L1 hd e1=>?_)
   obtain rfl:d=c:=hd
   cases d with
   | true=>exact h z1 _ _ L1 rfl e1
   | false=>exact (IH.A (C.step L1) _ _).last L1 e1 h
theorem I1 (IH:fD S n fe) (C:nH S n A z sc env ρ) (pos:Pos) (ops:List CmpOp) (es:List Expr) (ha:z.V p v) :
  aA A z (Ho false) (MW fe sc ρ p ops es) (compareChain pos v ops (evalEach es env))∧aA A z Hj (MW fe sc ρ p ops es) (testChain pos v ops (evalEach es env)):=by
 cases ops with
 | nil=>exact ⟨.stop,.stop⟩
 | cons op ops=>cases es with
  | nil=>exact ⟨.stop,.stop⟩
  | cons e es=>cases ops with
   | nil=>cases es with
    | cons _ _=>exact ⟨.stop,.stop⟩
    | nil=>exact ⟨fun f out Q e0 h=>chain_last ((IH.E C e).run e0 fun z1 q u L1 hu e1=>(sW C.hr (Le.V L1 ha) hu).last L1 e1 h),
      fun f out Q e0 h=>test_last ((IH.E C e).run e0 fun z1 q u L1 hu e1=>sW C.hr (Le.V L1 ha) hu f out _ e1 fun z2 c w L2 hw e2=>(show w=.bool c from hw) ▸ wpAny_truthy_bool (h z2 c c (L1.trans L2) rfl e2))⟩
   | cons op' ops=>cases es with
    | nil=>exact ⟨.stop,.stop⟩
    | cons e' es =>
     refine ⟨fun f out Q e0 h=>chain_link ((IH.E C e).run e0 fun z1 q u L1 hu e1=>(sW C.hr (Le.V L1 ha) hu).run e1 fun z2 c w L2 hw e2=>?_),fun f out Q e0 h=>test_link ((IH.E C e).run e0 fun z1 q u L1 hu e1=>(sW C.hr (Le.V L1 ha) hu).run e1 fun z2 c w L2 hw e2=>?_)⟩ <;> cases (show w=.bool c from hw) <;> refine wpAny_truthy_bool ?_ <;> have L:=L1.trans L2 <;> cases c
     ·exact h z2 _ _ L rfl e2
     ·exact (IH.C (C.step L) pos _ _ (Le.V L2 hu)).1.last L e2 h
     ·exact h z2 _ _ L rfl e2
     ·exact (IH.C (C.step L) pos _ _ (Le.V L2 hu)).2.last L e2 h
theorem zL {Q:Bool→Shared→Prop} {s:Shared} (h:Q false s):WP X A (nR env es false) Q s:=by
 induction es with
 | nil=>exact wpAny_pure h
 | cons e r ih =>
  unfold nR
  rw [List.forIn_cons]
  exact wpAny_bind (wpAny_pure ih)
theorem Ig (IH:fD S n fe) (C:nH S n A z sc env ρ) (es:List Expr):aA A z Hj (No fe sc ρ es) (nR env es true):=by
 cases es with
 | nil=>exact .now fun Q h=>wpAny_pure (h _ z.s.toks rfl)
 | cons e r =>
  intro f out Q e0 h
  unfold nR
  rw [List.forIn_cons,if_pos rfl]
  refine wpAny_bind (wpAny_bind ((IH.T C e).run e0 fun z1 c d L1 hd e1=>wpAny_pure ?_))
  obtain rfl:d=c:=hd
  cases d with
  | true=>exact (IH.I (C.step L1) r).last L1 e1 h
  | false=>exact zL (h z1 _ _ L1 rfl e1)
theorem LY (hc:mY S n call) (k:Nat):fD S n (jo S call k):=by
 induction k with
 | zero=>exact ⟨fun Z Z=>.stop,fun Z Z=>.stop,fun Z Z Z=>.stop,fun Z Z=>.stop,fun Z Z Z Z=>.stop,fun Z Z Z=>.stop,fun Z Z Z Z Z Z Z=>⟨.stop,.stop⟩,fun Z Z=>.stop⟩
 | succ k IH =>
  refine ⟨Iu IH hc,IB IH,HX IH,fun C o=>?_,Hx IH,Il IH,fun C pos ops es _ _ ha=>I1 IH C pos ops es ha,Ig IH⟩
  cases o with
  | none=>exact .now fun Q h=>by rw [evalPart_none]; exact wpAny_pure (h _ _ rfl)
  | some e=>exact fun f out Q e0 h=>by rw [evalPart_some]; exact IH.E C e f out Q e0 h
end
end
section
open PySem PySem.W PyProof.Rows
noncomputable def xb (e:Expr):Bool:=![8,9,10].contains (kindOf e)
theorem pT {e:Expr} {t:Option Expr} {l:Nat} {env:Env} (h:xb e=true):swapsWith e t l env=pure false:=by
 cases e <;> first | rfl | cases h
theorem z7 {i:Expr} (h:x_ i=true) (ov iv new:Value):augStore i ov iv new=(do holding [new,ov,iv] (setItem ov iv new); release [new,ov,iv] []; pure .next):=by
 cases i <;> first | rfl | cases h
theorem FM {α:Type} {m:M α} {σ:ah} {out:PV × ah} (e:bnd m (fun Z=>(stop:M PV)) σ=some out):False:=(Ah e).elim fun _ h=>h.elim fun _ h=>(by first | exact bm h | exact bG h | exact dU h | exact eI h | exact nomatch h)
theorem lu {α:Type} {b:Bool} {m:M α} {σ:ah} {r:α × ah} (e:guard b m σ=some r):b=true∧m σ=some r:=by
 cases b with
 | true=>exact ⟨rfl,e⟩
 | false=>cases e
section
variable {X:Fx} {S:lU} {n k:Nat} {A:Around} {z z0 z1:Pt X} {sc csc:Scope} {env:Env} {ρ:cP} {call:PV→List PV→M PV} {g:Ly} {out:PV × ah} {kn kb kc:Kn} {kr:PV→M PV} {Q:Flow→Shared→Prop} {e t:Expr} {b:List Stmt} {pos:Pos}
theorem vE {prog:Program} {w:World} {s:Shared} {R:Result→Shared→Prop} {test:Expr} {body orelse:List Stmt} (I:Nat→Shared→Prop)
  (turn:∀ n s,I n s→wpAny (model prog w) A (isTrue test env (eval test env)) (fun c s₁=>if c=true then wpAny (model prog w) A (execs body env) (fun f s₃=>match f with
    | .next | .cont=>∃ m,m<n∧I m s₃
    | .brk=>R (.ok .next) s₃
    | .ret v=>R (.ok (.ret v)) s₃) (fun Z Z=>False) s₁
   else wpAny (model prog w) A (execs orelse env) (fun f s₂=>R (.ok f) s₂) (fun Z Z=>False) s₁) (fun Z Z=>False) s)
  (n:Nat) (h:I n s):codeAny (model prog w) A (.whileLoop test body orelse env) R s:=by
 refine codeAny_loop rfl I (fun n s hI=>?_) n h
 show wpAny _ A ((whileTurn test body orelse env).onRaise (fun x=>do noteFrame x env; theTreesLotGoes x)) _ _ s
 refine wpAny_noted ?_
 unfold whileTurn
 refine wpAny_bind (wpAny_mono (turn n s hI) (fun c s₁ h₁=>?_) fun _ _ x=>x.elim)
 cases c with
 | true =>
  rw [if_pos rfl] at h₁ ⊢
  refine wpAny_bind (wpAny_mono h₁ (fun f s₂ h₂=>?_) fun _ _ x=>x.elim)
  cases f with
  | next=>exact wpAny_pure ⟨rfl,h₂⟩
  | cont=>exact wpAny_pure ⟨rfl,h₂⟩
  | brk=>exact wpAny_pure h₂
  | ret v=>exact wpAny_pure h₂
 | false =>
  rw [if_neg Bool.false_ne_true] at h₁ ⊢
  exact wpAny_bind (wpAny_mono h₁ (fun f s₂ h₂=>wpAny_pure h₂) fun _ _ x=>x.elim)
theorem Ak {prog:Program} {w:World} {s:Shared} {R:Result→Shared→Prop} {target:Expr} {it:Value} {body:List Stmt} (I:Nat→Shared→Prop)
  (turn:∀ n s,I n s→wpAny (model prog w) A (pyNext it) (fun r s₁=>match r with
   | none=>R (.ok .next) s₁
   | some v=>wpAny (model prog w) A (letOwnedTupleGo target it v) (fun _ s₁' =>
     wpAny (model prog w) A (assign target env v) (fun _ s₂=>wpAny (model prog w) A (execs body env) (fun f s₃=>match f with
      | .next | .cont=>∃ m,m<n∧I m s₃
      | .brk=>R (.ok .next) s₃
      | .ret v=>R (.ok (.ret v)) s₃) (fun Z Z=>False) s₂) (fun Z Z=>False) s₁') (fun Z Z=>False) s₁) (fun Z Z=>False) s)
  (n:Nat) (h:I n s):codeAny (model prog w) A (.forLoop target it body [] env) R s:=by
 refine codeAny_forLoop_any I (fun n s hI=>wpAny_mono (turn n s hI) (fun r s₁ h₁=>?_) fun _ _ x=>x.elim) n h
 cases r with
 | none=>exact wpAny_execs_nil h₁
 | some v=>exact wpAny_mono h₁ (fun _ s₂ h₂=>wpAny_mono h₂ (fun _ s₃ h₃=>wpAny_mono h₃ (fun f s₄ h₄=>h₄) fun _ _ x=>x.elim) fun _ _ x=>x.elim) fun _ _ x=>x.elim
@[reducible] noncomputable def yF (z0:Pt X) (sc:Scope) (env:Env) (k:Kn) (out:PV × ah) (q:Shared→Prop):Prop:=∀ z' ρ',iZ (jY sc env) z0 z'→c_ z' sc env ρ'→k ρ' z'.σ=some out→q z'.s
structure yZ (z0:Pt X) (sc:Scope) (env:Env) (kn kb kc:Kn) (kr:PV→M PV) (out:PV × ah) (Q:Flow→Shared→Prop):Prop where
 n:yF z0 sc env kn out (Q .next)
 b:yF z0 sc env kb out (Q .brk)
 c:yF z0 sc env kc out (Q .cont)
 r:∀ z' p v,iZ (jY sc env) z0 z'→z'.V p v→kr p z'.σ=some out→Q (.ret v) z'.s
theorem yZ.after (H:yZ z0 sc env kn kb kc kr out Q) (L:iZ (jY sc env) z0 z):yZ z sc env kn kb kc kr out Q :=
 ⟨fun z' ρ' L'=>H.n z' ρ' (L.trans L'),fun z' ρ' L'=>H.b z' ρ' (L.trans L'),fun z' ρ' L'=>H.c z' ρ' (L.trans L'),fun z' p v L'=>H.r z' p v (L.trans L')⟩
structure tX (S:lU) (n:Nat) (g:Ly):Prop where
 one:∀ {X:Fx} {A:Around} {z:Pt X} {sc:Scope} {env:Env} {ρ:cP} {kn kb kc:Kn} {kr:PV→M PV} {out:PV × ah} {Q:Flow→Shared→Prop},nH S n A z sc env ρ→∀ st,g.one sc ρ st kn kb kc kr z.σ=some out→yZ z sc env kn kb kc kr out Q→WP X A (exec st env) Q z.s
 all:∀ {X:Fx} {A:Around} {z:Pt X} {sc:Scope} {env:Env} {ρ:cP} {kn kb kc:Kn} {kr:PV→M PV} {out:PV × ah} {Q:Flow→Shared→Prop},nH S n A z sc env ρ→∀ st,g.all sc ρ st kn kb kc kr z.σ=some out→yZ z sc env kn kb kc kr out Q→WP X A (execs st env) Q z.s
theorem IY (hE:∀ k,fD S n (jo S call k)) (C:nH S n A z sc env ρ):aA A z nM (Mz S call sc ρ k e) (eval e env):=by
 cases e with
 | List es pos =>
  cases k with
  | zero=>exact .stop
  | succ k =>
   refine fun f out Q e0 h=>wpAny_List (((hE k).L C pos es).run e0 fun z1 vs ws L1 hl e1=>?_)
   obtain ⟨g,e1⟩:=fR e1
   have hn:∀ a,(a=z1.h.objs.size∨a=z1.h.objs.size)→z1.h.get? a=none:=fun a ha=>(ha.elim id id) ▸ bj
   exact ⟨j2 hl ▸ eM g,h (z1.more (pl:=(z1.h.objs.size,z1.h.objs.size)) (.lst vs) _ z1.s.toks (be _) hn ⟨rfl,ws.toArray,0,Heap.get?_push_size _ rfl,dA (qB (pl:=(z1.h.objs.size,z1.h.objs.size)) (be _) hn) hl⟩) _ _ (L1.trans Le.more) pY e1⟩
 | _=>exact (hE k).E C _
theorem Ft (hE:∀ k,fD S n (jo S call k)) (C:nH S n A z sc env ρ) {elt:Expr} {gens:List Comprehension} {px spos:Pos} {x:Str} (e0:bnd ((jo S call k).E sc ρ (.ListComp elt gens csc pos)) (fun v=>bnd (jK sc ρ x v) kn) z.σ=some out) (h:yF z sc env kn out (Q .next)) :
  WP X A (exec (.Assign [.Name x px] (.ListComp elt gens csc pos) spos) env) Q z.s:=by
 obtain ⟨b,hb⟩:∃ b,swapsWith (.ListComp elt gens csc pos) (some (.Name x px)) spos.line env=pure b:=⟨_,rfl⟩
 cases b with
 | false=>exact wpAny_Assign_Name ((hE k).E C _ _ _ _ e0 fun z1 p u L1 hu e1=>jG (C.N.step L1) hu e1 fun z2 ρ' L2=>h z2 ρ' (L1.no.trans L2)) hb
 | true =>
  cases k with
  | zero=>first | exact bm e0 | exact bG e0 | exact dU e0 | exact eI e0 | exact nomatch e0
  | succ k =>
  cases gens with
  | nil=>first | exact bm e0 | exact bG e0 | exact dU e0 | exact eI e0 | exact nomatch e0
  | cons g gs =>
   obtain ⟨tgt,iter,ifs,as⟩:=g
   cases as with
   | negSucc as=>cases gs <;> first | exact bm e0 | exact bG e0 | exact dU e0 | exact eI e0 | exact nomatch e0
   | ofNat as=>cases as with
    | succ as=>cases gs <;> first | exact bm e0 | exact bG e0 | exact dU e0 | exact eI e0 | exact nomatch e0
    | zero=>cases gs with
     | cons g' gs=>first | exact bm e0 | exact bG e0 | exact dU e0 | exact eI e0 | exact nomatch e0
     | nil =>
      rw [exec_Assign_Name_used _ _ _ _ hb]
      refine wpAny_bind (wpAny_standAt (wpAny_bind ?_))
      show wpAny _ A (do let _ ← comprehension (.ListComp elt [⟨tgt,iter,ifs,0⟩] csc pos) csc env _ (newList []) false (eval iter env) (some (assign (.Name x px) env))) _ _ z.s
      refine wpAny_bind (wpAny_mono (Ag (f:=fun v=>bnd (jK sc ρ x v) kn) (Q:=fun _ s'=>Q .next s') (hE k) (use:=some (assign (.Name x px) env)) C e0 fun D K z' r L hr b nB hn nC e=>?_) (fun _ s' hq=>wpAny_pure (wpAny_pure hq)) fun _ _ x=>x)
      show wpAny _ A (assign (.Name x px) env (.ref D)) _ _ _
      refine wpAny_assign_Name (jG (C.N.step L) hr e fun z2 ρ' L2 N2 e2=>hn.imp fun m hn=>?_)
      have ni:=C.N.notIn nC
      have lC:=qg ⟨m,hn⟩
      have hn2:z2.h.Ns K m:=qd (fun o e=>L2.keep _ _ e b.np fun w=>ni (wZ w)) hn
      obtain ⟨o,ho⟩:=lC.1
      have b2:my z2 K:=⟨L2.plc _ _ ho b.np,b.nb,.inr (qg ⟨m,hn2⟩).2⟩
      exact ⟨hn2,fun h' hs=>h (z2.but z2.s.toks b2 (fun b o hb e=>(hs.2 b hb).trans e) fun m=>absurd m (L2.ban _ _ ho nB)) ρ' ((L.no.trans L2).but nC) (N2.but ni) e2⟩
theorem Er (hE:∀ k,fD S n (jo S call k)) (C:nH S n A z sc env ρ) (hv:I_ t e=true) (hn:xb e=true) (e0:bnd (Mz S call sc ρ k e) (fun v=>Lw S (jo S call k) sc ρ t v kn) z.σ=some out) (h:yF z sc env kn out (Q .next)):WP X A (exec (.Assign [t] e pos) env) Q z.s:=by
 have ev:=IY (k:=k) (e:=e) hE C
 cases t with
 | Name x px=>exact wpAny_Assign_Name (ev _ _ _ e0 fun z1 p u L1 hu e1=>jG (C.N.step L1) hu e1 fun z2 ρ' L2=>h z2 ρ' (L1.no.trans L2)) (pT hn)
 | Tuple ts kd px =>
  refine Assign_Tuple (ev _ _ _ e0 fun z1 p u L1 hu e1=>xk C.hr (C.N.step L1) hu e1 fun z2 ρ' L2=>h z2 ρ' (L1.no.trans L2)) (show swapsWith e (some (.Tuple ts kd px)) pos.line env=pure false from pT hn) ?_
  cases e <;> first | rfl | (cases hv)
 | Attribute o a px =>
  exact plainObj_wpAny_Assign_Attribute (ev _ _ _ e0 fun z1 p u L1 hu e1=>(hE k).E (C.step L1) o _ _ _ e1 fun z2 q w L2 hw e2=>rD C.F.toClsAll hw (Le.V L2 hu) _ _ _ e2 fun z3 _ _ L3 _=>h z3 ρ (iZ.no (L1.trans (L2.trans L3))) (C.N.step (L1.trans (L2.trans L3)))) (pT hn)
 | Subscript o i px =>
  refine wpAny_Assign_Subscript (ev _ _ _ e0 fun z1 p u L1 hu e1=>?_) (pT hn)
  obtain ⟨hi,e1⟩:=lu e1
  exact (hE k).E (C.step L1) o _ _ _ e1 fun z2 q w L2 hw e2=>(hE k).E (C.step (L1.trans L2)) i _ _ _ e2 fun z3 q' w' L3 hw' e3=>rW (Le.V L3 hw) hw' (Le.V (L2.trans L3) hu) _ _ _ e3 fun z4 _ _ L4 _ =>
   have L:=(L1.trans L2).trans (L3.trans L4)
   h z4 ρ (iZ.no L) (C.N.step L)
 | _=>exact (FM e0).elim
theorem Dw (hE:∀ k,fD S n (jo S call k)) (IH:tX S n g) (C:nH S n A z sc env ρ) (e0:EP S call k g sc ρ t b kn kr z.σ=some out) (H:yZ z sc env kn kb kc kr out Q):WP X A (exec (.While t b [] pos) env) Q z.s:=by
 refine wpAny_While (vE (fun N' s'=>∃ (z1:Pt X) (ρ':cP),s'=z1.s∧c_ z1 sc env ρ'∧iZ (jY sc env) z z1∧bc (fun ρ=>(jo S call k).T sc ρ t) (fun ρ n b' c=>g.all sc ρ b n b' c kr) kn N' ρ' z1.σ=some out) ?_ S.loops ⟨z,ρ,rfl,C.N,.refl,e0⟩)
 rintro fuel _ ⟨z1,ρ',rfl,N',T,e⟩
 cases fuel with
 | zero=>first | exact bm e | exact bG e | exact dU e | exact eI e | exact nomatch e
 | succ fuel =>
  refine (hE k).T ⟨C.F,C.hr,N'⟩ t _ _ _ e fun z2 c d L2 hd e2=>?_
  obtain rfl:d=c:=hd
  have T:=T.trans L2.no
  have N2:=N'.step L2
  cases d with
  | true =>
   have a:=H.after T
   have q:yF z2 sc env (bc (fun ρ=>(jo S call k).T sc ρ t) (fun ρ n b' c=>g.all sc ρ b n b' c kr) kn fuel) out (fun s'=>∃ m,m<fuel+1∧∃ (z1:Pt X) (ρ':cP),s'=z1.s∧c_ z1 sc env ρ'∧iZ (jY sc env) z z1∧bc (fun ρ=>(jo S call k).T sc ρ t) (fun ρ n b' c=>g.all sc ρ b n b' c kr) kn m ρ' z1.σ=some out) :=
    fun z3 ρ3 L3 N3 e3=>⟨fuel,Nat.lt_succ_self _,z3,ρ3,rfl,N3,T.trans L3,e3⟩
   exact IH.all ⟨C.F,C.hr,N2⟩ b e2 ⟨q,a.n,q,a.r⟩
  | false =>
   exact wpAny_execs_nil (H.n _ _ T N2 e2)
theorem HK {it:Expr} (hE:∀ k,fD S n (jo S call k)) (IH:tX S n g) (C:nH S n A z sc env ρ) (e0:Ln S call k g sc ρ t it b kn kr z.σ=some out) (H:yZ z sc env kn kb kc kr out Q):WP X A (exec (.For t it b [] pos) env) Q z.s:=by
 obtain ⟨hset,e1⟩:=lu e0
 refine wpAny_For ((hE k).E C it _ _ _ e1 fun z1 p u L1 hu e2=>AC hu _ _ _ e2 fun z2 i w L2 hw e3=>?_) (tG hset)
 obtain ⟨I,rfl,nI,fI,hit⟩:=hw
 have sI:=L1.gone nI
 have nhb:=z.hb sI
 have ni:=C.N.notIn sI
 have no:¬ jY sc env I:=fun w=>ni (wZ w)
 have L12:=L1.trans L2
 refine Ak (fun N' s'=>∃ (z':Pt X) (ρ':cP) (it':It),s'=z'.s∧c_ z' sc env ρ'∧iZ (jY sc env) z z'∧ku z' I it'∧cJ (fun v ρ n b' c=>dx sc ρ t v fun ρ'=>g.all sc ρ' b n b' c kr) kn N' it' ρ' z'.σ=some out) ?_ S.loops ⟨z2,ρ,i,rfl,C.N.step L12,L12.no,⟨fI,hit⟩,e3⟩
 rintro fuel _ ⟨z3,ρ3,it3,rfl,N3,T,K,e⟩
 cases fuel with
 | zero=>first | exact bm e | exact bG e | exact dU e | exact eI e | exact nomatch e
 | succ fuel =>
  refine Ax C.hr K.it (K.bare nhb) (fun m=>K.fI (.inl m)) T sI e (fun h' t' kb L e=>H.n _ ρ3 L (N3.but ni) e) fun h' t' kb p' it' v L hit hv e=>z_ hit ?_
  have K4:ku (z3.but t' (K.bare nhb) kb fun m=>absurd m fun m=>K.fI (.inl m)) I it':=⟨K.fI,hit⟩
  refine xk (z:=z3.but t' (K.bare nhb) kb fun m=>absurd m fun m=>K.fI (.inl m)) C.hr (N3.but ni) (cq ((K.bare nhb).view kb) hv) e fun z5 ρ5 L5 N5 e5=>?_
  have K5:=K4.later L5 no (N3.but (b:=K.bare nhb) (kb:=kb) (t:=t') (hl:=fun m=>absurd m fun m=>K.fI (.inl m)) ni).ownOk
  have T5:=L.trans L5
  have a:=H.after T5
  have q:yF z5 sc env (cJ (fun v ρ n b' c=>dx sc ρ t v fun ρ'=>g.all sc ρ' b n b' c kr) kn fuel it') out (fun s'=>∃ m,m<fuel+1∧∃ (z':Pt X) (ρ':cP) (it':It),s'=z'.s∧c_ z' sc env ρ'∧iZ (jY sc env) z z'∧ku z' I it'∧cJ (fun v ρ n b' c=>dx sc ρ t v fun ρ'=>g.all sc ρ' b n b' c kr) kn m it' ρ' z'.σ=some out) :=
   fun z6 ρ6 L6 N6 e6=>⟨fuel,Nat.lt_succ_self _,z6,ρ6,it',rfl,N6,T5.trans L6,K5.later L6 no N5.ownOk,e6⟩
  exact IH.all ⟨C.F,C.hr,N5⟩ b e5 ⟨q,a.n,q,a.r⟩
end
end
section
open PySem PySem.W PyProof.Rows
section
variable {X:Fx} {S:lU} {n k:Nat} {A:Around} {z z0 z1:Pt X} {sc csc:Scope} {env:Env} {ρ:cP} {call:PV→List PV→M PV} {g:Ly} {out:PV × ah} {kn kb kc:Kn} {kr:PV→M PV} {Q:Flow→Shared→Prop} {e t:Expr} {b:List Stmt} {pos:Pos}
theorem AU (h:Hg e=true):xb e=true:=by
 cases e <;> first | rfl | cases h
theorem HU {op:Operator} (hE:∀ k,fD S n (jo S call k)) (C:nH S n A z sc env ρ) (e0:LH S (jo S call k) sc ρ t op e kn z.σ=some out) (h:yF z sc env kn out (Q .next)):WP X A (exec (.AugAssign t op e pos) env) Q z.s:=by
 cases t with
 | Name x px=>exact wpAny_AugAssign_Name (zo C.F.toGlobAll C.N _ _ _ e0 fun z1 p u L1 hu e1=>(hE k).E (C.step L1) e _ _ _ e1 fun z2 q w L2 hw e2=>yt (Le.V L2 hu) hw _ _ _ e2 fun z3 r v L3 hv e3 =>
   have L:=L1.trans (L2.trans L3)
   jG (C.N.step L) hv e3 fun z4 ρ' L4=>h z4 ρ' (L.no.trans L4))
 | Attribute o a px=>exact wpAny_AugAssign_AttributeAny ((hE k).E C o _ _ _ e0 fun z0 po uo L0 ho e0=>zX C.F.toClsAll ho _ _ _ e0 fun z1 p u L1 hu e1=>(hE k).E (C.step (L0.trans L1)) e _ _ _ e1 fun z2 q w L2 hw e2=>yt (Le.V L2 hu) hw _ _ _ e2 fun z3 r v L3 hv e3 =>
   rD C.F.toClsAll (Le.V (L1.trans (L2.trans L3)) ho) hv _ _ _ e3 fun z4 _ _ L4 _ =>
    have L:=L0.trans (L1.trans (L2.trans (L3.trans L4)))
    h z4 ρ (iZ.no L) (C.N.step L))
 | Subscript o i px =>
  obtain ⟨hi,e0⟩:=lu e0
  exact wpAny_AugAssign_SubscriptAny ((hE k).E C o _ _ _ e0 fun z0 po uo L0 ho e0=>(hE k).E (C.step L0) i _ _ _ e0 fun zi pi ui Li hi e0=>yL (U:=getItem) (fun _ _ h=>h) (Le.V Li ho) hi _ _ _ e0 fun z1 p u L1 hu e1=>(hE k).E (C.step (L0.trans (Li.trans L1))) e _ _ _ e1 fun z2 q w L2 hw e2=>yt (Le.V L2 hu) hw _ _ _ e2 fun z3 r v L3 hv e3 =>
   have M:=L1.trans (L2.trans L3)
   rW (Le.V (Li.trans M) ho) (Le.V M hi) hv _ _ _ e3 fun z4 _ _ L4 _ =>
    have L:=L0.trans (Li.trans (M.trans L4))
    h z4 ρ (iZ.no L) (C.N.step L)) (z7 hi)
 | _=>first | exact bm e0 | exact bG e0 | exact dU e0 | exact eI e0 | exact nomatch e0
theorem HM (hE:∀ k,fD S n (jo S call k)) (IH:tX S n g) (C:nH S n A z sc env ρ) (st:Stmt) (e0:Ng S call k g sc ρ st kn kb kc kr z.σ=some out) (H:yZ z sc env kn kb kc kr out Q):WP X A (exec st env) Q z.s:=by
 cases st with
 | Expr e pos =>
  obtain ⟨hn,e0⟩:=lu e0
  refine wpAny_Expr_any ((hE k).E C e _ _ _ e0 fun z1 p u L1 hu e1=>H.n z1 ρ (iZ.no L1) (C.N.step L1) e1) ?_ (pT (AU hn))
  unfold interactive
  rw [C.N.st.kind]; rfl
 | Pass pos=>exact wpAny_Pass (H.n z ρ .refl C.N e0)
 | Break pos=>exact wpAny_Break (H.b z ρ .refl C.N e0)
 | Continue pos=>exact wpAny_Continue (H.c z ρ .refl C.N e0)
 | Return v pos =>
  cases v with
  | none=>exact wpAny_Return_none (H.r z .none _ .refl rfl e0)
  | some e=>exact wpAny_Return_some ((hE k).E C e _ _ _ e0 fun z1 p u L1=>H.r z1 p u (iZ.no L1))
 | Assign ts e pos =>
  cases ts with
  | nil=>first | exact bm e0 | exact bG e0 | exact dU e0 | exact eI e0 | exact nomatch e0
  | cons t ts =>
   cases ts with
   | cons _ _=>first | exact bm e0 | exact bG e0 | exact dU e0 | exact eI e0 | exact nomatch e0
   | nil =>
    obtain ⟨hv,e1⟩:=lu e0
    cases e with
    | ListComp elt gens csc p=>cases t with
     | Name x px=>exact Ft hE C e1 H.n
     | _=>cases hv
    | SetComp a b c d=>cases k <;> first | exact bm e1 | exact bG e1 | exact dU e1 | exact eI e1 | exact nomatch e1
    | DictComp a b c d f=>cases k <;> first | exact bm e1 | exact bG e1 | exact dU e1 | exact eI e1 | exact nomatch e1
    | _=>exact Er hE C hv rfl e1 H.n
 | AugAssign t op e pos=>exact HU hE C e0 H.n
 | If t b o pos =>
  refine wpAny_If ((hE k).T C t _ _ _ e0 fun z1 c d L1 hd e1=>?_)
  obtain rfl:d=c:=hd
  cases d with
  | true=>exact IH.all (C.step L1) b e1 (H.after L1.no)
  | false=>exact IH.all (C.step L1) o e1 (H.after L1.no)
 | While t b o pos=>cases o with
  | cons _ _=>first | exact bm e0 | exact bG e0 | exact dU e0 | exact eI e0 | exact nomatch e0
  | nil=>exact Dw hE IH C e0 H
 | For t i b o pos=>cases o with
  | cons _ _=>first | exact bm e0 | exact bG e0 | exact dU e0 | exact eI e0 | exact nomatch e0
  | nil=>exact HK hE IH C e0 H
 | _=>first | exact bm e0 | exact bG e0 | exact dU e0 | exact eI e0 | exact nomatch e0
theorem J7 (hE:∀ k,fD S n (jo S call k)) (k:Nat):tX S n (Ms S call k):=by
 induction k with
 | zero=>exact ⟨fun _ _ e _=>(by first | exact bm e | exact bG e | exact dU e | exact eI e | first | exact bm e | exact bG e | exact dU e | exact eI e | exact nomatch e),fun _ _ e _=>(by first | exact bm e | exact bG e | exact dU e | exact eI e | first | exact bm e | exact bG e | exact dU e | exact eI e | exact nomatch e)⟩
 | succ k IH =>
  refine ⟨HM hE IH,fun {X A z sc env ρ kn kb kc kr out Q} C st e H=>?_⟩
  cases st with
  | nil=>exact wpAny_execs_nil (H.n z ρ .refl C.N e)
  | cons s0 r=>exact wpAny_execs_cons (IH.one (Q:=fun f s'=>match f with | .next=>WP X A (execs r env) Q s' | f=>Q f s') C s0 e ⟨fun z1 ρ1 L1 N1 e1=>IH.all ⟨C.F,C.hr,N1⟩ r e1 (H.after L1),H.b,H.c,H.r⟩)
end
end
section
open PySem PySem.W PyProof.Rows
section
variable {kd:Str→Option NameKind} {x:Str} {v:Value} {b:List (Str × Value)}
theorem Ea:∀ {m:Str→Option Value},x ∉ b.map Prod.fst→bindL kd b m x=m x:=by
 induction b with
 | nil=>exact fun Z=>rfl
 | cons y r ih =>
  intro m h
  have h:=not_or.mp fun q=>h (List.mem_cons.mpr q)
  obtain ⟨y,w⟩:=y
  unfold bindL
  rw [ih h.2]
  split
  ·exact if_neg h.1
  ·rfl
theorem DH:∀ {m:Str→Option Value},x ∉ b.map Prod.fst→bindC kd b m x=m x:=by
 induction b with
 | nil=>exact fun Z=>rfl
 | cons y r ih =>
  intro m h
  have h:=not_or.mp fun q=>h (List.mem_cons.mpr q)
  obtain ⟨y,w⟩:=y
  unfold bindC
  rw [ih h.2]
  split
  ·rfl
  ·exact if_neg h.1
theorem jl {l:List Str} (h:jI l=true):l.Nodup:=by
 induction l with
 | nil=>exact List.nodup_nil
 | cons x r ih =>
  have h:=Bool.and_eq_true_iff.mp h
  refine List.nodup_cons.mpr ⟨fun hx=>?_,ih h.2⟩
  have:=h.1
  rw [List.contains_iff_mem.mpr hx] at this
  cases this
theorem zF:∀ {m:Str→Option Value},(b.map Prod.fst).Nodup→b.lookup x=some v→(kd x=some .local→bindL kd b m x=some v)∧(kd x≠some .local→bindC kd b m x=some v):=by
 induction b with
 | nil=>exact fun _ h=>(by first | exact bm h | exact bG h | exact dU h | exact eI h | exact nomatch h)
 | cons y r ih =>
  intro m hn h
  obtain ⟨y,w⟩:=y
  have hn:=List.nodup_cons.mp hn
  unfold bindL bindC
  rw [List.lookup_cons] at h
  by_cases hxy:x=y
  ·subst hxy
   rw [beq_self_eq_true] at h
   cases h
   exact ⟨fun hk=>by rw [Ea hn.1,if_pos hk]; exact if_pos rfl,fun hk=>by rw [DH hn.1,if_neg hk]; exact if_pos rfl⟩
  ·rw [beq_false_of_ne hxy] at h
   exact ⟨(ih hn.2 h).1,(ih hn.2 h).2⟩
end
theorem ux {X:Fx} {W:oc} {x:Str} {p:PV} {ps:List Str}:∀ {us:List Value} {qs:List PV},us.length=ps.length→gf X W qs us→(ps.zip qs).lookup x=some p→∃ v,(ps.zip us).lookup x=some v∧uT X W p v:=by
 induction ps with
 | nil=>exact fun _ _ e=>(by first | exact bm e | exact bG e | exact dU e | exact eI e | exact nomatch e)
 | cons y ps ih =>
  intro us qs hl r e
  cases qs with
  | nil=>cases (show us=[] from r); first | exact bm hl | exact bG hl | exact dU hl | exact eI hl | exact nomatch hl
  | cons q qs =>
   obtain ⟨u,us,rfl,r,rl⟩:=r
   rw [List.zip_cons_cons,List.lookup_cons] at e ⊢
   by_cases hxy:x=y
   ·rw [beq_iff_eq.mpr hxy] at e ⊢
    cases e
    exact ⟨_,rfl,r⟩
   ·rw [beq_false_of_ne hxy] at e ⊢
    exact ih (Nat.succ.inj hl) rl e
theorem Dm {α:Type} {m:M α} {f:α→M PV} {σ:ah} {out:PV × ah} (e:bnd m f σ=some out):∃ a σ',m σ=some (a,σ')∧f a σ'=some out:=by
 unfold bnd at e
 generalize m σ=o at e ⊢
 cases o with
 | none=>cases e
 | some x=>exact ⟨x.1,x.2,rfl,e⟩
theorem Ac {n:Nat} {A:Around} (h:om (n+1) A) (env:Env):om n (A.deeper env):=by
 obtain ⟨h1,h2,h3⟩:=h
 exact ⟨h1,by rw [depth_deeper]; omega,by rw [units_deeper]; omega⟩
theorem AX {n:Nat} {A:Around} (h:om (n+1) A) (C:Addr) (vals:List Value):om n (A.under (.builtin "type.__call__" ⟨.ref C::vals,[]⟩)):=by
 obtain ⟨h1,h2,h3⟩:=h
 exact ⟨h1,by rw [depth_under_make]; omega,by rw [units_under_make]; omega⟩
noncomputable def Jw (T:Value→Shared→Prop) (r:Result) (s:Shared):Prop:=match r with
 | .ok (.ret v)=>T v s
 | _=>False
section
variable {S:lU} {X:Fx} {n:Nat} {A:Around} {z:Pt X} {a:Addr} {fi:gA} {ws:List Value} {vs:List PV} {call:PV→List PV→M PV} {f:PV→M PV} {out:PV × ah} {T:Value→Shared→Prop}
theorem ny {h:Heap} {c:Addr} (hc:h.objs.size≤c):h.get? c=none:=xG fun _ q=>absurd (Heap.lt_size q) (Nat.not_lt.mpr hc)
theorem JF (hS:∀ k,tX S n (Ms S call k)) (F:qn X S) (hr:om (n+1) A) (FA:JK X.hb a fi) (rl:z.L vs ws) (e:bnd (FL S call fi vs) f z.σ=some out)
  (h:∀ z' p v,Le z z'→z'.V p v→f p z'.σ=some out→T v z'.s):codeAny (model X.prog X.w) A (.call (.ref a) ⟨ws,[]⟩) (Jw T) z.s:=by
 obtain ⟨⟨fd,o,ho,hd,hbody,hsc,hclo,hgl,hbl,hcr,hbind⟩,hok⟩:=FA
 obtain ⟨b,hb,e1⟩:=jw e
 obtain ⟨dv,dq,hbt,hul,rfl,hib⟩:=hbind z.R.stays (j2 rl) hb
 have ru:z.L (vs++dq) (ws++dv):=nj hib.rep rl
 generalize ws++dv=us at hbt hul ru
 generalize vs++dq=qs at e1 ru
 unfold HF at hok
 simp only [Bool.and_eq_true] at hok
 obtain ⟨⟨⟨⟨⟨k1,k2⟩,k3⟩,k4⟩,k5⟩,k6⟩:=hok
 have k4':fi.scope.kind=.function:=eq_of_beq k4
 have hnd:=jl k1
 have hmap:(fi.params.zip us).map Prod.fst=fi.params:=List.map_fst_zip (Nat.le_of_eq hul.symm)
 have hkind0:((fi.params.zip us).all fun y=>fi.scope.names.lookup y.1 == some .local || fi.scope.names.lookup y.1 == some .cell)=true:=by
  rw [List.all_eq_true] at k2 ⊢
  exact fun y hy=>k2 _ (hmap ▸ List.mem_map_of_mem hy)
 refine codeAny_call_function (by have:=hr.depth; omega) (z.R.stays _ _ ho) hd (by rw [hsc]; exact vO k5) (by rw [hsc]; exact vO k6) hbody (hcr.keeps z.R.stays) (hbt _ _ _ _ ?_)
 rw [hsc,hclo,hgl,hbl]
 refine wpAny_newFunctionEnv_cells k4' (kindsX hkind0 _) fun env he s' x=>?_
 refine ⟨(F.nolimit.keeps z.R.stays).keeps x.toInCall.keep,codeAny_func ?_⟩
 have keep:=x.toInCall.keep
 obtain ⟨h₁,tk,hs,_⟩:=x.done
 subst hs
 have L1:Le z (z.grow h₁ tk keep):=Le.grow
 have hL:env.locals=z.h.objs.size:=by rw [he]; rfl
 have hcells:env.cells=cellsFrom (z.h.objs.size+1) fi.scope.names []:=by rw [he]; rfl
 have hko:∀ y,env.kindOf y=fi.scope.names.lookup y:=fun y=>by rw [he]; rfl
 have nofree:∀ y,fi.scope.names.lookup y≠some .free:=fun y hy=>Bool.noConfusion (List.all_eq_true.mp k3 _ (mem_of_lookup hy))
 have nf:∀ {y},ww fi.scope y→fi.scope.names.lookup y=some .cell:=fun hy=>hy.elim id fun q=>absurd q (nofree _)
 have habove:∀ y c,env.cells.lookup y=some c→z.h.objs.size<c:=fun y c hc=>hL ▸ x.above y c (mem_of_lookup hc)
 have nL:z.h.get? env.locals=none:=ny (hL ▸ Nat.le_refl _)
 have fe:∀ c,z.h.get? c=none→¬ oa (z.grow h₁ tk keep).B (z.grow h₁ tk keep).μ c:=fun c=>z.fresh
 have N:c_ (z.grow h₁ tk keep) fi.scope env (Jo fi.scope (fi.params.zip qs)):=by
  refine ⟨⟨by rw [he]; exact k4',by rw [he]; rfl,by rw [he]; rfl,fun y hy=>(hko y).trans hy,fun y hy=>(hko y).trans (nf hy),fun y hy=>(hko y).trans hy,fun y w c h1 h2=>name_of_addr x.apart (mem_of_lookup h1) (mem_of_lookup h2)⟩,
   ⟨_,x.toInCall.ns,fun y p hy hp=>?_⟩,fun y hy=>?_,fe _ nL,z.hb nL⟩
  ·obtain ⟨v,h1,h2⟩:=ux hul ru (kL hp).symm
   exact ⟨v,(zF (hmap.symm ▸ hnd) h1).1 ((hko y).trans hy),Le.V L1 h2⟩
  ·have hy:=nf hy
   obtain ⟨c,hc⟩:∃ c,env.cells.lookup y=some c:=by
    rw [hcells]
    exact Option.isSome_iff_exists.mp (cellsFrom_some _ _ _ (.inl hy))
   have hc':=habove y c hc
   have nc:z.h.get? c=none:=ny (Nat.le_of_lt hc')
   refine ⟨c,hc,⟨_,x.cell y c hc,fun p hp=>?_⟩,fe _ nc,z.hb nc,fun q=>Nat.lt_irrefl _ (hL ▸ q ▸ hc')⟩
   obtain ⟨v,h1,h2⟩:=ux hul ru (kL hp).symm
   exact ⟨v,(zF (hmap.symm ▸ hnd) h1).2 (fun q=>by rw [hko,hy] at q; cases q),Le.V L1 h2⟩
 have Tn:∀ {z'},iZ (jY fi.scope env) (z.grow h₁ tk keep) z'→Le z z':=fun T2=>L1.fresh T2 fun y w=>w.elim (fun q=>q ▸ nL) fun w=>w.elim fun y w=>ny (Nat.le_of_lt (habove _ _ w.2))
 obtain ⟨r,σ',e2,e3⟩:=Dm e1
 refine wpAny_mono ((hS 100).all (z:=z.grow h₁ tk keep) (Q:=fun f s'=>T (match f with | .ret v=>v | _=>.none) s') ⟨F,Ac hr env,N⟩ fi.body e2 ⟨fun z' ρ' T2 N2 e4=>?_,fun _ _ _ _ e=>(by first | exact bm e | exact bG e | exact dU e | exact eI e | first | exact bm e | exact bG e | exact dU e | exact eI e | exact nomatch e),fun _ _ _ _ e=>(by first | exact bm e | exact bG e | exact dU e | exact eI e | first | exact bm e | exact bG e | exact dU e | exact eI e | exact nomatch e),fun z' p v T2 hv e4=>?_⟩) (fun _ _ z=>z) fun _ _ z=>z.elim
 ·cases e4
  exact h z' .none .none (Tn T2) rfl e3
 ·cases e4
  exact h z' _ _ (Tn T2) hv e3
noncomputable def HH (S:lU) (n:Nat):Prop:=∀ {X:Fx} {A:Around} {z:Pt X} {a:Addr} {x:Str} {ws:List Value} {vs:List PV} {f:PV→M PV} {out:PV × ah} {T:Value→Shared→Prop},qn X S→om n A→X.fa x=some a→z.L vs ws →
 bnd (aa S n (.fn x) vs) f z.σ=some out→(∀ z' p v,Le z z'→z'.V p v→f p z'.σ=some out→T v z'.s)→codeAny (model X.prog X.w) A (.call (.ref a) ⟨ws,[]⟩) (Jw T) z.s
theorem vY (hc:mY S n (aa S n)):HH S (n+1):=by
 intro X A z a x ws vs f out T F hr hx rl e h
 obtain ⟨fi,hfi,e1⟩:=jw (show bnd (opt (S.fns x) fun fi=>FL S (aa S n) fi vs) f z.σ=some out from e)
 exact JF (J7 (LY hc)) F hr (F.funs _ _ _ hx hfi) rl e1 h
theorem yY (hf:HH S n) (hf':HH S (n+1)):mY S (n+1) (aa S (n+1)):=by
 intro X A z v p ws vs F hr hv hl
 cases p with
 | fn x =>
  obtain ⟨a,rfl,hx⟩:=hv
  exact fun f out Q e h=>wpAny_call (codeAny_mono (hf' (T:=Q) F hr hx hl e h) fun r s q=>by rcases r with _ | (_ | _ | _ | _) <;> exact q)
 | cls c =>
  obtain ⟨C,rfl,hC⟩:=hv
  intro f out Q e h
  obtain ⟨ci,hci,e1⟩:=jw (show bnd (opt (S.clss c) fun ci=>bnd (bT (.inst c [])) fun o=>bnd (aa S n (.fn ci.init) (o::vs)) fun r=>H1 o r) f z.σ=some out from e)
  have e2:bnd (bnd (aa S n (.fn ci.init) (.loc z.σ.length::vs)) fun r=>H1 (.loc z.σ.length) r) f (z.σ++[.inst c []])=some out:=e1
  rw [gw] at e2
  obtain ⟨hmk,fI,hfI,hfind,htyp⟩:=F.makes _ _ _ hC hci
  have KH:=z.part F.toClsAll
  refine wpAny_call (make_core (makes_of KH hmk) (looks_findIn KH hfind) (fun self=>bind_fn KH self htyp) (.inl rfl) ?_)
  have keep:fH z.h ((z.h.push emptyDict).push (instObj C z.h.objs.size)):=fun b o e=>be _ b o (be _ b o e)
  have hx:((z.h.push emptyDict).push (instObj C z.h.objs.size)).get? (z.h.objs.size+1)=some (instObj C z.h.objs.size):=by heap_get
  have hn:∀ a,(a=z.h.objs.size+1∨a=z.h.objs.size)→z.h.get? a=none:=fun a ha=>ny (ha.elim (fun q=>q ▸ Nat.le_succ _) fun q=>q ▸ Nat.le_refl _)
  have hc:l_ X (view z.B ((z.h.push emptyDict).push (instObj C z.h.objs.size)) (z.μ++[(z.h.objs.size+1,z.h.objs.size)])) ((z.h.push emptyDict).push (instObj C z.h.objs.size)) (z.h.objs.size+1,z.h.objs.size) (.inst c []) :=
   ⟨Nat.succ_ne_self _,C,hC,hx,fun Z=>none,.of_empty ((Heap.Ns.new z.h (.type "dict")).keeps (be _)),fun x p e=>(by first | exact bm e | exact bG e | exact dU e | exact eI e | first | exact bm e | exact bG e | exact dU e | exact eI e | exact nomatch e),fun Z Z=>rfl⟩
  have ml:(z.more (.inst c []) _ z.s.toks keep hn hc).V (.loc z.σ.length) (.ref (z.h.objs.size+1)):=pY
  refine codeAny_mono (hf (z:=z.more (.inst c []) _ z.s.toks keep hn hc) (vs:=.loc z.σ.length::vs) (T:=fun v s'=>v=.none∧Q (.ref (z.h.objs.size+1)) s') F (AX hr C ws) hfI (show (z.more (.inst c []) _ z.s.toks keep hn hc).L (.loc z.σ.length::vs) (.ref (z.h.objs.size+1)::ws) from ⟨_,_,rfl,ml,Le.L Le.more hl⟩) e2 fun z2 p v L2 hv e3=>?_) fun r s q=>by rcases r with _ | (_ | _ | _ | _) <;> exact q
  cases p with
  | none=>exact ⟨hv,h z2 (.loc z.σ.length) _ (Le.more.trans L2) (Le.V L2 ml) e3⟩
  | _=>first | exact bm e3 | exact bG e3 | exact dU e3 | exact eI e3 | exact nomatch e3
 | _=>exact .stop
theorem Fl (n:Nat):mY S n (aa S n)∧HH S n:=by
 induction n with
 | zero=>exact ⟨fun Z Z Z Z=>.stop,fun _ _ _ _ e=>(by first | exact bm e | exact bG e | exact dU e | exact eI e | first | exact bm e | exact bG e | exact dU e | exact eI e | exact nomatch e)⟩
 | succ n ih=>exact ⟨yY ih.2 (vY ih.1),vY ih.1⟩
end
end
section
open PySem
noncomputable def H_:List Stmt:=PySem.Challenge.pw_nz0207_01.main.body
noncomputable def bz (s:Stmt):Option gA:=s.casesOn (fun _ args body _ _ _ scope _ _ _=>some ⟨args.args.map (·.arg),[],scope,body⟩) (fun Z Z Z Z Z Z Z Z Z Z=>none) (fun Z Z Z Z Z Z Z Z Z Z Z=>none) (fun Z Z=>none) (fun Z Z=>none) (fun Z Z Z=>none) (fun Z Z Z Z Z Z Z=>none) (fun Z Z Z Z=>none) (fun Z Z Z Z Z=>none) (fun Z Z Z Z Z=>none) (fun Z Z Z Z Z=>none) (fun Z Z Z Z=>none) (fun Z Z Z Z=>none) (fun Z Z Z=>none) (fun Z Z Z=>none) (fun Z Z Z=>none) (fun Z Z Z=>none) (fun Z Z Z Z Z=>none) (fun Z Z Z Z Z=>none) (fun Z Z Z=>none) (fun Z Z=>none) (fun Z Z Z Z=>none) (fun Z Z=>none) (fun Z Z=>none) (fun Z Z=>none) (fun Z=>none) (fun Z=>none) (fun Z=>none)
noncomputable def Ev (s:Stmt):List gA:=s.casesOn (fun Z Z Z Z Z Z Z Z Z Z=>(bz s).toList) (fun Z Z Z Z Z Z Z Z Z Z=>(bz s).toList) (fun _ _ _ body _ _ _ _ _ _ _=>body.filterMap bz) (fun Z Z=>(bz s).toList) (fun Z Z=>(bz s).toList) (fun Z Z Z=>(bz s).toList) (fun Z Z Z Z Z Z Z=>(bz s).toList) (fun Z Z Z Z=>(bz s).toList) (fun Z Z Z Z Z=>(bz s).toList) (fun Z Z Z Z Z=>(bz s).toList) (fun Z Z Z Z Z=>(bz s).toList) (fun Z Z Z Z=>(bz s).toList) (fun Z Z Z Z=>(bz s).toList) (fun Z Z Z=>(bz s).toList) (fun Z Z Z=>(bz s).toList) (fun Z Z Z=>(bz s).toList) (fun Z Z Z=>(bz s).toList) (fun Z Z Z Z Z=>(bz s).toList) (fun Z Z Z Z Z=>(bz s).toList) (fun Z Z Z=>(bz s).toList) (fun Z Z=>(bz s).toList) (fun Z Z Z Z=>(bz s).toList) (fun Z Z=>(bz s).toList) (fun Z Z=>(bz s).toList) (fun Z Z=>(bz s).toList) (fun Z=>(bz s).toList) (fun Z=>(bz s).toList) (fun Z=>(bz s).toList)
noncomputable def JB:List gA:=H_.flatMap Ev
noncomputable def Nv:gA:=⟨[],[],default,[]⟩
noncomputable def fk (i:Nat):Str:=⟨#[i]⟩
noncomputable def kK:Nat:=41
noncomputable def aB (i:Nat):gA:=match Nat.beq i kK with
 | true=>{ JB.getD i Nv with dflts:=[.int 64,.int 50,.int 1000000,.int 100000,.int 10000] }
 | false=>JB.getD i Nv
noncomputable def pr (a b:Int):PV:=.tup [.int a,.int b]
noncomputable def Mx:Str:=⟨#[95,95,105,110,105,116,95,95]⟩
noncomputable def ey:Str:=⟨#[97,100,100]⟩
noncomputable def aY:Str:=⟨#[97,112,112,101,110,100]⟩
noncomputable def ba:Str:=⟨#[97,116]⟩
noncomputable def qt:Str:=⟨#[98,101,103,105,110]⟩
noncomputable def fb:Str:=⟨#[100,101,112,116,104]⟩
noncomputable def iY:Str:=⟨#[101,120,116,101,110,100]⟩
noncomputable def lS:Str:=⟨#[102,105,110,100]⟩
noncomputable def jr:Str:=⟨#[102,114,101,115,104]⟩
noncomputable def Cg:Str:=⟨#[103,101,116]⟩
noncomputable def bx:Str:=⟨#[103,114,111,117,112,115]⟩
noncomputable def x0:Str:=⟨#[105,110,100,101,120]⟩
noncomputable def xI:Str:=⟨#[105,116,101,109,115]⟩
noncomputable def d9:Str:=⟨#[106,111,105,110]⟩
noncomputable def gG:Str:=⟨#[108,101,97,115,116,95,101,110,100]⟩
noncomputable def x4:Str:=⟨#[108,111,119,101,114]⟩
noncomputable def re:Str:=⟨#[109,111,115,116]⟩
noncomputable def iL:Str:=⟨#[110,97,109,101,115]⟩
noncomputable def dm:Str:=⟨#[112,101,101,107]⟩
noncomputable def gg:Str:=⟨#[112,105,108,101]⟩
noncomputable def wk:Str:=⟨#[112,111,112]⟩
noncomputable def ga:Str:=⟨#[112,114,111,103,114,97,109]⟩
noncomputable def aI:Str:=⟨#[114,101,103,105,115,116,101,114,115]⟩
noncomputable def fw:Str:=⟨#[114,111,119]⟩
noncomputable def cA:Str:=⟨#[114,111,119,115]⟩
noncomputable def a_:Str:=⟨#[115,107,105,112,115]⟩
noncomputable def lM:Str:=⟨#[115,112,108,105,116]⟩
noncomputable def lz:Str:=⟨#[115,112,111,107,101,110]⟩
noncomputable def dZ:Str:=⟨#[115,116,101,112,115]⟩
noncomputable def oU:Str:=⟨#[115,119,97,112,99,97,115,101]⟩
noncomputable def cj:Str:=⟨#[116,101,120,116]⟩
noncomputable def qk:Str:=⟨#[116,111,116,97,108]⟩
noncomputable def xL:Str:=⟨#[119,105,100,116,104]⟩
noncomputable def j9:PV:=.dct [([97,108,112,104,97],.frz [pr 65 90,pr 97 122]),
 ([100,105,103,105,116],.frz [pr 48 57]),
 ([97,108,110,117,109],.frz [pr 48 57,pr 65 90,pr 97 122]),
 ([117,112,112,101,114],.frz [pr 65 90]),
 ([108,111,119,101,114],.frz [pr 97 122]),
 ([115,112,97,99,101],.frz [pr 9 13,pr 32 32]),
 ([112,117,110,99,116],.frz [pr 33 47,pr 58 64,pr 91 96,pr 123 126]),
 ([120,100,105,103,105,116],.frz [pr 48 57,pr 65 70,pr 97 102]),
 ([119,111,114,100],.frz [pr 48 57,pr 65 90,pr 95 95,pr 97 122]),
 ([99,110,116,114,108],.frz [pr 0 31,pr 127 127]),
 ([112,114,105,110,116],.frz [pr 32 126]),
 ([103,114,97,112,104],.frz [pr 33 126]),
 ([98,108,97,110,107],.frz [pr 9 9,pr 32 32])]
noncomputable def jg:PV:=.dct [([110],.str [10]),([116],.str [9]),([114],.str [13]),([102],.str [12]),([101],.str [27]),([97],.str [7])]
noncomputable def du:PV:=.dct [([42],pr 0 (-1)),([43],pr 1 (-1)),([63],pr 0 (1))]
noncomputable def Cp:PV:=.frz [.tup [.str [40,63,61],.bool false,.bool false],.tup [.str [40,63,33],.bool false,.bool true],.tup [.str [40,63,60,61],.bool true,.bool false],.tup [.str [40,63,60,33],.bool true,.bool true]]
noncomputable def qj:PV:=.frz [.tup [.str [40,63,60],.str [62]],.tup [.str [40,63,80,60],.str [62]],.tup [.str [40,63,39],.str [39]]]
noncomputable def jT:PV:=.tup [.str [115,105,103,110],.str [97,110,121],.str [115,101,116]]
noncomputable def uk:PV:=.str [32,9,10,13,12,11]
noncomputable def gq:PV:=.str [48,49,50,51,52,53,54,55]
noncomputable def iG:PV:=.str [48,49,50,51,52,53,54,55,56,57,97,98,99,100,101,102]
noncomputable def je:PV:=.str [100,68,119,87,115,83,104,72,118,86]
noncomputable def nF:PV:=.str [48,49,50,51,52,53,54,55,56,57]
noncomputable def cY:PV:=.str [105,109,115,120]
noncomputable def nq:PV:=.int 1114111
noncomputable def pF:PV:=.int 32766
noncomputable def kW:PV:=.int 40
noncomputable def iw:Str:=fk 0
noncomputable def mW:Str:=fk 1
noncomputable def dI:Str:=fk 2
noncomputable def dz:Str:=fk 3
noncomputable def gn:Str:=fk 4
noncomputable def Dx:PV:=.fn (fk 0)
noncomputable def Cv:PV:=.fn (fk 1)
noncomputable def FU:PV:=.fn (fk 2)
noncomputable def ea:PV:=.fn (fk 3)
noncomputable def lD:PV:=.fn (fk 4)
noncomputable def gL:PV:=.fn (fk 5)
noncomputable def kS:PV:=.fn (fk 6)
noncomputable def iI:PV:=.fn (fk 7)
noncomputable def ju:PV:=.fn (fk 8)
noncomputable def f9:PV:=.fn (fk 9)
noncomputable def kH:PV:=.fn (fk 10)
noncomputable def dt:PV:=.fn (fk 11)
noncomputable def se:PV:=.fn (fk 12)
noncomputable def dy:PV:=.fn (fk 13)
noncomputable def nN:PV:=.fn (fk 14)
noncomputable def eA:PV:=.fn (fk 15)
noncomputable def nJ:PV:=.fn (fk 16)
noncomputable def lt:PV:=.fn (fk 17)
noncomputable def gi:PV:=.fn (fk 18)
noncomputable def mX:PV:=.fn (fk 19)
noncomputable def pe:PV:=.fn (fk 20)
noncomputable def pn:PV:=.fn (fk 21)
noncomputable def m8:PV:=.fn (fk 22)
noncomputable def j5:PV:=.fn (fk 23)
noncomputable def iU:PV:=.fn (fk 24)
noncomputable def jN:PV:=.fn (fk 25)
noncomputable def jW:PV:=.fn (fk 26)
noncomputable def iW:PV:=.fn (fk 27)
noncomputable def oS:PV:=.fn (fk 28)
noncomputable def q8:PV:=.fn (fk 29)
noncomputable def hV:PV:=.fn (fk 30)
noncomputable def lF:PV:=.fn (fk 31)
noncomputable def nu:PV:=.fn (fk 32)
noncomputable def lO:PV:=.fn (fk 33)
noncomputable def ma:PV:=.fn (fk 34)
noncomputable def ff:PV:=.fn (fk 35)
noncomputable def rM:PV:=.fn (fk 36)
noncomputable def ip:PV:=.fn (fk 37)
noncomputable def dM:PV:=.fn (fk 38)
noncomputable def ik:PV:=.fn (fk 39)
noncomputable def fZ:PV:=.fn (fk 40)
noncomputable def k_:PV:=.fn (fk 41)
noncomputable def uO:PV:=.fn (fk 42)
noncomputable def sn:PV:=.fn (fk 43)
noncomputable def tv:PV:=.fn (fk 44)
noncomputable def qR:PV:=.fn (fk 45)
noncomputable def bY:PV:=.fn (fk 46)
noncomputable def hZ:PV:=.fn (fk 47)
noncomputable def me:PV:=.fn (fk 48)
noncomputable def gm:PV:=.fn (fk 49)
noncomputable def kh:PV:=.fn (fk 50)
noncomputable def tK:PV:=.fn (fk 51)
noncomputable def g_:PV:=.fn (fk 52)
noncomputable def oL:PV:=.fn (fk 53)
noncomputable def pq:PV:=.fn (fk 54)
noncomputable def n5:PV:=.fn (fk 55)
noncomputable def em:PV:=.fn (fk 56)
noncomputable def bL:PV:=.fn (fk 57)
noncomputable def gP:PV:=.fn (fk 58)
noncomputable def jV:PV:=.fn (fk 59)
noncomputable def gt:PV:=.fn (fk 60)
noncomputable def bP:PV:=.fn (fk 61)
noncomputable def mQ:PV:=.fn (fk 62)
noncomputable def gU:PV:=.fn (fk 63)
noncomputable def dr:PV:=.fn (fk 64)
noncomputable def dS:PV:=.fn (fk 65)
noncomputable def f7:PV:=.fn (fk 66)
noncomputable def gy:PV:=.fn (fk 67)
noncomputable def g9:PV:=.fn (fk 68)
noncomputable def ic:PV:=.fn (fk 69)
noncomputable def gu:PV:=.fn (fk 70)
noncomputable def mD:PV:=.fn (fk 71)
noncomputable def cD:PV:=.fn (fk 72)
noncomputable def eB:PV:=.fn (fk 73)
noncomputable def ug:PV:=.fn (fk 74)
noncomputable def kP:PV:=.fn (fk 75)
noncomputable def i7:PV:=.fn (fk 76)
noncomputable def BE:PV:=.fn (fk 77)
noncomputable def eP:PV:=.fn (fk 78)
noncomputable def g8:PV:=.fn (fk 79)
noncomputable def eQ:PV:=.fn (fk 80)
noncomputable def cp:PV:=.fn (fk 81)
noncomputable def dW:PV:=.fn (fk 82)
noncomputable def bQ:PV:=.fn (fk 83)
noncomputable def ec:PV:=.fn (fk 84)
noncomputable def eD:PV:=.fn (fk 85)
noncomputable def jL:PV:=.fn (fk 86)
noncomputable def ry:PV:=.fn (fk 87)
noncomputable def jB:PV:=.fn (fk 88)
noncomputable def cV:PV:=.fn (fk 89)
noncomputable def gv:PV:=.fn (fk 90)
noncomputable def dO:PV:=.fn (fk 91)
noncomputable def ft:PV:=.fn (fk 92)
noncomputable def fQ:PV:=.fn (fk 93)
noncomputable def gb:PV:=.fn (fk 94)
noncomputable def aV:PV:=.fn (fk 95)
noncomputable def cT:PV:=.fn (fk 96)
noncomputable def eo:PV:=.fn (fk 97)
noncomputable def aU:PV:=.fn (fk 98)
noncomputable def i0:PV:=.fn (fk 99)
noncomputable def gj:PV:=.fn (fk 100)
noncomputable def cX:PV:=.fn (fk 101)
noncomputable def dT:PV:=.fn (fk 102)
noncomputable def dp:PV:=.fn (fk 103)
noncomputable def bZ:PV:=.fn (fk 104)
noncomputable def Fw:PV:=.fn (fk 105)
inductive GT where
 | leaf
 | node (l:GT) (h:Nat) (x:Str) (v:PV) (r:GT)
noncomputable def JX (x:Str):Nat:=x.cps.toList.foldl (fun h c=>(h*31+c) % 1000003) 7
noncomputable def GT.find:GT→Nat→Str→Option PV
 | .leaf,_,_=>none
 | .node l h' y v r,h,x=>match Nat.beq h h' with
  | true=>match decide (y=x) with
   | true=>some v
   | false=>none
  | false=>match Nat.ble h h' with
   | true=>l.find h x
   | false=>r.find h x
noncomputable def C9:GT:=.node (.node (.node (.node (.node (.node (.node .leaf 10849 ⟨#[114,101,97,100,95,102,108,97,103,115]⟩ (g8) .leaf) 11723 ⟨#[95,108,97,119,95,115,112,101,108,116]⟩ (aU) (.node .leaf 22650 ⟨#[76,79,79,75,83]⟩ (Cp) .leaf)) 43514 ⟨#[97,100,100,95,110,111,100,101]⟩ (bY) (.node (.node .leaf 70287 ⟨#[80,97,116,116,101,114,110,84,101,120,116]⟩ (.cls gn) .leaf) 71449 ⟨#[95,108,97,119,95,100,114,97,119]⟩ (aV) (.node .leaf 97485 ⟨#[95,108,97,119,95,101,110,100,115]⟩ (bZ) .leaf))) 106550 ⟨#[117,110,100,111,95,101,110,116,114,121]⟩ (hV) (.node (.node (.node .leaf 108237 ⟨#[111,116,104,101,114,95,99,97,115,101]⟩ (gL) .leaf) 109973 ⟨#[79,78,69,95,83,73,71,78]⟩ (jT) (.node .leaf 115023 ⟨#[79,67,84,65,76,95,70,73,71,85,82,69,83]⟩ (gq) .leaf)) 126998 ⟨#[114,101,97,100,95,103,114,111,117,112]⟩ (jB) (.node (.node .leaf 172733 ⟨#[114,111,119,95,98,97,99,107]⟩ (pe) .leaf) 179976 ⟨#[114,111,119,95,119,111,114,100,115]⟩ (ff) (.node .leaf 196448 ⟨#[105,116,101,109,95,104,111,108,100,115]⟩ (ju) .leaf)))) 205605 ⟨#[114,101,97,100,95,99,111,110,116,114,111,108]⟩ (mQ) (.node (.node (.node (.node .leaf 207113 ⟨#[111,112,101,110,115,95,99,97,112,116,117,114,101]⟩ (gu) .leaf) 207574 ⟨#[80,114,111,103,114,97,109]⟩ (.cls dI) (.node .leaf 214255 ⟨#[97,100,100,95,114,101,112,101,97,116,115]⟩ (gm) .leaf)) 225705 ⟨#[114,101,97,100,95,101,115,99,97,112,101]⟩ (cV) (.node (.node .leaf 226588 ⟨#[66,76,65,78,75,83]⟩ (uk) .leaf) 229171 ⟨#[77,79,83,84,95,78,69,83,84,69,68]⟩ (kW) (.node .leaf 231186 ⟨#[116,97,107,101,95,109,111,114,101]⟩ (rM) .leaf))) 232152 ⟨#[99,111,109,112,105,108,101,95,112,97,116,116,101,114,110]⟩ (dO) (.node (.node (.node .leaf 239341 ⟨#[115,101,97,114,99,104,95,112,97,116,116,101,114,110]⟩ (fZ) .leaf) 248699 ⟨#[114,101,97,100,95,99,97,112,116,117,114,101]⟩ (jL) (.node .leaf 260666 ⟨#[105,116,101,109,115,95,104,111,108,100]⟩ (f9) .leaf)) 274730 ⟨#[114,111,119,95,114,101,116,117,114,110]⟩ (lO) (.node (.node .leaf 289025 ⟨#[95,108,97,119,95,114,111,117,110,100,115]⟩ (dp) .leaf) 307014 ⟨#[99,104,114]⟩ (.bi "chr") .leaf)))) 315451 ⟨#[108,97,119]⟩ (Fw) (.node (.node (.node (.node (.node .leaf 315566 ⟨#[108,101,110]⟩ (.bi "len") .leaf) 316413 ⟨#[109,97,120]⟩ (.bi "max") (.node .leaf 316651 ⟨#[109,105,110]⟩ (.bi "min") .leaf)) 318842 ⟨#[111,114,100]⟩ (.bi "ord") (.node (.node .leaf 322788 ⟨#[115,117,109]⟩ (.bi "sum") .leaf) 352770 ⟨#[114,101,97,100,95,112,111,115,105,120]⟩ (gU) (.node .leaf 366551 ⟨#[95,108,97,119,95,110,111,100,101]⟩ (cT) .leaf))) 367503 ⟨#[114,101,97,100,95,98,114,97,110,99,104]⟩ (dW) (.node (.node (.node .leaf 370613 ⟨#[114,111,119,95,97,116]⟩ (mX) .leaf) 380383 ⟨#[117,110,116,105,108,95,115,105,103,110]⟩ (gP) (.node .leaf 395350 ⟨#[95,108,97,119,95,111,110,99,101]⟩ (dT) .leaf)) 395426 ⟨#[95,108,97,119,95,111,110,101,115]⟩ (ft) (.node (.node .leaf 400119 ⟨#[114,101,97,100,95,105,110,108,105,110,101]⟩ (eQ) .leaf) 407908 ⟨#[114,101,97,100,95,97,116,111,109]⟩ (bQ) .leaf))) 430596 ⟨#[114,111,119,95,106,117,109,112]⟩ (j5) (.node (.node (.node (.node .leaf 436999 ⟨#[115,101,116,95,114,101,103,105,115,116,101,114]⟩ (dy) .leaf) 443326 ⟨#[119,105,100,116,104,95,111,102]⟩ (BE) (.node .leaf 448284 ⟨#[115,105,103,110,95,102,105,116,115]⟩ (dt) .leaf)) 448610 ⟨#[105,115,95,119,111,114,100,95,115,105,103,110]⟩ (ea) (.node (.node .leaf 456413 ⟨#[80,76,65,73,78,95,69,83,67,65,80,69,83]⟩ (jg) .leaf) 462028 ⟨#[77,97,116,99,104,82,117,110]⟩ (.cls iw) (.node .leaf 484256 ⟨#[109,97,116,99,104,95,97,116]⟩ (ik) .leaf))) 484474 ⟨#[114,111,119,95,108,111,111,112]⟩ (jW) (.node (.node (.node .leaf 491039 ⟨#[114,111,119,95,99,117,116]⟩ (q8) .leaf) 491194 ⟨#[67,76,65,83,83,95,76,69,84,84,69,82,83]⟩ (je) (.node .leaf 493092 ⟨#[114,101,97,100,95,99,111,117,110,116,101,100]⟩ (ec) .leaf)) 493927 ⟨#[95,108,97,119,95,116,97,107,101,115]⟩ (i0) (.node (.node .leaf 494610 ⟨#[112,97,114,115,101,95,112,97,116,116,101,114,110]⟩ (gv) .leaf) 499603 ⟨#[99,111,117,110,116,95,103,114,111,117,112,115]⟩ (g9) .leaf))))) 500899 ⟨#[114,111,119,95,109,97,114,107]⟩ (oS) (.node (.node (.node (.node (.node (.node .leaf 503192 ⟨#[105,115,95,111,110,101,95,115,105,103,110]⟩ (dS) .leaf) 505448 ⟨#[114,111,119,95,114,117,110]⟩ (lt) (.node .leaf 510085 ⟨#[114,111,119,95,115,112,108,105,116]⟩ (iU) .leaf)) 517980 ⟨#[115,107,105,112,95,117,110,115,101,101,110]⟩ (eP) (.node (.node .leaf 518945 ⟨#[82,111,119,77,97,107,101,114]⟩ (.cls dz) .leaf) 519204 ⟨#[109,97,116,99,104,95,102,114,111,109]⟩ (dM) (.node .leaf 545773 ⟨#[114,101,97,100,95,110,117,109,98,101,114,101,100,95,98,97,99,107]⟩ (i7) .leaf))) 551110 ⟨#[98,97,99,107,95,117,112]⟩ (ip) (.node (.node (.node .leaf 573371 ⟨#[97,100,100,95,98,114,97,110,99,104,101,115]⟩ (hZ) .leaf) 574496 ⟨#[114,111,119,95,111,112,101,110]⟩ (pn) (.node .leaf 595317 ⟨#[97,100,100,95,97,116,111,109,105,99]⟩ (me) .leaf)) 608062 ⟨#[114,111,119,95,97,103,97,105,110]⟩ (iW) (.node (.node .leaf 609595 ⟨#[114,111,119,95,112,108,97,99,101]⟩ (nu) .leaf) 617808 ⟨#[114,111,119,95,99,108,111,115,101]⟩ (m8) (.node .leaf 620312 ⟨#[80,79,83,73,88,95,82,65,78,71,69,83]⟩ (j9) .leaf)))) 627514 ⟨#[114,101,97,100,95,109,101,109,98,101,114]⟩ (dr) (.node (.node (.node (.node .leaf 637319 ⟨#[76,105,109,105,116,115]⟩ (.cls mW) .leaf) 644025 ⟨#[114,117,110,95,111,102]⟩ (em) (.node .leaf 649887 ⟨#[115,105,103,110,95,111,102,95,99,111,100,101]⟩ (jV) .leaf)) 653983 ⟨#[95,108,97,119,95,112,108,97,99,101,115]⟩ (gb) (.node (.node .leaf 660769 ⟨#[98,114,97,99,101,115,95,99,111,117,110,116]⟩ (cD) .leaf) 661965 ⟨#[114,101,97,100,95,114,97,110,103,101,95,101,110,100]⟩ (f7) (.node .leaf 664481 ⟨#[77,79,83,84,95,67,79,85,78,84]⟩ (pF) .leaf))) 683039 ⟨#[78,65,77,69,95,83,73,71,78,83]⟩ (qj) (.node (.node (.node .leaf 683258 ⟨#[114,97,110,103,101]⟩ (.ty "range") .leaf) 713320 ⟨#[114,111,119,95,116,101,115,116]⟩ (eA) (.node .leaf 727488 ⟨#[99,111,109,112,105,108,101,95,116,114,101,101]⟩ (g_) .leaf)) 730802 ⟨#[114,101,97,100,95,108,111,111,107]⟩ (ry) (.node (.node .leaf 741425 ⟨#[112,111,115,105,120,95,105,116,101,109,115]⟩ (iI) .leaf) 750754 ⟨#[114,101,97,100,95,112,108,97,105,110,95,101,115,99,97,112,101]⟩ (bP) .leaf)))) 766167 ⟨#[67,79,85,78,84,95,83,73,71,78,83]⟩ (du) (.node (.node (.node (.node (.node .leaf 767273 ⟨#[72,69,88,95,70,73,71,85,82,69,83]⟩ (iG) .leaf) 782479 ⟨#[105,110,95,99,108,97,115,115]⟩ (lD) (.node .leaf 822138 ⟨#[95,108,97,119,95,114,111,119]⟩ (eo) .leaf)) 822521 ⟨#[112,108,97,99,101,95,104,111,108,100,115]⟩ (gi) (.node (.node .leaf 840533 ⟨#[114,111,119,95,98,101,104,105,110,100]⟩ (ma) .leaf) 848056 ⟨#[105,115,95,110,97,109,101,95,116,101,120,116]⟩ (mD) (.node .leaf 853418 ⟨#[114,101,97,100,95,105,110,110,101,114]⟩ (eD) .leaf))) 853546 ⟨#[95,108,97,119,95,99,111,117,110,116,115]⟩ (fQ) (.node (.node (.node .leaf 857681 ⟨#[114,111,119,95,114,101,102,117,115,101]⟩ (lF) .leaf) 868705 ⟨#[114,101,97,100,95,115,101,116]⟩ (gy) (.node .leaf 888221 ⟨#[114,101,97,100,95,110,97,109,101,100,95,98,97,99,107]⟩ (kP) .leaf)) 892030 ⟨#[114,111,119,95,122,101,114,111]⟩ (jN) (.node (.node .leaf 897110 ⟨#[70,73,71,85,82,69,83]⟩ (nF) .leaf) 904295 ⟨#[114,101,97,100,95,97,108,116,101,114,110,97,116,105,111,110]⟩ (cp) .leaf))) 915762 ⟨#[70,76,65,71,95,76,69,84,84,69,82,83]⟩ (cY) (.node (.node (.node (.node .leaf 927097 ⟨#[115,97,109,101,95,115,105,103,110]⟩ (kS) .leaf) 927473 ⟨#[103,111,95,111,110]⟩ (nN) (.node .leaf 928202 ⟨#[95,108,97,119,95,105,115,95,119,111,114,100]⟩ (gj) .leaf)) 934843 ⟨#[116,97,107,101,95,99,111,117,110,116]⟩ (eB) (.node (.node .leaf 939865 ⟨#[95,108,97,119,95,115,116,97,110,100,115]⟩ (cX) .leaf) 942169 ⟨#[114,101,97,100,95,104,101,120,95,115,105,103,110]⟩ (gt) (.node .leaf 955456 ⟨#[114,117,110,95,101,110,100]⟩ (nJ) .leaf))) 981425 ⟨#[115,101,116,95,104,111,108,100,115]⟩ (kH) (.node (.node (.node .leaf 983174 ⟨#[98,101,104,105,110,100,95,115,101,116]⟩ (ic) .leaf) 984282 ⟨#[97,100,100,95,108,111,111,107]⟩ (tK) (.node .leaf 984287 ⟨#[97,100,100,95,108,111,111,112]⟩ (kh) .leaf)) 988641 ⟨#[77,79,83,84,95,67,79,68,69]⟩ (nq) (.node (.node .leaf 992189 ⟨#[110,117,109,98,101,114,95,111,102,95,114,117,110]⟩ (bL) .leaf) 995755 ⟨#[115,112,101,97,107,95,111,102]⟩ (ug) .leaf)))))
noncomputable def rL:gN:=⟨fk 12,[],[ga,cj,qt,gG,re,dZ,ba,fw,bx,aI,gg]⟩
noncomputable def vQ:gN:=⟨fk 41,[],[xL,fb,dZ,cj,xI]⟩
noncomputable def tM:gN:=⟨fk 42,[],[cA,bx,aI,iL]⟩
noncomputable def rO:gN:=⟨fk 43,[(ey,fk 44),(jr,fk 45)],[cA,aI]⟩
noncomputable def mI:gN:=⟨fk 53,[(dm,fk 54),(a_,fk 55)],[cj,qk,ba,bx,fb,iL,lz]⟩
noncomputable def tq:List Nat→Option gN
 | [0]=>some rL
 | [1]=>some vQ
 | [2]=>some tM
 | [3]=>some rO
 | [4]=>some mI
 | _=>none
noncomputable def JQ:List Nat→Option gA
 | [i]=>match Nat.blt i 106 with
  | true=>some (aB i)
  | false=>none
 | _=>none
noncomputable def af (L:Nat):lU where
 glob x:=C9.find (JX x) x
 fns x:=JQ x.cps.toList
 clss x:=tq x.cps.toList
 loops:=L
noncomputable def St:lU:=af 5000000
end
section
open PySem
noncomputable def eJ (l:List PV):M PV:=guard (Nat.ble l.length 100) (ret (.tup l))
noncomputable def ND:Stmt:=.Pass default
noncomputable def iN:Expr:=.Name default default
noncomputable def ge (l:List Stmt) (k:Nat):Stmt:=l.getD k ND
noncomputable def eK (s:Stmt):List Stmt:=s.casesOn (fun Z Z Z Z Z Z Z Z Z Z=>[]) (fun Z Z Z Z Z Z Z Z Z Z=>[]) (fun Z Z Z Z Z Z Z Z Z Z Z=>[]) (fun Z Z=>[]) (fun Z Z=>[]) (fun Z Z Z=>[]) (fun Z Z Z Z Z Z Z=>[]) (fun Z Z Z Z=>[]) (fun Z Z Z Z Z=>[]) (fun _ _ b _ _=>b) (fun Z Z Z Z Z=>[]) (fun _ b _ _=>b) (fun _ b _ _=>b) (fun Z Z Z=>[]) (fun Z Z Z=>[]) (fun Z Z Z=>[]) (fun Z Z Z=>[]) (fun Z Z Z Z Z=>[]) (fun Z Z Z Z Z=>[]) (fun Z Z Z=>[]) (fun Z Z=>[]) (fun Z Z Z Z=>[]) (fun Z Z=>[]) (fun Z Z=>[]) (fun Z Z=>[]) (fun Z=>[]) (fun Z=>[]) (fun Z=>[])
noncomputable def Ih (s:Stmt):List Stmt:=s.casesOn (fun Z Z Z Z Z Z Z Z Z Z=>[]) (fun Z Z Z Z Z Z Z Z Z Z=>[]) (fun Z Z Z Z Z Z Z Z Z Z Z=>[]) (fun Z Z=>[]) (fun Z Z=>[]) (fun Z Z Z=>[]) (fun Z Z Z Z Z Z Z=>[]) (fun Z Z Z Z=>[]) (fun Z Z Z Z Z=>[]) (fun Z Z Z Z Z=>[]) (fun Z Z Z Z Z=>[]) (fun Z Z Z Z=>[]) (fun _ _ b _=>b) (fun Z Z Z=>[]) (fun Z Z Z=>[]) (fun Z Z Z=>[]) (fun Z Z Z=>[]) (fun Z Z Z Z Z=>[]) (fun Z Z Z Z Z=>[]) (fun Z Z Z=>[]) (fun Z Z=>[]) (fun Z Z Z Z=>[]) (fun Z Z=>[]) (fun Z Z=>[]) (fun Z Z=>[]) (fun Z=>[]) (fun Z=>[]) (fun Z=>[])
noncomputable def nk (s:Stmt):Expr:=s.casesOn (fun Z Z Z Z Z Z Z Z Z Z=>iN) (fun Z Z Z Z Z Z Z Z Z Z=>iN) (fun Z Z Z Z Z Z Z Z Z Z Z=>iN) (fun Z Z=>iN) (fun Z Z=>iN) (fun Z Z Z=>iN) (fun Z Z Z Z Z Z Z=>iN) (fun Z Z Z Z=>iN) (fun Z Z Z Z Z=>iN) (fun Z Z Z Z Z=>iN) (fun Z Z Z Z Z=>iN) (fun t _ _ _=>t) (fun Z Z Z Z=>iN) (fun Z Z Z=>iN) (fun Z Z Z=>iN) (fun Z Z Z=>iN) (fun Z Z Z=>iN) (fun Z Z Z Z Z=>iN) (fun Z Z Z Z Z=>iN) (fun Z Z Z=>iN) (fun Z Z=>iN) (fun Z Z Z Z=>iN) (fun Z Z=>iN) (fun Z Z=>iN) (fun Z Z=>iN) (fun Z=>iN) (fun Z=>iN) (fun Z=>iN)
noncomputable def kO (s:Stmt):Expr:=s.casesOn (fun Z Z Z Z Z Z Z Z Z Z=>iN) (fun Z Z Z Z Z Z Z Z Z Z=>iN) (fun Z Z Z Z Z Z Z Z Z Z Z=>iN) (fun Z Z=>iN) (fun Z Z=>iN) (fun Z Z Z=>iN) (fun Z Z Z Z Z Z Z=>iN) (fun Z Z Z Z=>iN) (fun Z Z Z Z Z=>iN) (fun t _ _ _ _=>t) (fun Z Z Z Z Z=>iN) (fun Z Z Z Z=>iN) (fun Z Z Z Z=>iN) (fun Z Z Z=>iN) (fun Z Z Z=>iN) (fun Z Z Z=>iN) (fun Z Z Z=>iN) (fun Z Z Z Z Z=>iN) (fun Z Z Z Z Z=>iN) (fun Z Z Z=>iN) (fun Z Z=>iN) (fun Z Z Z Z=>iN) (fun Z Z=>iN) (fun Z Z=>iN) (fun Z Z=>iN) (fun Z=>iN) (fun Z=>iN) (fun Z=>iN)
noncomputable def eC:Str:=⟨#[105,116,101,109,115]⟩
noncomputable def g7:Str:=⟨#[115,105,103,110]⟩
noncomputable def m5:Str:=⟨#[105,116,101,109]⟩
noncomputable def da:Str:=⟨#[114,117,110]⟩
noncomputable def oW:Str:=⟨#[116,101,115,116]⟩
noncomputable def bv:Str:=⟨#[97,116]⟩
noncomputable def iB:Str:=⟨#[109,111,115,116]⟩
noncomputable def pk:Str:=⟨#[115,116,111,112]⟩
noncomputable def jA:Str:=⟨#[101,110,116,114,121]⟩
noncomputable def gc:Str:=⟨#[119,111,114,100,115]⟩
noncomputable def b9:Str:=⟨#[115,116,97,114,116]⟩
noncomputable def rP:Str:=⟨#[114,111,119]⟩
noncomputable def fp:Str:=⟨#[105,115,95,114,105,103,104,116]⟩
noncomputable def b0:Str:=⟨#[112,114,111,103,114,97,109]⟩
noncomputable def aD:Str:=⟨#[116,101,120,116]⟩
noncomputable def cC:Str:=⟨#[108,105,109,105,116,115]⟩
noncomputable def bq:Str:=⟨#[108,101,97,115,116,95,101,110,100]⟩
noncomputable def dD:Str:=⟨#[109,97,107,101,114]⟩
noncomputable def aJ:Str:=⟨#[110,111,100,101]⟩
noncomputable def ue:Str:=⟨#[119,111,114,100]⟩
noncomputable def bJ:Str:=⟨#[111,110,101]⟩
noncomputable def j1:Str:=⟨#[114,101,103,105,115,116,101,114]⟩
noncomputable def bH:Str:=⟨#[98,114,97,110,99,104,101,115]⟩
noncomputable def fV:Str:=⟨#[106,117,109,112,115]⟩
noncomputable def fL:Str:=⟨#[115,112,108,105,116]⟩
noncomputable def aK:Str:=⟨#[115,116,97,116,101]⟩
noncomputable def nV:Str:=⟨#[115,105,103,110,115]⟩
noncomputable def bl:Str:=⟨#[98,101,103,117,110]⟩
noncomputable def ri:Str:=⟨#[98,97,115,101]⟩
noncomputable def b_:Str:=⟨#[102,111,117,110,100]⟩
noncomputable def fh:Str:=⟨#[105,115,95,102,111,108,100,101,100]⟩
noncomputable def bB:Str:=⟨#[105,115,95,110,101,103,97,116,101,100]⟩
noncomputable def gx:Str:=⟨#[105,115,95,102,105,114,115,116]⟩
noncomputable def jS:Str:=⟨#[98,101,104,105,110,100]⟩
noncomputable def aw:Str:=⟨#[102,108,97,103,115]⟩
noncomputable def kB:Str:=⟨#[112,97,114,116,115]⟩
noncomputable def cr:Str:=⟨#[99,104,97,110,103,101,100]⟩
noncomputable def eE:Str:=⟨#[99,111,117,110,116]⟩
noncomputable def gz:Str:=⟨#[109,111,100,101]⟩
noncomputable def fM:Str:=⟨#[111,112,101,110,105,110,103]⟩
noncomputable def dL:Str:=⟨#[105,115,95,98,101,104,105,110,100]⟩
noncomputable def jy:Str:=⟨#[99,108,111,115,101]⟩
noncomputable def lG:Str:=⟨#[110,97,109,101]⟩
noncomputable def jD:Str:=⟨#[110,117,109,98,101,114,115]⟩
noncomputable def na:Str:=⟨#[100,111,110,101]⟩
noncomputable def nh:Str:=⟨#[108,97,115,116]⟩
noncomputable def ng:Str:=⟨#[109,111,114,101]⟩
noncomputable def dY:Str:=⟨#[101,110,100]⟩
noncomputable def b8:Str:=⟨#[101,110,100,115]⟩
noncomputable def dh:Str:=⟨#[108,97,116,101,114]⟩
noncomputable def dP:Str:=⟨#[115,99,114,105,112,116]⟩
noncomputable def kA:Str:=⟨#[112,101,110]⟩
noncomputable def gS:Str:=⟨#[99,111,100,101]⟩
noncomputable def Cw:Str:=⟨#[107]⟩
noncomputable def eZ:Str:=⟨#[98,101,103,105,110]⟩
noncomputable def kN:Str:=⟨#[100,117,101]⟩
end
section
open PySem
section
set_option genSizeOf false
inductive U
 | v | b | c | i | l | u
@[reducible] noncomputable def El:U→Type
 | .v=>PV
 | .b=>Bool
 | .c=>Ke
 | .i=>It
 | .l=>List PV
 | .u=>Unit
inductive Tx:Type→Type 1
 | ret {α:Type} (a:α):Tx α
 | bnd {α β:Type} (m:Tx α) (f:α→Tx β):Tx β
 | br {α:Type} (c:Bool) (x y:Tx α):Tx α
 | stop {α:Type}:Tx α
 | unT {α:Type} (v:PV) (f:List PV→Tx α):Tx α
 | unC {α:Type} (l:List PV) (f:PV→List PV→Tx α):Tx α
 | unN {α:Type} (l:List PV) (m:Tx α):Tx α
 | act (u:U) (m:M (El u)):Tx (El u)
inductive mP
 | k
 | a {u:U} {m:M (El u)} {σ:ah} {r:El u} {σ':ah} (h:m σ=some (r,σ'))
 | q {c:Bool} (b:Bool) (h:c=b)
 | e {u:U} {m:M (El u)} {σ:ah} {r:Option (El u × ah)} (h:m σ=r)
inductive Rq
 | a (u:U) (m:M (El u)) (σ:ah)
 | q (c:Bool)
inductive wh (α:Type)
 | none
 | some (a:α) (σ:ah) (o:List mP) (p:List (Rq × Rq))
 | fin (r:Option (α × ah)) (p:List (Rq × Rq))
end
@[reducible] noncomputable def Tx.v (m:M PV):Tx PV:=.act .v m
@[reducible] noncomputable def Tx.b (m:M Bool):Tx Bool:=.act .b m
@[reducible] noncomputable def Tx.c (m:M Ke):Tx Ke:=.act .c m
@[reducible] noncomputable def Tx.i (m:M It):Tx It:=.act .i m
@[reducible] noncomputable def Tx.l (m:M (List PV)):Tx (List PV):=.act .l m
@[reducible] noncomputable def Tx.u (m:M Unit):Tx Unit:=.act .u m
section
@[reducible] noncomputable def Tx.run {α:Type} (t:Tx α):M α:=Tx.rec (motive:=fun α _=>M α) (fun a=>Mine.ret a) (fun _ _ m f=>Mine.bnd m f) (fun q _ _ x y=>Mine.br q x y) Mine.stop
 (fun x _ f=>Mine.unT x f) (fun x _ f=>Mine.unC x f) (fun x _ m=>Mine.unN x m) (fun _ m=>m) t
noncomputable def G0 (l:List mP):List (Rq × Rq):=l.rec [] fun x _ r=>x.rec r (fun {u m σ _ _} _=>(.a u m σ,.a u m σ)::r) (fun {c} _ _=>(.q c,.q c)::r) fun {u m σ _} _=>(.a u m σ,.a u m σ)::r
noncomputable def wh.put {α:Type} (p:List (Rq × Rq)) (r:wh α):wh α:=r.rec .none (fun a σ o q=>.some a σ o (p++q)) fun r q=>.fin r (p++q)
noncomputable def wh.of {α:Type} (o:List mP) (x:Option (α × ah)):wh α:=x.rec .none fun y=>y.rec fun a σ=>.some a σ o []
noncomputable def wh.thn {α β:Type} (r:wh α) (f:α→ah→List mP→wh β):wh β:=r.rec .none (fun a σ o p=>.put p (f a σ o)) fun Z Z=>.none
noncomputable def KY (w u:U):Option (PLift (w=u)):=match w,u with
 | .v,.v=>some ⟨rfl⟩
 | .b,.b=>some ⟨rfl⟩
 | .c,.c=>some ⟨rfl⟩
 | .i,.i=>some ⟨rfl⟩
 | .l,.l=>some ⟨rfl⟩
 | .u,.u=>some ⟨rfl⟩
 | _,_=>none
noncomputable def ask (u:U) (m:M (El u)) (σ:ah) (l:List mP):wh (El u):=l.rec .none fun x o _=>x.rec (.of o (m σ))
 (fun {w m' τ r σ'} _=>(KY w u).rec .none fun h=>.some (h.1 ▸ r) σ' o [(.a u m σ,.a w m' τ)]) (fun Z Z=>.none) fun {w m' τ r} _=>(KY w u).rec .none fun h=>.fin (h.1 ▸ r) [(.a u m σ,.a w m' τ)]
noncomputable def ask2 {α:Type} (c:Bool) (x y:List mP→wh α) (l:List mP):wh α:=l.rec .none fun z o _=>z.rec (c.rec (y o) (x o))
 (fun Z=>.none) (fun {c'} b _=>.put [(.q c,.q c')] (b.rec (y o) (x o))) fun Z=>.none
noncomputable def Tx.go {α:Type} (t:Tx α):ah→List mP→wh α:=Tx.rec (motive:=fun α _=>ah→List mP→wh α) (fun a σ o=>.some a σ o []) (fun _ _ m f σ o=>(m σ o).thn f) (fun q _ _ x y σ=>ask2 q (x σ) (y σ)) (fun Z Z=>.none)
 (fun x _ f σ o=>match x with
  | .tup z=>f z σ o
  | _=>.none)
 (fun x _ f σ o=>x.rec .none fun y r _=>f y r σ o)
 (fun x _ m σ o=>x.rec (m σ o) fun Z Z Z=>.none) ask t
noncomputable def um:List (Rq × Rq)→Prop
 | []=>True
 | x::p=>x.1=x.2∧um p
theorem um.split {q}:∀ {p},um (p++q)→um p∧um q
 | [],h=>⟨trivial,h⟩
 | _::_,h=>⟨⟨h.1,(um.split h.2).1⟩,(um.split h.2).2⟩
noncomputable def jt {α:Type} (x:Option (α × ah)):wh α→Prop
 | .none=>True
 | .some a σ _ p=>um p→x=some (a,σ)
 | .fin r p=>um p→x=r
theorem jt.put {α:Type} {x:Option (α × ah)} {p}:∀ {r:wh α},(um p→jt x r)→jt x (.put p r)
 | .none,_=>trivial
 | .some ..,h=>fun s=>h s.split.1 s.split.2
 | .fin ..,h=>fun s=>h s.split.1 s.split.2
theorem jt.thn {α β:Type} {x:Option (α × ah)} {f:α→M β} {g:α→ah→List mP→wh β} (h:∀ a σ o,jt (f a σ) (g a σ o)):∀ {r:wh α},jt x r→jt (match x with | some (a,σ)=>f a σ | none=>none) (r.thn g)
 | .none,_=>trivial
 | .some ..,hx=>jt.put fun s=>hx s ▸ h _ _ _
 | .fin ..,_=>trivial
theorem jt.ask {u:U} {m:M (El u)} {σ:ah}:∀ {o:List mP},jt (m σ) (ask u m σ o)
 | []=>trivial
 | .k::o=>by
  show jt _ (wh.of o (m σ))
  cases m σ with
  | none=>trivial
  | some y=>exact fun Z=>rfl
 | .q _ _::_=>trivial
 | .a (u:=w) (m:=m') h::o=>by
  show jt _ ((KY w u).rec _ _)
  cases KY w u with
  | none=>trivial
  | some e =>
   obtain ⟨rfl⟩:=e
   exact fun s=>by cases s.1; exact h
 | .e (u:=w) (m:=m') h::o=>by
  show jt _ ((KY w u).rec _ _)
  cases KY w u with
  | none=>trivial
  | some e =>
   obtain ⟨rfl⟩:=e
   exact fun s=>by cases s.1; exact h
theorem jt.ask2 {α:Type} {c:Bool} {m n:M α} {σ:ah} {x y:List mP→wh α} (h:∀ o,jt (m σ) (x o)) (h':∀ o,jt (n σ) (y o)):∀ {o:List mP},jt (Mine.br c m n σ) (ask2 c x y o)
 | []=>trivial
 | .a _::_=>trivial
 | .e _::_=>trivial
 | .k::o=>by
  cases c with
  | true=>exact h o
  | false=>exact h' o
 | .q b hb::o=>jt.put fun s=>by
  cases s.1
  subst hb
  cases c with
  | true=>exact h o
  | false=>exact h' o
theorem Jl {α:Type} (t:Tx α):∀ σ o,jt (t.run σ) (t.go σ o):=by
 induction t with
 | ret a=>exact fun Z Z Z=>rfl
 | bnd m f h1 h2=>exact fun Z Z=>jt.thn (f:=fun a=>(f a).run) h2 (h1 _ _)
 | br q x y h1 h2=>exact fun Z Z=>jt.ask2 (h1 _) (h2 _)
 | stop=>exact fun Z Z=>trivial
 | unT x f h =>
  cases x with
  | tup z=>exact h z
  | _=>exact fun Z Z=>trivial
 | unC x f h =>
  cases x with
  | nil=>exact fun Z Z=>trivial
  | cons y r=>exact h y r
 | unN x m h =>
  cases x with
  | nil=>exact h
  | cons y r=>exact fun Z Z=>trivial
 | act u m=>exact fun Z Z=>jt.ask
theorem jC:∀ o,um (G0 o)
 | []=>trivial
 | .k::o=>jC o
 | .a _::o=>⟨rfl,jC o⟩
 | .q _ _::o=>⟨rfl,jC o⟩
 | .e _::o=>⟨rfl,jC o⟩
noncomputable def KC {α:Type} (t:Tx α) (σ:ah) (K:α→ah→Type):Type:=List mP
@[irreducible] noncomputable def Hi {α:Type} (t:Tx α) (σ:ah) (K:α→ah→Type):Type:=List mP
@[irreducible] noncomputable def Fn (u:U) (r:Option (El u × ah)):Type:=List mP
noncomputable def KH {α:Type} (x:Option (α × ah)) (K:α→ah→Type):Type:=x.rec Empty fun y=>y.rec K
noncomputable def BH (c:Bool) (x y:Type):Type:=c.rec y x
theorem ar {α:Type} {m:M α} {t:Tx α} {σ:ah} {a:α} {σ':ah} (e:m=t.run) (o:KC t σ fun Z Z=>List mP) (h:t.go σ o=.some a σ' [] (G0 o)):m σ=some (a,σ') :=
 e ▸ (h ▸ Jl t σ o:jt _ (.some a σ' [] (G0 o))) (jC o)
theorem ig {u:U} {m:M (El u)} {t:Tx (El u)} {σ:ah} {r:Option (El u × ah)} (e:m=t.run) (o:KC t σ fun Z Z=>Fn u r) (h:t.go σ o=.fin r (G0 o)):m σ=r :=
 e ▸ (h ▸ Jl t σ o:jt _ (.fin r (G0 o))) (jC o)
theorem bp {T:cP→M Bool} {B:cP→Kn→Kn→Kn→M PV} {K:Kn} {N:Nat} {ρ:cP} {t:Tx Bool} {b k:Tx PV} (hT:T ρ=t.run) (hB:B ρ (bc T B K N) K (bc T B K N)=b.run) (hK:K ρ=k.run) :
  bc T B K (N+1) ρ=(Tx.bnd t fun c=>.br c b k).run:=by
 show bnd (T ρ) _=bnd t.run fun c=>Mine.br c b.run k.run
 rw [hT,← hB,← hK]; rfl
theorem ly {B:PV→cP→Kn→Kn→Kn→M PV} {K:Kn} {N:Nat} {ρ:cP}:cJ B K (N+1) (.items []) ρ=K ρ:=rfl
theorem vf {B:PV→cP→Kn→Kn→Kn→M PV} {K:Kn} {N:Nat} {ρ:cP} {v:PV} {r:List PV}:cJ B K (N+1) (.items (v::r)) ρ=B v ρ (cJ B K N (.items r)) K (cJ B K N (.items r)):=rfl
end
end
section
open PySem
noncomputable def fy (L N:Nat):PV→cP→Kn→Kn→Kn→M PV:=fun v ρ n b c=>dx (aB 9).scope ρ (kO (ge (aB 9).body 0)) v fun ρ'=>cS (af L) (aa (af L) N) 98 (aB 9).scope ρ' (eK (ge (aB 9).body 0)) n b c ret
noncomputable def gT (L N:Nat):Kn:=(fun ρ=>cS (af L) (aa (af L) N) 99 (aB 9).scope ρ (List.drop 1 (aB 9).body) (fun Z=>ret .none) (fun Z=>stop) (fun Z=>stop) ret)
noncomputable def kD (L N:Nat):cP→M Bool:=fun ρ=>E6 (af L) (aa (af L) N) 97 (aB 16).scope ρ (nk (ge (aB 16).body 1))
noncomputable def kR (L N:Nat):cP→Kn→Kn→Kn→M PV:=fun ρ n b c=>cS (af L) (aa (af L) N) 97 (aB 16).scope ρ (eK (ge (aB 16).body 1)) n b c ret
noncomputable def kE (L N:Nat):Kn:=(fun ρ=>cS (af L) (aa (af L) N) 98 (aB 16).scope ρ (List.drop 2 (aB 16).body) (fun Z=>ret .none) (fun Z=>stop) (fun Z=>stop) ret)
noncomputable def iQ (L N:Nat):cP→M Bool:=fun ρ=>E6 (af L) (aa (af L) N) 98 (aB 37).scope ρ (nk (ge (aB 37).body 0))
noncomputable def i8 (L N:Nat):cP→Kn→Kn→Kn→M PV:=fun ρ n b c=>cS (af L) (aa (af L) N) 98 (aB 37).scope ρ (eK (ge (aB 37).body 0)) n b c ret
noncomputable def iX (L N:Nat):Kn:=(fun ρ=>cS (af L) (aa (af L) N) 99 (aB 37).scope ρ (List.drop 1 (aB 37).body) (fun Z=>ret .none) (fun Z=>stop) (fun Z=>stop) ret)
noncomputable def gX (L N:Nat):cP→M Bool:=fun ρ=>E6 (af L) (aa (af L) N) 93 (aB 38).scope ρ (nk (ge (aB 38).body 5))
noncomputable def gJ (L N:Nat):cP→Kn→Kn→Kn→M PV:=fun ρ n b c=>cS (af L) (aa (af L) N) 93 (aB 38).scope ρ (eK (ge (aB 38).body 5)) n b c ret
noncomputable def h_ (L N:Nat):Kn:=(fun ρ=>cS (af L) (aa (af L) N) 94 (aB 38).scope ρ (List.drop 6 (aB 38).body) (fun Z=>ret .none) (fun Z=>stop) (fun Z=>stop) ret)
noncomputable def eF (L N:Nat):PV→cP→Kn→Kn→Kn→M PV:=fun v ρ n b c=>dx (aB 40).scope ρ (kO (ge (aB 40).body 2)) v fun ρ'=>cS (af L) (aa (af L) N) 96 (aB 40).scope ρ' (eK (ge (aB 40).body 2)) n b c ret
noncomputable def gB (L N:Nat):Kn:=(fun ρ=>cS (af L) (aa (af L) N) 97 (aB 40).scope ρ (List.drop 3 (aB 40).body) (fun Z=>ret .none) (fun Z=>stop) (fun Z=>stop) ret)
end
section
open PySem
noncomputable def lA (L N:Nat):PV→cP→Kn→Kn→Kn→M PV:=fun v ρ n b c=>dx (aB 46).scope ρ (kO (ge (eK (ge (Ih (ge (aB 46).body 1)) 0)) 0)) v fun ρ'=>cS (af L) (aa (af L) N) 93 (aB 46).scope ρ' (eK (ge (eK (ge (Ih (ge (aB 46).body 1)) 0)) 0)) n b c ret
noncomputable def lW (L N:Nat):Kn:=(fun ρ=>cS (af L) (aa (af L) N) 94 (aB 46).scope ρ (List.drop 1 (eK (ge (Ih (ge (aB 46).body 1)) 0))) (fun ρ=>cS (af L) (aa (af L) N) 96 (aB 46).scope ρ (List.drop 1 (Ih (ge (aB 46).body 1))) (fun ρ=>cS (af L) (aa (af L) N) 98 (aB 46).scope ρ (List.drop 2 (aB 46).body) (fun Z=>ret .none) (fun Z=>stop) (fun Z=>stop) ret) (fun Z=>stop) (fun Z=>stop) ret) (fun Z=>stop) (fun Z=>stop) ret)
noncomputable def fW (L N:Nat):PV→cP→Kn→Kn→Kn→M PV:=fun v ρ n b c=>dx (aB 47).scope ρ (kO (ge (aB 47).body 3)) v fun ρ'=>cS (af L) (aa (af L) N) 95 (aB 47).scope ρ' (eK (ge (aB 47).body 3)) n b c ret
noncomputable def fU (L N:Nat):Kn:=(fun ρ=>cS (af L) (aa (af L) N) 96 (aB 47).scope ρ (List.drop 4 (aB 47).body) (fun Z=>ret .none) (fun Z=>stop) (fun Z=>stop) ret)
noncomputable def fY (L N:Nat):PV→cP→Kn→Kn→Kn→M PV:=fun v ρ n b c=>dx (aB 47).scope ρ (kO (ge (aB 47).body 1)) v fun ρ'=>cS (af L) (aa (af L) N) 97 (aB 47).scope ρ' (eK (ge (aB 47).body 1)) n b c ret
noncomputable def ei (L N:Nat):Kn:=(fun ρ=>cS (af L) (aa (af L) N) 98 (aB 47).scope ρ (List.drop 2 (aB 47).body) (fun Z=>ret .none) (fun Z=>stop) (fun Z=>stop) ret)
noncomputable def py (L N:Nat):cP→M Bool:=fun ρ=>E6 (af L) (aa (af L) N) 97 (aB 56).scope ρ (nk (ge (aB 56).body 1))
noncomputable def oZ (L N:Nat):cP→Kn→Kn→Kn→M PV:=fun ρ n b c=>cS (af L) (aa (af L) N) 97 (aB 56).scope ρ (eK (ge (aB 56).body 1)) n b c ret
noncomputable def oJ (L N:Nat):Kn:=(fun ρ=>cS (af L) (aa (af L) N) 98 (aB 56).scope ρ (List.drop 2 (aB 56).body) (fun Z=>ret .none) (fun Z=>stop) (fun Z=>stop) ret)
noncomputable def e7 (L N:Nat):PV→cP→Kn→Kn→Kn→M PV:=fun v ρ n b c=>dx (aB 57).scope ρ (kO (ge (aB 57).body 1)) v fun ρ'=>cS (af L) (aa (af L) N) 97 (aB 57).scope ρ' (eK (ge (aB 57).body 1)) n b c ret
noncomputable def eX (L N:Nat):Kn:=(fun ρ=>cS (af L) (aa (af L) N) 98 (aB 57).scope ρ (List.drop 2 (aB 57).body) (fun Z=>ret .none) (fun Z=>stop) (fun Z=>stop) ret)
noncomputable def lT (L N:Nat):cP→M Bool:=fun ρ=>E6 (af L) (aa (af L) N) 93 (aB 67).scope ρ (nk (ge (aB 67).body 5))
noncomputable def mh (L N:Nat):cP→Kn→Kn→Kn→M PV:=fun ρ n b c=>cS (af L) (aa (af L) N) 93 (aB 67).scope ρ (eK (ge (aB 67).body 5)) n b c ret
noncomputable def lL (L N:Nat):Kn:=(fun ρ=>cS (af L) (aa (af L) N) 94 (aB 67).scope ρ (List.drop 6 (aB 67).body) (fun Z=>ret .none) (fun Z=>stop) (fun Z=>stop) ret)
noncomputable def ct (L N:Nat):cP→M Bool:=fun ρ=>E6 (af L) (aa (af L) N) 96 (aB 68).scope ρ (nk (ge (aB 68).body 2))
noncomputable def cw (L N:Nat):cP→Kn→Kn→Kn→M PV:=fun ρ n b c=>cS (af L) (aa (af L) N) 96 (aB 68).scope ρ (eK (ge (aB 68).body 2)) n b c ret
noncomputable def cu (L N:Nat):Kn:=(fun ρ=>cS (af L) (aa (af L) N) 97 (aB 68).scope ρ (List.drop 3 (aB 68).body) (fun Z=>ret .none) (fun Z=>stop) (fun Z=>stop) ret)
noncomputable def bO (L N:Nat):cP→M Bool:=fun ρ=>E6 (af L) (aa (af L) N) 95 (aB 69).scope ρ (nk (ge (aB 69).body 3))
noncomputable def bN (L N:Nat):cP→Kn→Kn→Kn→M PV:=fun ρ n b c=>cS (af L) (aa (af L) N) 95 (aB 69).scope ρ (eK (ge (aB 69).body 3)) n b c ret
noncomputable def bM (L N:Nat):Kn:=(fun ρ=>cS (af L) (aa (af L) N) 96 (aB 69).scope ρ (List.drop 4 (aB 69).body) (fun Z=>ret .none) (fun Z=>stop) (fun Z=>stop) ret)
noncomputable def fB (L N:Nat):cP→M Bool:=fun ρ=>E6 (af L) (aa (af L) N) 97 (aB 81).scope ρ (nk (ge (aB 81).body 1))
noncomputable def fx (L N:Nat):cP→Kn→Kn→Kn→M PV:=fun ρ n b c=>cS (af L) (aa (af L) N) 97 (aB 81).scope ρ (eK (ge (aB 81).body 1)) n b c ret
noncomputable def fG (L N:Nat):Kn:=(fun ρ=>cS (af L) (aa (af L) N) 98 (aB 81).scope ρ (List.drop 2 (aB 81).body) (fun Z=>ret .none) (fun Z=>stop) (fun Z=>stop) ret)
noncomputable def jd (L N:Nat):cP→M Bool:=fun ρ=>E6 (af L) (aa (af L) N) 97 (aB 82).scope ρ (nk (ge (aB 82).body 1))
noncomputable def ja (L N:Nat):cP→Kn→Kn→Kn→M PV:=fun ρ n b c=>cS (af L) (aa (af L) N) 97 (aB 82).scope ρ (eK (ge (aB 82).body 1)) n b c ret
noncomputable def jh (L N:Nat):Kn:=(fun ρ=>cS (af L) (aa (af L) N) 98 (aB 82).scope ρ (List.drop 2 (aB 82).body) (fun Z=>ret .none) (fun Z=>stop) (fun Z=>stop) ret)
noncomputable def ef (L N:Nat):cP→M Bool:=fun ρ=>E6 (af L) (aa (af L) N) 93 (aB 84).scope ρ (nk (ge (aB 84).body 5))
noncomputable def ed (L N:Nat):cP→Kn→Kn→Kn→M PV:=fun ρ n b c=>cS (af L) (aa (af L) N) 93 (aB 84).scope ρ (eK (ge (aB 84).body 5)) n b c ret
noncomputable def eg (L N:Nat):Kn:=(fun ρ=>cS (af L) (aa (af L) N) 94 (aB 84).scope ρ (List.drop 6 (aB 84).body) (fun Z=>ret .none) (fun Z=>stop) (fun Z=>stop) ret)
noncomputable def fT (L N:Nat):cP→M Bool:=fun ρ=>E6 (af L) (aa (af L) N) 98 (aB 84).scope ρ (nk (ge (aB 84).body 0))
noncomputable def fX (L N:Nat):cP→Kn→Kn→Kn→M PV:=fun ρ n b c=>cS (af L) (aa (af L) N) 98 (aB 84).scope ρ (eK (ge (aB 84).body 0)) n b c ret
noncomputable def f0 (L N:Nat):Kn:=(fun ρ=>cS (af L) (aa (af L) N) 99 (aB 84).scope ρ (List.drop 1 (aB 84).body) (fun Z=>ret .none) (fun Z=>stop) (fun Z=>stop) ret)
noncomputable def fA (L N:Nat):PV→cP→Kn→Kn→Kn→M PV:=fun v ρ n b c=>dx (aB 88).scope ρ (kO (ge (aB 88).body 3)) v fun ρ'=>cS (af L) (aa (af L) N) 95 (aB 88).scope ρ' (eK (ge (aB 88).body 3)) n b c ret
noncomputable def el (L N:Nat):Kn:=(fun ρ=>cS (af L) (aa (af L) N) 96 (aB 88).scope ρ (List.drop 4 (aB 88).body) (fun Z=>ret .none) (fun Z=>stop) (fun Z=>stop) ret)
noncomputable def fr (L N:Nat):PV→cP→Kn→Kn→Kn→M PV:=fun v ρ n b c=>dx (aB 88).scope ρ (kO (ge (aB 88).body 1)) v fun ρ'=>cS (af L) (aa (af L) N) 97 (aB 88).scope ρ' (eK (ge (aB 88).body 1)) n b c ret
noncomputable def d_ (L N:Nat):Kn:=(fun ρ=>cS (af L) (aa (af L) N) 98 (aB 88).scope ρ (List.drop 2 (aB 88).body) (fun Z=>ret .none) (fun Z=>stop) (fun Z=>stop) ret)
noncomputable def hY (L N:Nat):PV→cP→Kn→Kn→Kn→M PV:=fun v ρ n b c=>dx (aB 90).scope ρ (kO (ge (aB 90).body 3)) v fun ρ'=>cS (af L) (aa (af L) N) 95 (aB 90).scope ρ' (eK (ge (aB 90).body 3)) n b c ret
noncomputable def dQ (L N:Nat):Kn:=(fun ρ=>cS (af L) (aa (af L) N) 96 (aB 90).scope ρ (List.drop 4 (aB 90).body) (fun Z=>ret .none) (fun Z=>stop) (fun Z=>stop) ret)
end
section
open PySem
theorem zB (L N:Nat):aa (af L) (N+1) ft []=(ret (.frz [(.tup [(.str [97]),(.str [97]),(.bool false),(.bool true)]),(.tup [(.str [98]),(.str [98]),(.bool false),(.bool true)]),(.tup [(.str [65]),(.str [65]),(.bool false),(.bool true)]),(.tup [(.str [46]),(.str [10]),(.bool true),(.bool false)]),(.tup [(.str [92,100]),(.str [49]),(.bool false),(.bool false)]),(.tup [(.str [92,119]),(.str [97,98,65,66,49,95]),(.bool false),(.bool false)]),(.tup [(.str [91,97,98,93]),(.str [97,98]),(.bool false),(.bool true)]),(.tup [(.str [92,110]),(.str [10]),(.bool false),(.bool true)]),(.tup [(.str [91,94,97,66,93]),(.str [97,66]),(.bool true),(.bool true)]),(.tup [(.str [91,65,45,66,97,93]),(.str [65,66,97]),(.bool false),(.bool true)]),(.tup [(.str [91,92,100,95,45,93]),(.str [49,95,45]),(.bool false),(.bool true)]),(.tup [(.str [92,115]),(.str [32,10]),(.bool false),(.bool false)]),(.tup [(.str [91,94,92,115,93]),(.str [32,10]),(.bool true),(.bool true)]),(.tup [(.str [92,120,54,49]),(.str [97]),(.bool false),(.bool true)]),(.tup [(.str [91,91,58,117,112,112,101,114,58,93,93]),(.str [65,66]),(.bool false),(.bool true)]),(.tup [(.str [92,49,48,49]),(.str [65]),(.bool false),(.bool true)]),(.tup [(.str [92,87]),(.str [97,98,65,66,49,95]),(.bool true),(.bool false)]),(.tup [(.str [49]),(.str [49]),(.bool false),(.bool true)]),(.tup [(.str [92,83]),(.str [32,10]),(.bool true),(.bool false)]),(.tup [(.str [91,93,98,93]),(.str [98]),(.bool false),(.bool true)])])):=by kernel_rfl
theorem vD (L N:Nat):aa (af L) (N+1) fQ []=(ret (.frz [(.tup [(.int 0),(.int (-1)),(.str [42])]),(.tup [(.int 1),(.int (-1)),(.str [43])]),(.tup [(.int 0),(.int 1),(.str [63])]),(.tup [(.int 2),(.int 2),(.str [123,50,125])]),(.tup [(.int 1),(.int 2),(.str [123,49,44,50,125])]),(.tup [(.int 0),(.int 2),(.str [123,48,44,50,125])]),(.tup [(.int 1),(.int (-1)),(.str [123,49,44,125])])])):=by kernel_rfl
theorem uR (L N:Nat):aa (af L) (N+1) gb []=(ret (.frz [(.str [94]),(.str [36]),(.str [92,65]),(.str [92,122]),(.str [92,90]),(.str [92,98]),(.str [92,66])])):=by kernel_rfl
noncomputable def hG (L N:Nat):PV→cP→Kn→Kn→Kn→M PV:=fun v ρ n b c=>dx (aB 103).scope ρ (kO (ge (eK (ge (aB 103).body 1)) 0)) v fun ρ'=>cS (af L) (aa (af L) N) 95 (aB 103).scope ρ' (eK (ge (eK (ge (aB 103).body 1)) 0)) n b c ret
noncomputable def fE (L N:Nat):Kn:=(fun ρ=>cS (af L) (aa (af L) N) 96 (aB 103).scope ρ (List.drop 1 (eK (ge (aB 103).body 1))) (fun ρ=>cS (af L) (aa (af L) N) 98 (aB 103).scope ρ (List.drop 2 (aB 103).body) (fun Z=>ret .none) (fun Z=>stop) (fun Z=>stop) ret) (fun Z=>stop) (fun Z=>stop) ret)
noncomputable def jx (L N:Nat):PV→cP→Kn→Kn→Kn→M PV:=fun v ρ n b c=>dx (aB 104).scope ρ (kO (ge (eK (ge (eK (ge (aB 104).body 4)) 0)) 1)) v fun ρ'=>cS (af L) (aa (af L) N) 89 (aB 104).scope ρ' (eK (ge (eK (ge (eK (ge (aB 104).body 4)) 0)) 1)) n b c ret
noncomputable def fP (L N:Nat) (kn kb kc:Kn):Kn:=(fun ρ=>cS (af L) (aa (af L) N) 90 (aB 104).scope ρ (List.drop 2 (eK (ge (eK (ge (aB 104).body 4)) 0))) (fun ρ=>cS (af L) (aa (af L) N) 93 (aB 104).scope ρ (List.drop 1 (eK (ge (aB 104).body 4))) kn kb kc ret) kb kc ret)
noncomputable def cW (L N:Nat):PV→cP→Kn→Kn→Kn→M PV:=fun v ρ n b c=>dx (aB 104).scope ρ (kO (ge (aB 104).body 4)) v fun ρ'=>cS (af L) (aa (af L) N) 94 (aB 104).scope ρ' (eK (ge (aB 104).body 4)) n b c ret
noncomputable def cE (L N:Nat):Kn:=(fun ρ=>cS (af L) (aa (af L) N) 95 (aB 104).scope ρ (List.drop 5 (aB 104).body) (fun Z=>ret .none) (fun Z=>stop) (fun Z=>stop) ret)
noncomputable def s7 (L N:Nat):PV→cP→Kn→Kn→Kn→M PV:=fun v ρ n b c=>dx (aB 105).scope ρ (kO (ge (aB 105).body 11)) v fun ρ'=>cS (af L) (aa (af L) N) 87 (aB 105).scope ρ' (eK (ge (aB 105).body 11)) n b c ret
noncomputable def xY (L N:Nat):Kn:=(fun ρ=>cS (af L) (aa (af L) N) 88 (aB 105).scope ρ (List.drop 12 (aB 105).body) (fun Z=>ret .none) (fun Z=>stop) (fun Z=>stop) ret)
noncomputable def p0 (L N:Nat):PV→cP→Kn→Kn→Kn→M PV:=fun v ρ n b c=>dx (aB 105).scope ρ (kO (ge (aB 105).body 4)) v fun ρ'=>cS (af L) (aa (af L) N) 94 (aB 105).scope ρ' (eK (ge (aB 105).body 4)) n b c ret
noncomputable def lP (L N:Nat):Kn:=(fun ρ=>cS (af L) (aa (af L) N) 95 (aB 105).scope ρ (List.drop 5 (aB 105).body) (fun Z=>ret .none) (fun Z=>stop) (fun Z=>stop) ret)
end
section
open PySem
@[reducible] noncomputable def uP (L N:Nat) (aE:PV):Tx PV:=(.bnd (.bnd (.bnd (.bnd (.b (aj .LtE (.str [97]) aE)) fun t3=>.br t3 (.b (aj .LtE aE (.str [122]))) (.ret false)) fun c2=>.ret (.bool c2)) fun a4=>(.bnd (.b (aH a4)) fun t1=>.br t1 (.ret a4) (.bnd (.bnd (.bnd (.b (aj .LtE (.str [65]) aE)) fun t7=>.br t7 (.b (aj .LtE aE (.str [90]))) (.ret false)) fun c6=>.ret (.bool c6)) fun a8=>(.bnd (.b (aH a8)) fun t5=>.br t5 (.ret a8) (.bnd (.bnd (.bnd (.b (aj .LtE (.str [48]) aE)) fun t11=>.br t11 (.b (aj .LtE aE (.str [57]))) (.ret false)) fun c10=>.ret (.bool c10)) fun a12=>(.bnd (.b (aH a12)) fun t9=>.br t9 (.ret a12) (.bnd (.b (aj .Eq aE (.str [95]))) fun c13=>.ret (.bool c13)))))))) .ret)
theorem jb (L N:Nat) (aE:PV):aa (af L) (N+1) ea [aE]=(uP L N aE).run:=by kernel_rfl
@[reducible] noncomputable def A8 (L N:Nat) (cf aE:PV):Tx PV:=(.bnd (.b (aj .Eq cf (.str [78]))) fun c1=>.br c1
 (.bnd (.bnd (.b (aj .NotEq aE (.str [10]))) fun c2=>.ret (.bool c2)) .ret)
 (.bnd (.bnd (.b (aj .Eq cf (.str [100]))) fun t4=>.br t4 (.ret true) (.bnd (.b (aj .Eq cf (.str [68]))) fun t5=>.br t5 (.ret true) (.ret false))) fun c3=>.br c3
 (.bnd (.bnd (.bnd (.b (aj .LtE (.str [48]) aE)) fun t7=>.br t7 (.b (aj .LtE aE (.str [57]))) (.ret false)) fun c6=>.ret (.bool c6)) fun found_8=>(.bnd (.bnd (.bnd (.bnd (.bnd (.b (aj .LtE (.str [65]) cf)) fun t11=>.br t11 (.b (aj .LtE cf (.str [90]))) (.ret false)) fun c10=>.ret (.bool c10)) fun b12=>(.b (aj .NotEq found_8 b12))) fun c9=>.ret (.bool c9)) .ret))
 (.bnd (.bnd (.b (aj .Eq cf (.str [119]))) fun t14=>.br t14 (.ret true) (.bnd (.b (aj .Eq cf (.str [87]))) fun t15=>.br t15 (.ret true) (.ret false))) fun c13=>.br c13
 (.bnd (.v (aa (af L) N ea [aE])) fun found_16=>(.bnd (.bnd (.bnd (.bnd (.bnd (.b (aj .LtE (.str [65]) cf)) fun t19=>.br t19 (.b (aj .LtE cf (.str [90]))) (.ret false)) fun c18=>.ret (.bool c18)) fun b20=>(.b (aj .NotEq found_16 b20))) fun c17=>.ret (.bool c17)) .ret))
 (.bnd (.bnd (.b (aj .Eq cf (.str [115]))) fun t22=>.br t22 (.ret true) (.bnd (.b (aj .Eq cf (.str [83]))) fun t23=>.br t23 (.ret true) (.ret false))) fun c21=>.br c21
 (.bnd (.bnd (.b (aj .In aE uk)) fun c24=>.ret (.bool c24)) fun found_25=>(.bnd (.bnd (.bnd (.bnd (.bnd (.b (aj .LtE (.str [65]) cf)) fun t28=>.br t28 (.b (aj .LtE cf (.str [90]))) (.ret false)) fun c27=>.ret (.bool c27)) fun b29=>(.b (aj .NotEq found_25 b29))) fun c26=>.ret (.bool c26)) .ret))
 (.bnd (.bnd (.b (aj .Eq cf (.str [104]))) fun t31=>.br t31 (.ret true) (.bnd (.b (aj .Eq cf (.str [72]))) fun t32=>.br t32 (.ret true) (.ret false))) fun c30=>.br c30
 (.bnd (.bnd (.bnd (.b (aj .Eq aE (.str [32]))) fun c34=>.ret (.bool c34)) fun a35=>(.bnd (.b (aH a35)) fun t33=>.br t33 (.ret a35) (.bnd (.b (aj .Eq aE (.str [9]))) fun c36=>.ret (.bool c36)))) fun found_37=>(.bnd (.bnd (.bnd (.bnd (.bnd (.b (aj .LtE (.str [65]) cf)) fun t40=>.br t40 (.b (aj .LtE cf (.str [90]))) (.ret false)) fun c39=>.ret (.bool c39)) fun b41=>(.b (aj .NotEq found_37 b41))) fun c38=>.ret (.bool c38)) .ret))
 (.bnd (.bnd (.bnd (.b (aj .LtE (.str [10]) aE)) fun t43=>.br t43 (.b (aj .LtE aE (.str [13]))) (.ret false)) fun c42=>.ret (.bool c42)) fun found_44=>(.bnd (.bnd (.bnd (.bnd (.bnd (.b (aj .LtE (.str [65]) cf)) fun t47=>.br t47 (.b (aj .LtE cf (.str [90]))) (.ret false)) fun c46=>.ret (.bool c46)) fun b48=>(.b (aj .NotEq found_44 b48))) fun c45=>.ret (.bool c45)) .ret)))))))
theorem i_ (L N:Nat) (cf aE:PV):aa (af L) (N+1) lD [cf,aE]=(A8 L N cf aE).run:=by kernel_rfl
@[reducible] noncomputable def wV (L N:Nat) (aE:PV):Tx PV:=(.bnd (.bnd (.b (aj .LtE (.str [97]) aE)) fun t2=>.br t2 (.b (aj .LtE aE (.str [122]))) (.ret false)) fun c1=>.br c1
 (.bnd (.bnd (.bnd (.bnd (.v (oG [aE])) fun a3=>(.v (aZ .Sub a3 (.int 32)))) fun a4=>.ret ([a4])) fun l5=>(.v (rS l5))) .ret)
 (.bnd (.bnd (.b (aj .LtE (.str [65]) aE)) fun t7=>.br t7 (.b (aj .LtE aE (.str [90]))) (.ret false)) fun c6=>.br c6
 (.bnd (.bnd (.bnd (.bnd (.v (oG [aE])) fun a8=>(.v (aZ .Add a8 (.int 32)))) fun a9=>.ret ([a9])) fun l10=>(.v (rS l10))) .ret)
 (.ret aE)))
theorem iF (L N:Nat) (aE:PV):aa (af L) (N+1) gL [aE]=(wV L N aE).run:=by kernel_rfl
@[reducible] noncomputable def Af (L N:Nat) (eL qf aN:PV):Tx PV:=(.bnd (.bnd (.bnd (.b (aj .Eq eL qf)) fun c2=>.ret (.bool c2)) fun a3=>(.bnd (.b (aH a3)) fun t1=>.br t1 (.ret a3) (.bnd (.b (aH aN)) fun t4=>.br t4 (.bnd (.bnd (.v (aa (af L) N gL [qf])) fun b6=>(.b (aj .Eq eL b6))) fun c5=>.ret (.bool c5)) (.ret aN)))) .ret)
theorem w_ (L N:Nat) (eL qf aN:PV):aa (af L) (N+1) kS [eL,qf,aN]=(Af L N eL qf aN).run:=by kernel_rfl
@[reducible] noncomputable def vn (L N:Nat) (ye:PV):Tx PV:=(.bnd (.bnd (.bnd (.c (bw (af L) j9 Cg)) fun k1=>(.v (aW (aa (af L) N) j9 Cg [ye,(.frz [])] k1))) fun a2=>(.bnd (.i (ce a2)) fun it3=>.bnd (.l (compLoop (fun w4=>Tx.run ((.unT w4 fun l6=>(.unC l6 fun low_7 l8=>(.unC l8 fun high_9 l10=>(.unN l10 (.ret (some (.tup [(.str [114,97,110,103,101]),low_7,high_9]))))))))) L it3)) fun l5=>.v (hM l5))) .ret)
theorem tW (L N:Nat) (ye:PV):aa (af L) (N+1) iI [ye]=(vn L N ye).run:=by kernel_rfl
@[reducible] noncomputable def wS (L N:Nat) (lI aE:PV):Tx PV:=(.bnd (.bnd (.v (ao lI (.int 0))) fun a2=>(.b (aj .Eq a2 (.str [114,97,110,103,101])))) fun c1=>.br c1
 (.bnd (.bnd (.v (ao lI (.int 1))) fun a4=>(.bnd (.bnd (.v (oG [aE])) fun b5=>(.bnd (.b (aj .LtE a4 b5)) fun t6=>.br t6 (.bnd (.v (ao lI (.int 2))) fun b7=>(.b (aj .LtE b5 b7))) (.ret false))) fun c3=>.ret (.bool c3))) .ret)
 (.bnd (.bnd (.v (ao lI (.int 0))) fun a9=>(.b (aj .Eq a9 (.str [99,108,97,115,115])))) fun c8=>.br c8
 (.bnd (.bnd (.bnd (.v (ao lI (.int 1))) fun a10=>.ret ([a10,aE])) fun l11=>(.v (aa (af L) N lD l11))) .ret)
 (.bnd (.bnd (.bnd (.bnd (.v (ao lI (.int 1))) fun a12=>.ret ([a12,aE])) fun l13=>(.v (aa (af L) N f9 l13))) fun a14=>(.v (M1 .Not a14))) .ret)))
theorem oz (L N:Nat) (lI aE:PV):aa (af L) (N+1) ju [lI,aE]=(wS L N lI aE).run:=by kernel_rfl
@[reducible] noncomputable def sK (L N:Nat) (w:PV) (kn kb kc:Kn) (aP aE:PV) (o_item:Option PV):Tx PV:=(.bnd (.bnd (.v (aa (af L) N ju [w,aE])) fun a2=>(.b (aH a2))) fun c1=>.br c1
 (.ret (.bool true))
 (.v (kn [(eC,some aP),(g7,some aE),(m5,some w)])))
theorem kJ (L N:Nat) (w:PV) (kn kb kc:Kn) (aP aE:PV) (o_item:Option PV):fy L N w [(eC,some aP),(g7,some aE),(m5,o_item)] kn kb kc=(sK L N w kn kb kc aP aE o_item).run:=by kernel_rfl
@[reducible] noncomputable def sE (L N:Nat) (aP aE:PV) (o_item:Option PV):Tx PV:=(.ret (.bool false))
theorem kC (L N:Nat) (aP aE:PV) (o_item:Option PV):gT L N [(eC,some aP),(g7,some aE),(m5,o_item)]=(sE L N aP aE o_item).run:=by kernel_rfl
@[reducible] noncomputable def wM (L N:Nat) (aP aE:PV):Tx PV:=(.bnd (.i (ce aP)) fun it3=>.v (cJ (fy L N) (gT L N) L it3 [(eC,some aP),(g7,some aE),(m5,none)]))
theorem oE (L N:Nat) (aP aE:PV):aa (af L) (N+1) f9 [aP,aE]=(wM L N aP aE).run:=by kernel_rfl
@[reducible] noncomputable def zQ (L N:Nat) (aP bb aN aE:PV):Tx PV:=(.bnd (.v (aa (af L) N f9 [aP,aE])) fun found_1=>(.bnd (.bnd (.b (aH aN)) fun t3=>.br t3 (.bnd (.bnd (.b (aH found_1)) fun c5=>.ret (!c5)) fun t4=>.br t4 (.ret true) (.ret false)) (.ret false)) fun c2=>.br c2
 (.bnd (.bnd (.bnd (.bnd (.v (aa (af L) N gL [aE])) fun a6=>.ret ([a6])) fun l7=>.ret (aP::l7)) fun l8=>(.v (aa (af L) N f9 l8))) fun found_9=>(.bnd (.bnd (.b (aj .NotEq found_9 bb)) fun c10=>.ret (.bool c10)) .ret))
 (.bnd (.bnd (.b (aj .NotEq found_1 bb)) fun c11=>.ret (.bool c11)) .ret)))
theorem xP (L N:Nat) (aP bb aN aE:PV):aa (af L) (N+1) kH [aP,bb,aN,aE]=(zQ L N aP bb aN aE).run:=by kernel_rfl
@[reducible] noncomputable def yR (L N:Nat) (cB aE:PV):Tx PV:=(.bnd (.bnd (.v (ao cB (.int 0))) fun a2=>(.b (aj .Eq a2 (.str [115,105,103,110])))) fun c1=>.br c1
 (.bnd (.bnd (.bnd (.bnd (.v (ao cB (.int 1))) fun a3=>.bnd (.bnd (.v (ao cB (.int 2))) fun a4=>.ret ([a4])) fun l5=>.ret (a3::l5)) fun l6=>.ret (aE::l6)) fun l7=>(.v (aa (af L) N kS l7))) .ret)
 (.bnd (.bnd (.v (ao cB (.int 0))) fun a9=>(.b (aj .Eq a9 (.str [97,110,121])))) fun c8=>.br c8
 (.bnd (.bnd (.v (ao cB (.int 1))) fun a11=>(.bnd (.b (aH a11)) fun t10=>.br t10 (.ret a11) (.bnd (.b (aj .NotEq aE (.str [10]))) fun c12=>.ret (.bool c12)))) .ret)
 (.bnd (.bnd (.bnd (.v (ao cB (.int 1))) fun a13=>.bnd (.bnd (.v (ao cB (.int 2))) fun a14=>.bnd (.bnd (.v (ao cB (.int 3))) fun a15=>.ret ([a15,aE])) fun l16=>.ret (a14::l16)) fun l17=>.ret (a13::l17)) fun l18=>(.v (aa (af L) N kH l18))) .ret)))
theorem mi (L N:Nat) (cB aE:PV):aa (af L) (N+1) dt [cB,aE]=(yR L N cB aE).run:=by kernel_rfl
@[reducible] noncomputable def ss (L N:Nat) (aG aR ai d7 aC bf:PV):Tx PV:=(.bnd (.u (am (af L) aG ga aR)) fun Z=>(.bnd (.u (am (af L) aG cj ai)) fun Z=>(.bnd (.u (am (af L) aG qt d7)) fun Z=>(.bnd (.u (am (af L) aG gG aC)) fun Z=>(.bnd (.u (am (af L) aG re bf)) fun Z=>(.bnd (.u (am (af L) aG dZ (.int 0))) fun Z=>(.bnd (.u (am (af L) aG ba d7)) fun Z=>(.bnd (.u (am (af L) aG fw (.int 0))) fun Z=>(.bnd (.v (bT (.lst []))) fun v_1=>(.bnd (.u (am (af L) aG bx v_1)) fun Z=>(.bnd (.v (bT (.lst []))) fun v_2=>(.bnd (.u (am (af L) aG aI v_2)) fun Z=>(.bnd (.v (bT (.lst []))) fun v_3=>(.bnd (.u (am (af L) aG gg v_3)) fun Z=>(.ret .none)))))))))))))))
theorem qW (L N:Nat) (aG aR ai d7 aC bf:PV):aa (af L) (N+1) se [aG,aR,ai,d7,aC,bf]=(ss L N aG aR ai d7 aC bf).run:=by kernel_rfl
@[reducible] noncomputable def tt (L N:Nat) (ak KV sQ:PV):Tx PV:=(.bnd (.bnd (.v (aq (af L) ak gg)) fun a1=>(.bnd (.c (bw (af L) a1 aY)) fun k2=>(.bnd (.bnd (.bnd (.bnd (.bnd (.bnd (.bnd (.v (aq (af L) ak aI)) fun a3=>(.v (ao a3 KV))) fun a4=>.ret ([a4])) fun l5=>.ret (KV::l5)) fun l6=>.ret ((.str [114,101,103,105,115,116,101,114])::l6)) fun l7=>.v (eJ l7)) fun a8=>.ret ([a8])) fun l9=>(.v (aW (aa (af L) N) a1 aY l9 k2))))) fun _u10=>(.bnd (.v (aq (af L) ak aI)) fun ov11=>(.bnd (.u (cb ov11 KV sQ)) fun Z=>(.ret .none))))
theorem r8 (L N:Nat) (ak KV sQ:PV):aa (af L) (N+1) dy [ak,KV,sQ]=(tt L N ak KV sQ).run:=by kernel_rfl
@[reducible] noncomputable def IF (L N:Nat) (ak:PV):Tx PV:=(.bnd (.v (aq (af L) ak fw)) fun old1=>(.bnd (.v (dF .Add old1 (.int 1))) fun w2=>.bnd (.u (am (af L) ak fw w2)) fun Z=>(.ret (.bool true))))
theorem F1 (L N:Nat) (ak:PV):aa (af L) (N+1) nN [ak]=(IF L N ak).run:=by kernel_rfl
@[reducible] noncomputable def Bj (L N:Nat) (ak bR:PV):Tx PV:=(.bnd (.bnd (.bnd (.v (aq (af L) ak ba)) fun a3=>(.bnd (.bnd (.bnd (.v (aq (af L) ak cj)) fun a4=>.ret ([a4])) fun l5=>(.v (bU l5))) fun b6=>(.b (aj .GtE a3 b6)))) fun t2=>.br t2 (.ret true) (.bnd (.bnd (.bnd (.bnd (.bnd (.bnd (.bnd (.v (aq (af L) ak cj)) fun a9=>(.bnd (.v (aq (af L) ak ba)) fun i10=>(.v (ao a9 i10)))) fun a11=>.ret ([a11])) fun l12=>.ret (bR::l12)) fun l13=>(.v (aa (af L) N dt l13))) fun a14=>(.b (aH a14))) fun c8=>.ret (!c8)) fun t7=>.br t7 (.ret true) (.ret false))) fun c1=>.br c1
 (.ret (.bool false))
 (.bnd (.v (aq (af L) ak ba)) fun old15=>(.bnd (.v (dF .Add old15 (.int 1))) fun w16=>.bnd (.u (am (af L) ak ba w16)) fun Z=>(.bnd (.v (aa (af L) N nN [ak])) .ret))))
theorem mU (L N:Nat) (ak bR:PV):aa (af L) (N+1) eA [ak,bR]=(Bj L N ak bR).run:=by kernel_rfl
@[reducible] noncomputable def wW (L N:Nat) (ak cB aF bf iC:PV):Tx Bool:=(.bnd (.b (aj .Lt aF iC)) fun t11=>.br t11 (.bnd (.bnd (.bnd (.bnd (.bnd (.bnd (.v (aq (af L) ak cj)) fun a13=>(.v (ao a13 aF))) fun a14=>.ret ([a14])) fun l15=>.ret (cB::l15)) fun l16=>(.v (aa (af L) N dt l16))) fun a17=>(.b (aH a17))) fun t12=>.br t12 (.ret true) (.ret false)) (.ret false))
theorem hH (L N:Nat) (ak cB aF bf iC:PV):kD L N [(da,some ak),(oW,some cB),(bv,some aF),(iB,some bf),(pk,some iC)]=(wW L N ak cB aF bf iC).run:=by kernel_rfl
@[reducible] noncomputable def wx (L N:Nat) (kn kb kc:Kn) (ak cB aF bf iC:PV):Tx PV:=(.bnd (.v (dF .Add aF (.int 1))) fun at_18=>(.v (kn [(da,some ak),(oW,some cB),(bv,some at_18),(iB,some bf),(pk,some iC)])))
theorem gW (L N:Nat) (kn kb kc:Kn) (ak cB aF bf iC:PV):kR L N [(da,some ak),(oW,some cB),(bv,some aF),(iB,some bf),(pk,some iC)] kn kb kc=(wx L N kn kb kc ak cB aF bf iC).run:=by kernel_rfl
@[reducible] noncomputable def wC (L N:Nat) (ak cB aF bf iC:PV):Tx PV:=(.ret aF)
theorem g6 (L N:Nat) (ak cB aF bf iC:PV):kE L N [(da,some ak),(oW,some cB),(bv,some aF),(iB,some bf),(pk,some iC)]=(wC L N ak cB aF bf iC).run:=by kernel_rfl
@[reducible] noncomputable def Dk (L N:Nat) (ak cB aF bf:PV):Tx PV:=(.bnd (.bnd (.b (aj .Lt bf (.int 0))) fun c1=>.br c1 (.bnd (.bnd (.v (aq (af L) ak cj)) fun a2=>.ret ([a2])) fun l3=>(.v (bU l3))) (.bnd (.bnd (.bnd (.bnd (.v (aq (af L) ak cj)) fun a4=>.ret ([a4])) fun l5=>(.v (bU l5))) fun a6=>.bnd (.bnd (.v (aZ .Add aF bf)) fun a7=>.ret ([a7])) fun l8=>.ret (a6::l8)) fun l9=>(.v (y_ l9)))) fun stop_10=>(.v (bc (kD L N) (kR L N) (kE L N) L [(da,some ak),(oW,some cB),(bv,some aF),(iB,some bf),(pk,some stop_10)])))
theorem tY (L N:Nat) (ak cB aF bf:PV):aa (af L) (N+1) nJ [ak,cB,aF,bf]=(Dk L N ak cB aF bf).run:=by kernel_rfl
@[reducible] noncomputable def DQ (L N:Nat) (ak bR:PV):Tx PV:=(.unT bR fun l1=>(.unC l1 fun word_2 l3=>(.unC l3 fun test_4 l5=>(.unC l5 fun least_6 l7=>(.unC l7 fun most_8 l9=>(.unC l9 fun is_lazy_10 l11=>(.unN l11 (.bnd (.bnd (.v (aq (af L) ak ba)) fun a12=>(.v (aZ .Add a12 least_6))) fun low_13=>(.bnd (.bnd (.bnd (.bnd (.bnd (.v (aq (af L) ak ba)) fun a14=>.bnd (.bnd (.bnd (.b (aH is_lazy_10)) fun c15=>.br c15 (.ret least_6) (.ret most_8)) fun a16=>.ret ([a16])) fun l17=>.ret (a14::l17)) fun l18=>.ret (test_4::l18)) fun l19=>.ret (ak::l19)) fun l20=>(.v (aa (af L) N nJ l20))) fun end_21=>(.bnd (.b (aj .Lt end_21 low_13)) fun c22=>.br c22
 (.ret (.bool false))
 (.bnd (.v (aq (af L) ak fw)) fun old23=>(.bnd (.v (dF .Add old23 (.int 1))) fun w24=>.bnd (.u (am (af L) ak fw w24)) fun Z=>(.bnd (.bnd (.b (aH is_lazy_10)) fun t26=>.br t26 (.bnd (.b (aj .NotEq most_8 least_6)) fun t27=>.br t27 (.ret true) (.ret false)) (.ret false)) fun c25=>.br c25
 (.bnd (.bnd (.v (aq (af L) ak gg)) fun a28=>(.bnd (.c (bw (af L) a28 aY)) fun k29=>(.bnd (.bnd (.bnd (.bnd (.bnd (.v (aq (af L) ak fw)) fun a30=>.bnd (.bnd (.bnd (.bnd (.bnd (.b (aj .Lt most_8 (.int 0))) fun c31=>.br c31 (.ret (.int (-1))) (.v (aZ .Sub most_8 least_6))) fun a32=>.ret ([a32])) fun l33=>.ret (end_21::l33)) fun l34=>.ret (test_4::l34)) fun l35=>.ret (a30::l35)) fun l36=>.ret ((.str [109,111,114,101])::l36)) fun l37=>.v (eJ l37)) fun a38=>.ret ([a38])) fun l39=>(.v (aW (aa (af L) N) a28 aY l39 k29))))) fun _u40=>(.bnd (.u (am (af L) ak ba end_21)) fun Z=>(.ret (.bool true))))
 (.bnd (.b (aj .Gt end_21 low_13)) fun c41=>.br c41
 (.bnd (.bnd (.v (aq (af L) ak gg)) fun a42=>(.bnd (.c (bw (af L) a42 aY)) fun k43=>(.bnd (.bnd (.bnd (.bnd (.bnd (.v (aq (af L) ak fw)) fun a44=>.ret ([a44,low_13,end_21])) fun l45=>.ret ((.str [108,101,115,115])::l45)) fun l46=>.v (eJ l46)) fun a47=>.ret ([a47])) fun l48=>(.v (aW (aa (af L) N) a42 aY l48 k43))))) fun _u49=>(.bnd (.u (am (af L) ak ba end_21)) fun Z=>(.ret (.bool true))))
 (.bnd (.u (am (af L) ak ba end_21)) fun Z=>(.ret (.bool true)))))))))))))))))
theorem ph (L N:Nat) (ak bR:PV):aa (af L) (N+1) lt [ak,bR]=(DQ L N ak bR).run:=by kernel_rfl
@[reducible] noncomputable def vk (L N:Nat) (ak bW:PV):Tx PV:=(.bnd (.v (aq (af L) ak ba)) fun at_1=>(.bnd (.v (aq (af L) ak cj)) fun text_2=>(.bnd (.b (aj .Eq bW (.str [65]))) fun c3=>.br c3
 (.bnd (.bnd (.b (aj .Eq at_1 (.int 0))) fun c4=>.ret (.bool c4)) .ret)
 (.bnd (.b (aj .Eq bW (.str [122]))) fun c5=>.br c5
 (.bnd (.bnd (.bnd (.v (bU [text_2])) fun b7=>(.b (aj .Eq at_1 b7))) fun c6=>.ret (.bool c6)) .ret)
 (.bnd (.b (aj .Eq bW (.str [90]))) fun c8=>.br c8
 (.bnd (.bnd (.bnd (.bnd (.v (bU [text_2])) fun b11=>(.b (aj .Eq at_1 b11))) fun c10=>.ret (.bool c10)) fun a12=>(.bnd (.b (aH a12)) fun t9=>.br t9 (.ret a12) (.bnd (.bnd (.bnd (.bnd (.v (bU [text_2])) fun a15=>(.v (aZ .Sub a15 (.int 1)))) fun b16=>(.b (aj .Eq at_1 b16))) fun c14=>.ret (.bool c14)) fun a17=>(.bnd (.b (aH a17)) fun t13=>.br t13 (.bnd (.v (ao text_2 at_1)) fun a19=>(.bnd (.b (aj .Eq a19 (.str [10]))) fun c18=>.ret (.bool c18))) (.ret a17))))) .ret)
 (.bnd (.b (aj .Eq bW (.str [94,109]))) fun c20=>.br c20
 (.bnd (.bnd (.bnd (.b (aj .Eq at_1 (.int 0))) fun c22=>.ret (.bool c22)) fun a23=>(.bnd (.b (aH a23)) fun t21=>.br t21 (.ret a23) (.bnd (.bnd (.bnd (.v (bU [text_2])) fun b26=>(.b (aj .Lt at_1 b26))) fun c25=>.ret (.bool c25)) fun a27=>(.bnd (.b (aH a27)) fun t24=>.br t24 (.bnd (.bnd (.v (aZ .Sub at_1 (.int 1))) fun i29=>(.v (ao text_2 i29))) fun a30=>(.bnd (.b (aj .Eq a30 (.str [10]))) fun c28=>.ret (.bool c28))) (.ret a27))))) .ret)
 (.bnd (.b (aj .Eq bW (.str [36,109]))) fun c31=>.br c31
 (.bnd (.bnd (.bnd (.bnd (.v (bU [text_2])) fun b34=>(.b (aj .Eq at_1 b34))) fun c33=>.ret (.bool c33)) fun a35=>(.bnd (.b (aH a35)) fun t32=>.br t32 (.ret a35) (.bnd (.v (ao text_2 at_1)) fun a37=>(.bnd (.b (aj .Eq a37 (.str [10]))) fun c36=>.ret (.bool c36))))) .ret)
 (.bnd (.b (aj .Eq bW (.str [71]))) fun c38=>.br c38
 (.bnd (.bnd (.bnd (.v (aq (af L) ak qt)) fun b40=>(.b (aj .Eq at_1 b40))) fun c39=>.ret (.bool c39)) .ret)
 (.bnd (.bnd (.bnd (.bnd (.v (bU [text_2])) fun b43=>(.b (aj .Lt at_1 b43))) fun c42=>.ret (.bool c42)) fun a44=>(.bnd (.b (aH a44)) fun t41=>.br t41 (.bnd (.bnd (.v (ao text_2 at_1)) fun a45=>.ret ([a45])) fun l46=>(.v (aa (af L) N ea l46))) (.ret a44))) fun is_word_ahead_47=>(.bnd (.bnd (.bnd (.bnd (.bnd (.b (aj .Gt at_1 (.int 0))) fun c50=>.ret (.bool c50)) fun a51=>(.bnd (.b (aH a51)) fun t49=>.br t49 (.bnd (.bnd (.bnd (.v (aZ .Sub at_1 (.int 1))) fun i52=>(.v (ao text_2 i52))) fun a53=>.ret ([a53])) fun l54=>(.v (aa (af L) N ea l54))) (.ret a51))) fun b55=>(.b (aj .NotEq is_word_ahead_47 b55))) fun c48=>.ret (.bool c48)) fun is_edge_56=>(.bnd (.bnd (.bnd (.bnd (.b (aj .Eq bW (.str [98]))) fun c58=>.ret (.bool c58)) fun b59=>(.b (aj .Eq is_edge_56 b59))) fun c57=>.ret (.bool c57)) .ret)))))))))))
theorem bE (L N:Nat) (ak bW:PV):aa (af L) (N+1) gi [ak,bW]=(vk L N ak bW).run:=by kernel_rfl
@[reducible] noncomputable def Fj (L N:Nat) (ak bR:PV):Tx PV:=(.bnd (.bnd (.bnd (.bnd (.bnd (.v (ao bR (.int 1))) fun a2=>.ret ([a2])) fun l3=>.ret (ak::l3)) fun l4=>(.v (aa (af L) N gi l4))) fun a5=>(.bnd (.b (aH a5)) fun t1=>.br t1 (.v (aa (af L) N nN [ak])) (.ret a5))) .ret)
theorem v6 (L N:Nat) (ak bR:PV):aa (af L) (N+1) mX [ak,bR]=(Fj L N ak bR).run:=by kernel_rfl
@[reducible] noncomputable def B5 (L N:Nat) (ak bR:PV):Tx PV:=(.bnd (.v (ao bR (.int 1))) fun v_1=>(.bnd (.u (am (af L) ak fw v_1)) fun Z=>(.ret (.bool true))))
theorem zd (L N:Nat) (ak bR:PV):aa (af L) (N+1) j5 [ak,bR]=(B5 L N ak bR).run:=by kernel_rfl
@[reducible] noncomputable def zP (L N:Nat) (ak bR:PV):Tx PV:=(.bnd (.bnd (.v (aq (af L) ak gg)) fun a1=>(.bnd (.c (bw (af L) a1 aY)) fun k2=>(.bnd (.bnd (.bnd (.bnd (.bnd (.v (ao bR (.int 2))) fun a3=>.bnd (.bnd (.v (aq (af L) ak ba)) fun a4=>.ret ([a4])) fun l5=>.ret (a3::l5)) fun l6=>.ret ((.str [116,114,121])::l6)) fun l7=>.v (eJ l7)) fun a8=>.ret ([a8])) fun l9=>(.v (aW (aa (af L) N) a1 aY l9 k2))))) fun _u10=>(.bnd (.v (ao bR (.int 1))) fun v_11=>(.bnd (.u (am (af L) ak fw v_11)) fun Z=>(.ret (.bool true)))))
theorem xN (L N:Nat) (ak bR:PV):aa (af L) (N+1) iU [ak,bR]=(zP L N ak bR).run:=by kernel_rfl
@[reducible] noncomputable def A_ (L N:Nat) (ak bR:PV):Tx PV:=(.bnd (.bnd (.bnd (.bnd (.v (ao bR (.int 1))) fun a1=>.ret ([a1,(.int 0)])) fun l2=>.ret (ak::l2)) fun l3=>(.v (aa (af L) N dy l3))) fun _u4=>(.bnd (.bnd (.bnd (.bnd (.v (ao bR (.int 2))) fun a5=>.ret ([a5,(.int (-1))])) fun l6=>.ret (ak::l6)) fun l7=>(.v (aa (af L) N dy l7))) fun _u8=>(.bnd (.v (aa (af L) N nN [ak])) .ret)))
theorem zy (L N:Nat) (ak bR:PV):aa (af L) (N+1) jN [ak,bR]=(A_ L N ak bR).run:=by kernel_rfl
@[reducible] noncomputable def A5 (L N:Nat) (ak bR:PV):Tx PV:=(.unT bR fun l1=>(.unC l1 fun word_2 l3=>(.unC l3 fun count_4 l5=>(.unC l5 fun place_6 l7=>(.unC l7 fun least_8 l9=>(.unC l9 fun most_10 l11=>(.unC l11 fun is_lazy_12 l13=>(.unC l13 fun again_14 l15=>(.unC l15 fun behind_16 l17=>(.unN l17 (.bnd (.bnd (.v (aq (af L) ak aI)) fun a18=>(.v (ao a18 count_4))) fun rounds_19=>(.bnd (.u (am (af L) ak fw again_14)) fun Z=>(.bnd (.b (aj .Lt rounds_19 least_8)) fun c20=>.br c20
 (.ret (.bool true))
 (.bnd (.bnd (.bnd (.bnd (.v (aq (af L) ak aI)) fun a23=>(.v (ao a23 place_6))) fun a24=>(.bnd (.v (aq (af L) ak ba)) fun b25=>(.b (aj .Eq a24 b25)))) fun t22=>.br t22 (.ret true) (.bnd (.bnd (.b (aj .LtE (.int 0) most_10)) fun t27=>.br t27 (.b (aj .LtE most_10 rounds_19)) (.ret false)) fun t26=>.br t26 (.ret true) (.ret false))) fun c21=>.br c21
 (.bnd (.u (am (af L) ak fw behind_16)) fun Z=>(.ret (.bool true)))
 (.bnd (.b (aH is_lazy_12)) fun c28=>.br c28
 (.bnd (.bnd (.v (aq (af L) ak gg)) fun a29=>(.bnd (.c (bw (af L) a29 aY)) fun k30=>(.bnd (.bnd (.bnd (.bnd (.bnd (.bnd (.v (aq (af L) ak ba)) fun a31=>.ret ([a31])) fun l32=>.ret (again_14::l32)) fun l33=>.ret ((.str [116,114,121])::l33)) fun l34=>.v (eJ l34)) fun a35=>.ret ([a35])) fun l36=>(.v (aW (aa (af L) N) a29 aY l36 k30))))) fun _u37=>(.bnd (.u (am (af L) ak fw behind_16)) fun Z=>(.ret (.bool true))))
 (.bnd (.bnd (.v (aq (af L) ak gg)) fun a38=>(.bnd (.c (bw (af L) a38 aY)) fun k39=>(.bnd (.bnd (.bnd (.bnd (.bnd (.bnd (.v (aq (af L) ak ba)) fun a40=>.ret ([a40])) fun l41=>.ret (behind_16::l41)) fun l42=>.ret ((.str [116,114,121])::l42)) fun l43=>.v (eJ l43)) fun a44=>.ret ([a44])) fun l45=>(.v (aW (aa (af L) N) a38 aY l45 k39))))) fun _u46=>(.ret (.bool true))))))))))))))))))
theorem iS (L N:Nat) (ak bR:PV):aa (af L) (N+1) jW [ak,bR]=(A5 L N ak bR).run:=by kernel_rfl
@[reducible] noncomputable def Az (L N:Nat) (ak bR:PV):Tx PV:=(.bnd (.bnd (.bnd (.bnd (.v (ao bR (.int 1))) fun a1=>.bnd (.bnd (.bnd (.bnd (.v (aq (af L) ak aI)) fun a2=>(.bnd (.v (ao bR (.int 1))) fun i3=>(.v (ao a2 i3)))) fun a4=>(.v (aZ .Add a4 (.int 1)))) fun a5=>.ret ([a5])) fun l6=>.ret (a1::l6)) fun l7=>.ret (ak::l7)) fun l8=>(.v (aa (af L) N dy l8))) fun _u9=>(.bnd (.bnd (.bnd (.bnd (.v (ao bR (.int 2))) fun a10=>.bnd (.bnd (.v (aq (af L) ak ba)) fun a11=>.ret ([a11])) fun l12=>.ret (a10::l12)) fun l13=>.ret (ak::l13)) fun l14=>(.v (aa (af L) N dy l14))) fun _u15=>(.bnd (.v (ao bR (.int 3))) fun v_16=>(.bnd (.u (am (af L) ak fw v_16)) fun Z=>(.ret (.bool true))))))
theorem xy (L N:Nat) (ak bR:PV):aa (af L) (N+1) iW [ak,bR]=(Az L N ak bR).run:=by kernel_rfl
@[reducible] noncomputable def yq (L N:Nat) (ak jv:PV):Tx PV:=(.bnd (.bnd (.v (ao jv (.int 0))) fun a2=>(.b (aj .Eq a2 (.str [103,114,111,117,112])))) fun c1=>.br c1
 (.bnd (.v (ao jv (.int 2))) fun v_3=>(.bnd (.v (aq (af L) ak bx)) fun ov4=>(.bnd (.v (ao jv (.int 1))) fun iv5=>(.bnd (.u (cb ov4 iv5 v_3)) fun Z=>(.ret .none)))))
 (.bnd (.bnd (.v (ao jv (.int 0))) fun a7=>(.b (aj .Eq a7 (.str [114,101,103,105,115,116,101,114])))) fun c6=>.br c6
 (.bnd (.v (ao jv (.int 2))) fun v_8=>(.bnd (.v (aq (af L) ak aI)) fun ov9=>(.bnd (.v (ao jv (.int 1))) fun iv10=>(.bnd (.u (cb ov9 iv10 v_8)) fun Z=>(.ret .none)))))
 (.ret .none)))
theorem vr (L N:Nat) (ak jv:PV):aa (af L) (N+1) hV [ak,jv]=(yq L N ak jv).run:=by kernel_rfl
@[reducible] noncomputable def zm (L N:Nat):Tx PV:=(.bnd (.v (bT (.dct [([115,105,103,110],eA),([97,110,121],eA),([115,101,116],eA),([114,117,110],lt),([97,116],mX),([98,97,99,107],pe),([111,112,101,110],pn),([99,108,111,115,101],m8),([106,117,109,112],j5),([115,112,108,105,116],iU),([122,101,114,111],jN),([108,111,111,112],jW),([97,103,97,105,110],iW),([109,97,114,107],oS),([99,117,116],q8),([114,101,102,117,115,101],lF),([112,108,97,99,101],nu),([114,101,116,117,114,110],lO),([98,101,104,105,110,100],ma)]))) .ret)
theorem xh (L N:Nat):aa (af L) (N+1) ff []=(zm L N).run:=by kernel_rfl
@[reducible] noncomputable def xz (L N:Nat) (ak:PV) (o_entry:Option PV):Tx Bool:=(.bnd (.v (aq (af L) ak gg)) fun a1=>(.b (aj .NotEq a1 (.frz []))))
theorem fg (L N:Nat) (ak:PV) (o_entry:Option PV):iQ L N [(da,some ak),(jA,o_entry)]=(xz L N ak o_entry).run:=by kernel_rfl
@[reducible] noncomputable def w9 (L N:Nat) (kn kb kc:Kn) (ak:PV) (o_entry:Option PV):Tx PV:=(.bnd (.bnd (.v (aq (af L) ak gg)) fun a2=>(.bnd (.c (bw (af L) a2 wk)) fun k3=>(.v (aW (aa (af L) N) a2 wk [] k3)))) fun entry_4=>(.bnd (.bnd (.v (ao entry_4 (.int 0))) fun a6=>(.b (aj .Eq a6 (.str [116,114,121])))) fun c5=>.br c5
 (.bnd (.v (ao entry_4 (.int 1))) fun v_7=>(.bnd (.u (am (af L) ak fw v_7)) fun Z=>(.bnd (.v (ao entry_4 (.int 2))) fun v_8=>(.bnd (.u (am (af L) ak ba v_8)) fun Z=>(.ret (.bool true))))))
 (.bnd (.bnd (.v (ao entry_4 (.int 0))) fun a10=>(.b (aj .Eq a10 (.str [108,101,115,115])))) fun c9=>.br c9
 (.bnd (.v (ao entry_4 (.int 1))) fun v_11=>(.bnd (.u (am (af L) ak fw v_11)) fun Z=>(.bnd (.bnd (.v (ao entry_4 (.int 3))) fun a12=>(.v (aZ .Sub a12 (.int 1)))) fun v_13=>(.bnd (.u (am (af L) ak ba v_13)) fun Z=>(.bnd (.bnd (.v (aq (af L) ak ba)) fun a15=>(.bnd (.v (ao entry_4 (.int 2))) fun b16=>(.b (aj .Gt a15 b16)))) fun c14=>.br c14
 (.bnd (.bnd (.v (aq (af L) ak gg)) fun a17=>(.bnd (.c (bw (af L) a17 aY)) fun k18=>(.bnd (.bnd (.bnd (.bnd (.bnd (.v (ao entry_4 (.int 1))) fun a19=>.bnd (.bnd (.v (ao entry_4 (.int 2))) fun a20=>.bnd (.bnd (.v (aq (af L) ak ba)) fun a21=>.ret ([a21])) fun l22=>.ret (a20::l22)) fun l23=>.ret (a19::l23)) fun l24=>.ret ((.str [108,101,115,115])::l24)) fun l25=>.v (eJ l25)) fun a26=>.ret ([a26])) fun l27=>(.v (aW (aa (af L) N) a17 aY l27 k18))))) fun _u28=>(.ret (.bool true)))
 (.ret (.bool true)))))))
 (.bnd (.bnd (.v (ao entry_4 (.int 0))) fun a30=>(.b (aj .Eq a30 (.str [109,111,114,101])))) fun c29=>.br c29
 (.bnd (.bnd (.v (aa (af L) N rM [ak,entry_4])) fun a32=>(.b (aH a32))) fun c31=>.br c31
 (.ret (.bool true))
 (.v (kn [(da,some ak),(jA,some entry_4)])))
 (.bnd (.v (aa (af L) N hV [ak,entry_4])) fun _u33=>(.v (kn [(da,some ak),(jA,some entry_4)])))))))
theorem fK (L N:Nat) (kn kb kc:Kn) (ak:PV) (o_entry:Option PV):i8 L N [(da,some ak),(jA,o_entry)] kn kb kc=(w9 L N kn kb kc ak o_entry).run:=by kernel_rfl
@[reducible] noncomputable def wY (L N:Nat) (ak:PV) (o_entry:Option PV):Tx PV:=(.ret (.bool false))
theorem fj (L N:Nat) (ak:PV) (o_entry:Option PV):iX L N [(da,some ak),(jA,o_entry)]=(wY L N ak o_entry).run:=by kernel_rfl
@[reducible] noncomputable def DF (L N:Nat) (ak:PV):Tx PV:=(.v (bc (iQ L N) (i8 L N) (iX L N) L [(da,some ak),(jA,none)]))
theorem Bs (L N:Nat) (ak:PV):aa (af L) (N+1) ip [ak]=(DF L N ak).run:=by kernel_rfl
@[reducible] noncomputable def sm (L N:Nat) (ak bV db:PV) (o_row o_is_right:Option PV):Tx Bool:=(.b (aH (.bool true)))
theorem dc (L N:Nat) (ak bV db:PV) (o_row o_is_right:Option PV):gX L N [(da,some ak),(gc,some bV),(b9,some db),(rP,o_row),(fp,o_is_right)]=(sm L N ak bV db o_row o_is_right).run:=by kernel_rfl
@[reducible] noncomputable def sb (L N:Nat) (kn kb kc:Kn) (ak bV db:PV) (o_row o_is_right:Option PV):Tx PV:=(.bnd (.v (aq (af L) ak dZ)) fun old9=>(.bnd (.v (dF .Add old9 (.int 1))) fun w10=>.bnd (.u (am (af L) ak dZ w10)) fun Z=>(.bnd (.bnd (.v (aq (af L) ak dZ)) fun a12=>(.bnd (.v (aq (af L) ak re)) fun b13=>(.b (aj .Gt a12 b13)))) fun c11=>.br c11
 .stop
 (.bnd (.bnd (.bnd (.v (aq (af L) ak ga)) fun a14=>(.v (aq (af L) a14 cA))) fun a15=>(.bnd (.v (aq (af L) ak fw)) fun i16=>(.v (ao a15 i16)))) fun row_17=>(.bnd (.bnd (.v (ao row_17 (.int 0))) fun a19=>(.b (aj .Eq a19 (.str [101,110,100])))) fun c18=>.br c18
 (.bnd (.bnd (.v (aq (af L) ak ba)) fun a21=>(.bnd (.bnd (.v (aq (af L) ak gG)) fun b22=>(.b (aj .GtE a21 b22))) fun c20=>.ret (.bool c20))) fun is_right_23=>(.bnd (.b (aH is_right_23)) fun c24=>.br c24
 (.bnd (.bnd (.bnd (.bnd (.v (aq (af L) ak ba)) fun a25=>.ret ([a25])) fun l26=>.ret (db::l26)) fun l27=>.v (eJ l27)) fun v_28=>(.bnd (.v (aq (af L) ak bx)) fun ov29=>(.bnd (.u (cb ov29 (.int 0) v_28)) fun Z=>(.ret (.bool true)))))
 (.bnd (.bnd (.bnd (.b (aH is_right_23)) fun c32=>.ret (!c32)) fun t31=>.br t31 (.bnd (.bnd (.bnd (.v (aa (af L) N ip [ak])) fun a35=>(.b (aH a35))) fun c34=>.ret (!c34)) fun t33=>.br t33 (.ret true) (.ret false)) (.ret false)) fun c30=>.br c30
 (.ret (.bool false))
 (.v (kn [(da,some ak),(gc,some bV),(b9,some db),(rP,some row_17),(fp,some is_right_23)])))))
 (.bnd (.bnd (.bnd (.v (ao row_17 (.int 0))) fun i36=>(.v (ao bV i36))) fun f37=>(.v (uw (aa (af L) N) f37 [ak,row_17]))) fun is_right_38=>(.bnd (.bnd (.bnd (.b (aH is_right_38)) fun c41=>.ret (!c41)) fun t40=>.br t40 (.bnd (.bnd (.bnd (.v (aa (af L) N ip [ak])) fun a44=>(.b (aH a44))) fun c43=>.ret (!c43)) fun t42=>.br t42 (.ret true) (.ret false)) (.ret false)) fun c39=>.br c39
 (.ret (.bool false))
 (.v (kn [(da,some ak),(gc,some bV),(b9,some db),(rP,some row_17),(fp,some is_right_38)])))))))))
theorem df (L N:Nat) (kn kb kc:Kn) (ak bV db:PV) (o_row o_is_right:Option PV):gJ L N [(da,some ak),(gc,some bV),(b9,some db),(rP,o_row),(fp,o_is_right)] kn kb kc=(sb L N kn kb kc ak bV db o_row o_is_right).run:=by kernel_rfl
@[reducible] noncomputable def sA (L N:Nat) (ak bV db:PV) (o_row o_is_right:Option PV):Tx PV:=(.ret .none)
theorem de (L N:Nat) (ak bV db:PV) (o_row o_is_right:Option PV):h_ L N [(da,some ak),(gc,some bV),(b9,some db),(rP,o_row),(fp,o_is_right)]=(sA L N ak bV db o_row o_is_right).run:=by kernel_rfl
@[reducible] noncomputable def ym (L N:Nat) (ak bV db:PV):Tx PV:=(.bnd (.u (am (af L) ak ba db)) fun Z=>(.bnd (.u (am (af L) ak fw (.int 0))) fun Z=>(.bnd (.v (bT (.lst []))) fun v_1=>(.bnd (.u (am (af L) ak gg v_1)) fun Z=>(.bnd (.bnd (.bnd (.bnd (.v (aq (af L) ak ga)) fun a2=>(.v (aq (af L) a2 bx))) fun a3=>(.v (aZ .Add a3 (.int 1)))) fun b4=>(.v (aZ .Mult (.frz [.none]) b4))) fun v_5=>(.bnd (.u (am (af L) ak bx v_5)) fun Z=>(.bnd (.bnd (.bnd (.v (aq (af L) ak ga)) fun a6=>(.v (aq (af L) a6 aI))) fun b7=>(.v (aZ .Mult (.frz [(.int (-1))]) b7))) fun v_8=>(.bnd (.u (am (af L) ak aI v_8)) fun Z=>(.v (bc (gX L N) (gJ L N) (h_ L N) L [(da,some ak),(gc,some bV),(b9,some db),(rP,none),(fp,none)]))))))))))
theorem vd (L N:Nat) (ak bV db:PV):aa (af L) (N+1) dM [ak,bV,db]=(ym L N ak bV db).run:=by kernel_rfl
@[reducible] noncomputable def BG (L N:Nat) (aR ai aF bn aC:PV):Tx PV:=(.bnd (.bnd (.bnd (.bnd (.bnd (.bnd (.bnd (.v (aq (af L) bn dZ)) fun a1=>.ret ([a1])) fun l2=>.ret (aC::l2)) fun l3=>.ret (aF::l3)) fun l4=>.ret (ai::l4)) fun l5=>.ret (aR::l5)) fun l6=>(.v (aa (af L) N (.cls iw) l6))) fun run_7=>(.bnd (.bnd (.bnd (.bnd (.bnd (.bnd (.v (aa (af L) N ff [])) fun a9=>.ret ([a9,aF])) fun l10=>.ret (run_7::l10)) fun l11=>(.v (aa (af L) N dM l11))) fun a12=>(.b (aH a12))) fun c8=>.br c8 (.v (aq (af L) run_7 bx)) (.ret .none)) .ret))
theorem rX (L N:Nat) (aR ai aF bn aC:PV):aa (af L) (N+1) ik [aR,ai,aF,bn,aC]=(BG L N aR ai aF bn aC).run:=by kernel_rfl
@[reducible] noncomputable def og (L N:Nat) (w:PV) (kn kb kc:Kn) (aR ai aF bn aC ak bV:PV) (o_start:Option PV):Tx PV:=(.bnd (.bnd (.v (aa (af L) N dM [ak,bV,w])) fun a15=>(.b (aH a15))) fun c14=>.br c14
 (.bnd (.v (aq (af L) ak bx)) .ret)
 (.v (kn [(b0,some aR),(aD,some ai),(bv,some aF),(cC,some bn),(bq,some aC),(da,some ak),(gc,some bV),(b9,some w)])))
theorem ij (L N:Nat) (w:PV) (kn kb kc:Kn) (aR ai aF bn aC ak bV:PV) (o_start:Option PV):eF L N w [(b0,some aR),(aD,some ai),(bv,some aF),(cC,some bn),(bq,some aC),(da,some ak),(gc,some bV),(b9,o_start)] kn kb kc=(og L N w kn kb kc aR ai aF bn aC ak bV o_start).run:=by kernel_rfl
@[reducible] noncomputable def n8 (L N:Nat) (aR ai aF bn aC ak bV:PV) (o_start:Option PV):Tx PV:=(.ret .none)
theorem yu (L N:Nat) (aR ai aF bn aC ak bV:PV) (o_start:Option PV):gB L N [(b0,some aR),(aD,some ai),(bv,some aF),(cC,some bn),(bq,some aC),(da,some ak),(gc,some bV),(b9,o_start)]=(n8 L N aR ai aF bn aC ak bV o_start).run:=by kernel_rfl
@[reducible] noncomputable def qZ (L N:Nat) (aR ai aF bn aC:PV):Tx PV:=(.bnd (.bnd (.bnd (.bnd (.bnd (.bnd (.bnd (.v (aq (af L) bn dZ)) fun a1=>.ret ([a1])) fun l2=>.ret (aC::l2)) fun l3=>.ret (aF::l3)) fun l4=>.ret (ai::l4)) fun l5=>.ret (aR::l5)) fun l6=>(.v (aa (af L) N (.cls iw) l6))) fun run_7=>(.bnd (.v (aa (af L) N ff [])) fun words_8=>(.bnd (.bnd (.bnd (.bnd (.bnd (.v (bU [ai])) fun a9=>(.v (aZ .Add a9 (.int 1)))) fun a10=>.ret ([a10])) fun l11=>.ret (aF::l11)) fun l12=>(.v (fO l12))) fun a13=>(.bnd (.i (ce a13)) fun it16=>.v (cJ (eF L N) (gB L N) L it16 [(b0,some aR),(aD,some ai),(bv,some aF),(cC,some bn),(bq,some aC),(da,some run_7),(gc,some words_8),(b9,none)])))))
theorem pN (L N:Nat) (aR ai aF bn aC:PV):aa (af L) (N+1) fZ [aR,ai,aF,bn,aC]=(qZ L N aR ai aF bn aC).run:=by kernel_rfl
end
section
open PySem
@[reducible] noncomputable def u5 (L N:Nat) (aG te td sV ai aP:PV):Tx PV:=(.bnd (.u (am (af L) aG xL te)) fun Z=>(.bnd (.u (am (af L) aG fb td)) fun Z=>(.bnd (.u (am (af L) aG dZ sV)) fun Z=>(.bnd (.u (am (af L) aG cj ai)) fun Z=>(.bnd (.u (am (af L) aG xI aP)) fun Z=>(.ret .none))))))
theorem tE (L N:Nat) (aG te td sV ai aP:PV):aa (af L) (N+1) k_ [aG,te,td,sV,ai,aP]=(u5 L N aG te td sV ai aP).run:=by kernel_rfl
@[reducible] noncomputable def uE (L N:Nat) (aG wL gR kM jz:PV):Tx PV:=(.bnd (.u (am (af L) aG cA wL)) fun Z=>(.bnd (.u (am (af L) aG bx gR)) fun Z=>(.bnd (.u (am (af L) aG aI kM)) fun Z=>(.bnd (.u (am (af L) aG iL jz)) fun Z=>(.ret .none)))))
theorem sk (L N:Nat) (aG wL gR kM jz:PV):aa (af L) (N+1) uO [aG,wL,gR,kM,jz]=(uE L N aG wL gR kM jz).run:=by kernel_rfl
@[reducible] noncomputable def sL (L N:Nat) (aG:PV):Tx PV:=(.bnd (.v (bT (.lst []))) fun v_1=>(.bnd (.u (am (af L) aG cA v_1)) fun Z=>(.bnd (.u (am (af L) aG aI (.int 0))) fun Z=>(.ret .none))))
theorem qY (L N:Nat) (aG:PV):aa (af L) (N+1) sn [aG]=(sL L N aG).run:=by kernel_rfl
@[reducible] noncomputable def uL (L N:Nat) (aG bR:PV):Tx PV:=(.bnd (.bnd (.v (aq (af L) aG cA)) fun a1=>(.bnd (.c (bw (af L) a1 aY)) fun k2=>(.v (aW (aa (af L) N) a1 aY [bR] k2)))) fun _u3=>(.bnd (.bnd (.bnd (.bnd (.v (aq (af L) aG cA)) fun a4=>.ret ([a4])) fun l5=>(.v (bU l5))) fun a6=>(.v (aZ .Sub a6 (.int 1)))) .ret))
theorem sd (L N:Nat) (aG bR:PV):aa (af L) (N+1) tv [aG,bR]=(uL L N aG bR).run:=by kernel_rfl
@[reducible] noncomputable def qT (L N:Nat) (aG:PV):Tx PV:=(.bnd (.v (aq (af L) aG aI)) fun old1=>(.bnd (.v (dF .Add old1 (.int 1))) fun w2=>.bnd (.u (am (af L) aG aI w2)) fun Z=>(.bnd (.bnd (.v (aq (af L) aG aI)) fun a3=>(.v (aZ .Sub a3 (.int 1)))) .ret)))
theorem pZ (L N:Nat) (aG:PV):aa (af L) (N+1) qR [aG]=(qT L N aG).run:=by kernel_rfl
@[reducible] noncomputable def u6 (L N:Nat) (w:PV) (kn kb kc:Kn) (av an bW:PV) (o_one:Option PV):Tx PV:=(.bnd (.v (aa (af L) N bY [av,w])) fun _u7=>(.v (kn [(dD,some av),(aJ,some an),(ue,some bW),(bJ,some w),(j1,none)])))
theorem sa (L N:Nat) (w:PV) (kn kb kc:Kn) (av an bW:PV) (o_one:Option PV):lA L N w [(dD,some av),(aJ,some an),(ue,some bW),(bJ,o_one),(j1,none)] kn kb kc=(u6 L N w kn kb kc av an bW o_one).run:=by kernel_rfl
@[reducible] noncomputable def vA (L N:Nat) (av an bW:PV) (o_one:Option PV):Tx PV:=(.ret .none)
theorem sJ (L N:Nat) (av an bW:PV) (o_one:Option PV):lW L N [(dD,some av),(aJ,some an),(ue,some bW),(bJ,o_one),(j1,none)]=(vA L N av an bW o_one).run:=by kernel_rfl
@[reducible] noncomputable def A7 (L N:Nat) (av an:PV):Tx PV:=(.bnd (.v (ao an (.int 0))) fun word_1=>(.bnd (.b (aj .In word_1 (.tup [(.str [115,105,103,110]),(.str [97,110,121]),(.str [115,101,116]),(.str [97,116]),(.str [98,97,99,107])]))) fun c2=>.br c2
 (.bnd (.bnd (.c (bw (af L) av ey)) fun k3=>(.v (aW (aa (af L) N) av ey [an] k3))) fun _u4=>(.ret .none))
 (.bnd (.b (aj .Eq word_1 (.str [115,101,113]))) fun c5=>.br c5
 (.bnd (.v (ao an (.int 1))) fun a6=>(.bnd (.i (ce a6)) fun it8=>.v (cJ (lA L N) (lW L N) L it8 [(dD,some av),(aJ,some an),(ue,some word_1),(bJ,none),(j1,none)])))
 (.bnd (.b (aj .Eq word_1 (.str [97,108,116]))) fun c9=>.br c9
 (.bnd (.bnd (.bnd (.bnd (.v (ao an (.int 1))) fun a10=>.ret ([a10])) fun l11=>.ret (av::l11)) fun l12=>(.v (aa (af L) N hZ l12))) fun _u13=>(.ret .none))
 (.bnd (.b (aj .Eq word_1 (.str [103,114,111,117,112]))) fun c14=>.br c14
 (.bnd (.bnd (.c (bw (af L) av jr)) fun k15=>(.v (aW (aa (af L) N) av jr [] k15))) fun register_16=>(.bnd (.bnd (.c (bw (af L) av ey)) fun k17=>(.v (aW (aa (af L) N) av ey [(.tup [(.str [111,112,101,110]),register_16])] k17))) fun _u18=>(.bnd (.bnd (.bnd (.bnd (.v (ao an (.int 2))) fun a19=>.ret ([a19])) fun l20=>.ret (av::l20)) fun l21=>(.v (aa (af L) N bY l21))) fun _u22=>(.bnd (.bnd (.c (bw (af L) av ey)) fun k23=>(.bnd (.bnd (.bnd (.bnd (.bnd (.v (ao an (.int 1))) fun a24=>.ret ([a24,register_16])) fun l25=>.ret ((.str [99,108,111,115,101])::l25)) fun l26=>.v (eJ l26)) fun a27=>.ret ([a27])) fun l28=>(.v (aW (aa (af L) N) av ey l28 k23)))) fun _u29=>(.ret .none)))))
 (.bnd (.b (aj .Eq word_1 (.str [114,101,112]))) fun c30=>.br c30
 (.bnd (.v (aa (af L) N gm [av,an])) fun _u31=>(.ret .none))
 (.bnd (.b (aj .Eq word_1 (.str [97,116,111,109,105,99]))) fun c32=>.br c32
 (.bnd (.bnd (.bnd (.bnd (.v (ao an (.int 1))) fun a33=>.ret ([a33])) fun l34=>.ret (av::l34)) fun l35=>(.v (aa (af L) N me l35))) fun _u36=>(.ret .none))
 (.bnd (.v (aa (af L) N tK [av,an])) fun _u37=>(.ret .none)))))))))
theorem iR (L N:Nat) (av an:PV):aa (af L) (N+1) bY [av,an]=(A7 L N av an).run:=by kernel_rfl
@[reducible] noncomputable def pC (L N:Nat) (w:PV) (kn kb kc:Kn) (av az cU:PV) (o_one o_split o_at:Option PV):Tx PV:=(.bnd (.bnd (.bnd (.bnd (.bnd (.bnd (.v (aq (af L) av cA)) fun a28=>.ret ([a28])) fun l29=>(.v (bU l29))) fun a30=>.ret ([a30])) fun l31=>.ret ((.str [106,117,109,112])::l31)) fun l32=>.v (eJ l32)) fun v_33=>(.bnd (.v (aq (af L) av cA)) fun ov34=>(.bnd (.u (cb ov34 w v_33)) fun Z=>(.v (kn [(dD,some av),(bH,some az),(fV,some cU),(bJ,o_one),(fL,o_split),(bv,some w)])))))
theorem oh (L N:Nat) (w:PV) (kn kb kc:Kn) (av az cU:PV) (o_one o_split o_at:Option PV):fW L N w [(dD,some av),(bH,some az),(fV,some cU),(bJ,o_one),(fL,o_split),(bv,o_at)] kn kb kc=(pC L N w kn kb kc av az cU o_one o_split o_at).run:=by kernel_rfl
@[reducible] noncomputable def qe (L N:Nat) (av az cU:PV) (o_one o_split o_at:Option PV):Tx PV:=(.ret .none)
theorem n9 (L N:Nat) (av az cU:PV) (o_one o_split o_at:Option PV):fU L N [(dD,some av),(bH,some az),(fV,some cU),(bJ,o_one),(fL,o_split),(bv,o_at)]=(qe L N av az cU o_one o_split o_at).run:=by kernel_rfl
@[reducible] noncomputable def qh (L N:Nat) (w:PV) (kn kb kc:Kn) (av az cU:PV) (o_one o_split:Option PV):Tx PV:=(.bnd (.bnd (.c (bw (af L) av ey)) fun k5=>(.v (aW (aa (af L) N) av ey [(.tup [(.str [115,112,108,105,116]),(.int 0),(.int 0)])] k5))) fun split_6=>(.bnd (.v (aa (af L) N bY [av,w])) fun _u7=>(.bnd (.bnd (.c (bw (af L) cU aY)) fun k8=>(.bnd (.bnd (.bnd (.c (bw (af L) av ey)) fun k9=>(.v (aW (aa (af L) N) av ey [(.tup [(.str [106,117,109,112]),(.int 0)])] k9))) fun a10=>.ret ([a10])) fun l11=>(.v (aW (aa (af L) N) cU aY l11 k8)))) fun _u12=>(.bnd (.bnd (.bnd (.bnd (.v (aZ .Add split_6 (.int 1))) fun a13=>.bnd (.bnd (.bnd (.bnd (.v (aq (af L) av cA)) fun a14=>.ret ([a14])) fun l15=>(.v (bU l15))) fun a16=>.ret ([a16])) fun l17=>.ret (a13::l17)) fun l18=>.ret ((.str [115,112,108,105,116])::l18)) fun l19=>.v (eJ l19)) fun v_20=>(.bnd (.v (aq (af L) av cA)) fun ov21=>(.bnd (.u (cb ov21 split_6 v_20)) fun Z=>(.v (kn [(dD,some av),(bH,some az),(fV,some cU),(bJ,some w),(fL,some split_6),(bv,none)]))))))))
theorem nZ (L N:Nat) (w:PV) (kn kb kc:Kn) (av az cU:PV) (o_one o_split:Option PV):fY L N w [(dD,some av),(bH,some az),(fV,some cU),(bJ,o_one),(fL,o_split),(bv,none)] kn kb kc=(qh L N w kn kb kc av az cU o_one o_split).run:=by kernel_rfl
@[reducible] noncomputable def qb (L N:Nat) (av az cU:PV) (o_one o_split:Option PV):Tx PV:=(.bnd (.bnd (.bnd (.bnd (.bnd (.bnd (.v (bU [az])) fun a22=>(.v (aZ .Sub a22 (.int 1)))) fun i23=>(.v (ao az i23))) fun a24=>.ret ([a24])) fun l25=>.ret (av::l25)) fun l26=>(.v (aa (af L) N bY l26))) fun _u27=>(.bnd (.i (ce cU)) fun it35=>.v (cJ (fW L N) (fU L N) L it35 [(dD,some av),(bH,some az),(fV,some cU),(bJ,o_one),(fL,o_split),(bv,none)])))
theorem n7 (L N:Nat) (av az cU:PV) (o_one o_split:Option PV):ei L N [(dD,some av),(bH,some az),(fV,some cU),(bJ,o_one),(fL,o_split),(bv,none)]=(qb L N av az cU o_one o_split).run:=by kernel_rfl
@[reducible] noncomputable def t_ (L N:Nat) (av az:PV):Tx PV:=(.bnd (.v (bT (.lst []))) fun jumps_1=>(.bnd (.bnd (.bnd (.v (bU [az])) fun a2=>(.v (aZ .Sub a2 (.int 1)))) fun j3=>(.v (aS az .none j3))) fun a4=>(.bnd (.i (ce a4)) fun it36=>.v (cJ (fY L N) (ei L N) L it36 [(dD,some av),(bH,some az),(fV,some jumps_1),(bJ,none),(fL,none),(bv,none)]))))
theorem sr (L N:Nat) (av az:PV):aa (af L) (N+1) hZ [av,az]=(t_ L N av az).run:=by kernel_rfl
@[reducible] noncomputable def vg (L N:Nat) (av an:PV):Tx PV:=(.unT an fun l1=>(.unC l1 fun word_2 l3=>(.unC l3 fun inner_4 l5=>(.unC l5 fun least_6 l7=>(.unC l7 fun most_8 l9=>(.unC l9 fun mode_10 l11=>(.unN l11 (.bnd (.b (aj .Eq mode_10 (.str [111,119,110]))) fun c12=>.br c12
 (.bnd (.v (aa (af L) N me [av,(.tup [word_2,inner_4,least_6,most_8,(.str [103,114,101,101,100,121])])])) fun _u13=>(.ret .none))
 (.bnd (.bnd (.v (ao inner_4 (.int 0))) fun a15=>(.b (aj .In a15 jT))) fun c14=>.br c14
 (.bnd (.bnd (.c (bw (af L) av ey)) fun k16=>(.bnd (.bnd (.bnd (.bnd (.bnd (.bnd (.bnd (.bnd (.bnd (.b (aj .Eq mode_10 (.str [108,97,122,121]))) fun c17=>.ret (.bool c17)) fun a18=>.ret ([a18])) fun l19=>.ret (most_8::l19)) fun l20=>.ret (least_6::l20)) fun l21=>.ret (inner_4::l21)) fun l22=>.ret ((.str [114,117,110])::l22)) fun l23=>.v (eJ l23)) fun a24=>.ret ([a24])) fun l25=>(.v (aW (aa (af L) N) av ey l25 k16)))) fun _u26=>(.ret .none))
 (.bnd (.bnd (.bnd (.bnd (.bnd (.bnd (.bnd (.bnd (.b (aj .Eq mode_10 (.str [108,97,122,121]))) fun c27=>.ret (.bool c27)) fun a28=>.ret ([a28])) fun l29=>.ret (most_8::l29)) fun l30=>.ret (least_6::l30)) fun l31=>.ret (inner_4::l31)) fun l32=>.ret (av::l32)) fun l33=>(.v (aa (af L) N kh l33))) fun _u34=>(.ret .none)))))))))))
theorem mL (L N:Nat) (av an:PV):aa (af L) (N+1) gm [av,an]=(vg L N av an).run:=by kernel_rfl
@[reducible] noncomputable def Bm (L N:Nat) (av s5 sO bf nv:PV):Tx PV:=(.bnd (.bnd (.c (bw (af L) av jr)) fun k1=>(.v (aW (aa (af L) N) av jr [] k1))) fun count_2=>(.bnd (.bnd (.c (bw (af L) av jr)) fun k3=>(.v (aW (aa (af L) N) av jr [] k3))) fun place_4=>(.bnd (.bnd (.c (bw (af L) av ey)) fun k5=>(.v (aW (aa (af L) N) av ey [(.tup [(.str [122,101,114,111]),count_2,place_4])] k5))) fun _u6=>(.bnd (.bnd (.c (bw (af L) av ey)) fun k7=>(.v (aW (aa (af L) N) av ey [(.tup [(.str [108,111,111,112])])] k7))) fun loop_8=>(.bnd (.bnd (.c (bw (af L) av ey)) fun k9=>(.bnd (.bnd (.bnd (.bnd (.bnd (.bnd (.bnd (.v (aZ .Add loop_8 (.int 2))) fun a10=>.ret ([a10])) fun l11=>.ret (place_4::l11)) fun l12=>.ret (count_2::l12)) fun l13=>.ret ((.str [97,103,97,105,110])::l13)) fun l14=>.v (eJ l14)) fun a15=>.ret ([a15])) fun l16=>(.v (aW (aa (af L) N) av ey l16 k9)))) fun again_17=>(.bnd (.v (aa (af L) N bY [av,s5])) fun _u18=>(.bnd (.bnd (.c (bw (af L) av ey)) fun k19=>(.v (aW (aa (af L) N) av ey [(.tup [(.str [106,117,109,112]),loop_8])] k19))) fun _u20=>(.bnd (.bnd (.bnd (.bnd (.bnd (.bnd (.bnd (.bnd (.bnd (.bnd (.bnd (.bnd (.v (aq (af L) av cA)) fun a21=>.ret ([a21])) fun l22=>(.v (bU l22))) fun a23=>.ret ([a23])) fun l24=>.ret (again_17::l24)) fun l25=>.ret (nv::l25)) fun l26=>.ret (bf::l26)) fun l27=>.ret (sO::l27)) fun l28=>.ret (place_4::l28)) fun l29=>.ret (count_2::l29)) fun l30=>.ret ((.str [108,111,111,112])::l30)) fun l31=>.v (eJ l31)) fun v_32=>(.bnd (.v (aq (af L) av cA)) fun ov33=>(.bnd (.u (cb ov33 loop_8 v_32)) fun Z=>(.ret .none)))))))))))
theorem zY (L N:Nat) (av s5 sO bf nv:PV):aa (af L) (N+1) kh [av,s5,sO,bf,nv]=(Bm L N av s5 sO bf nv).run:=by kernel_rfl
@[reducible] noncomputable def ur (L N:Nat) (an gR jz:PV):Tx PV:=(.bnd (.v (aa (af L) N (.cls dz) [])) fun maker_1=>(.bnd (.v (aa (af L) N bY [maker_1,an])) fun _u2=>(.bnd (.bnd (.c (bw (af L) maker_1 ey)) fun k3=>(.v (aW (aa (af L) N) maker_1 ey [(.tup [(.str [101,110,100])])] k3))) fun _u4=>(.bnd (.bnd (.bnd (.v (aq (af L) maker_1 cA)) fun a5=>.bnd (.bnd (.bnd (.v (aq (af L) maker_1 aI)) fun a6=>.ret ([a6,jz])) fun l7=>.ret (gR::l7)) fun l8=>.ret (a5::l8)) fun l9=>(.v (aa (af L) N (.cls dI) l9))) .ret))))
theorem r0 (L N:Nat) (an gR jz:PV):aa (af L) (N+1) g_ [an,gR,jz]=(ur L N an gR jz).run:=by kernel_rfl
@[reducible] noncomputable def pw (L N:Nat) (aG ai s_:PV):Tx PV:=(.bnd (.u (am (af L) aG cj ai)) fun Z=>(.bnd (.u (am (af L) aG qk s_)) fun Z=>(.bnd (.u (am (af L) aG ba (.int 0))) fun Z=>(.bnd (.u (am (af L) aG bx (.int 0))) fun Z=>(.bnd (.u (am (af L) aG fb (.int 0))) fun Z=>(.bnd (.v (bT (.dct []))) fun v_1=>(.bnd (.u (am (af L) aG iL v_1)) fun Z=>(.bnd (.v (bT (.lst []))) fun v_2=>(.bnd (.u (am (af L) aG lz v_2)) fun Z=>(.ret .none))))))))))
theorem oq (L N:Nat) (aG ai s_:PV):aa (af L) (N+1) oL [aG,ai,s_]=(pw L N aG ai s_).run:=by kernel_rfl
@[reducible] noncomputable def o_ (L N:Nat) (aG:PV):Tx PV:=(.bnd (.bnd (.v (aq (af L) aG cj)) fun a1=>(.bnd (.v (aq (af L) aG ba)) fun i2=>(.bnd (.bnd (.v (aq (af L) aG ba)) fun a3=>(.v (aZ .Add a3 (.int 1)))) fun j4=>(.v (aS a1 i2 j4))))) .ret)
theorem ot (L N:Nat) (aG:PV):aa (af L) (N+1) pq [aG]=(o_ L N aG).run:=by kernel_rfl
@[reducible] noncomputable def on (L N:Nat) (aG bW:PV):Tx PV:=(.bnd (.bnd (.bnd (.v (aq (af L) aG cj)) fun a2=>(.bnd (.v (aq (af L) aG ba)) fun i3=>(.bnd (.bnd (.v (aq (af L) aG ba)) fun a4=>(.bnd (.v (bU [bW])) fun b5=>(.v (aZ .Add a4 b5)))) fun j6=>(.v (aS a2 i3 j6))))) fun a7=>(.b (aj .NotEq a7 bW))) fun c1=>.br c1
 (.ret (.bool false))
 (.bnd (.v (aq (af L) aG ba)) fun old8=>(.bnd (.v (bU [bW])) fun a9=>(.bnd (.v (dF .Add old8 a9)) fun w10=>.bnd (.u (am (af L) aG ba w10)) fun Z=>(.ret (.bool true))))))
theorem iV (L N:Nat) (aG bW:PV):aa (af L) (N+1) n5 [aG,bW]=(on L N aG bW).run:=by kernel_rfl
@[reducible] noncomputable def AB (L N:Nat) (ab bX bf aM:PV):Tx Bool:=(.bnd (.bnd (.v (aq (af L) ab ba)) fun a3=>(.bnd (.bnd (.bnd (.v (aq (af L) ab cj)) fun a4=>.ret ([a4])) fun l5=>(.v (bU l5))) fun b6=>(.b (aj .Lt a3 b6)))) fun t2=>.br t2 (.bnd (.bnd (.bnd (.v (aq (af L) ab cj)) fun a8=>(.bnd (.v (aq (af L) ab ba)) fun i9=>(.v (ao a8 i9)))) fun a10=>(.b (aj .In a10 bX))) fun t7=>.br t7 (.bnd (.bnd (.bnd (.v (aq (af L) ab ba)) fun a12=>(.v (aZ .Sub a12 aM))) fun a13=>(.b (aj .NotEq a13 bf))) fun t11=>.br t11 (.ret true) (.ret false)) (.ret false)) (.ret false))
theorem iO (L N:Nat) (ab bX bf aM:PV):py L N [(aK,some ab),(nV,some bX),(iB,some bf),(bl,some aM)]=(AB L N ab bX bf aM).run:=by kernel_rfl
@[reducible] noncomputable def zh (L N:Nat) (kn kb kc:Kn) (ab bX bf aM:PV):Tx PV:=(.bnd (.v (aq (af L) ab ba)) fun old14=>(.bnd (.v (dF .Add old14 (.int 1))) fun w15=>.bnd (.u (am (af L) ab ba w15)) fun Z=>(.v (kn [(aK,some ab),(nV,some bX),(iB,some bf),(bl,some aM)]))))
theorem iE (L N:Nat) (kn kb kc:Kn) (ab bX bf aM:PV):oZ L N [(aK,some ab),(nV,some bX),(iB,some bf),(bl,some aM)] kn kb kc=(zh L N kn kb kc ab bX bf aM).run:=by kernel_rfl
@[reducible] noncomputable def Ai (L N:Nat) (ab bX bf aM:PV):Tx PV:=(.bnd (.bnd (.v (aq (af L) ab cj)) fun a16=>(.bnd (.v (aq (af L) ab ba)) fun j17=>(.v (aS a16 aM j17)))) .ret)
theorem iH (L N:Nat) (ab bX bf aM:PV):oJ L N [(aK,some ab),(nV,some bX),(iB,some bf),(bl,some aM)]=(Ai L N ab bX bf aM).run:=by kernel_rfl
@[reducible] noncomputable def GD (L N:Nat) (ab bX bf:PV):Tx PV:=(.bnd (.v (aq (af L) ab ba)) fun begun_1=>(.v (bc (py L N) (oZ L N) (oJ L N) L [(aK,some ab),(nV,some bX),(iB,some bf),(bl,some begun_1)])))
theorem DN (L N:Nat) (ab bX bf:PV):aa (af L) (N+1) em [ab,bX,bf]=(GD L N ab bX bf).run:=by kernel_rfl
@[reducible] noncomputable def oO (L N:Nat) (w:PV) (kn kb kc:Kn) (ak hX ck:PV) (o_sign:Option PV):Tx PV:=(.bnd (.bnd (.bnd (.bnd (.v (aZ .Mult ck hX)) fun a1=>(.bnd (.bnd (.c (bw (af L) iG x0)) fun k2=>(.bnd (.bnd (.bnd (.c (bw (af L) w x4)) fun k3=>(.v (aW (aa (af L) N) w x4 [] k3))) fun a4=>.ret ([a4])) fun l5=>(.v (aW (aa (af L) N) iG x0 l5 k2)))) fun b6=>(.v (aZ .Add a1 b6)))) fun a7=>.bnd (.bnd (.v (aZ .Add nq (.int 1))) fun a8=>.ret ([a8])) fun l9=>.ret (a7::l9)) fun l10=>(.v (y_ l10))) fun found_11=>(.v (kn [(da,some ak),(ri,some hX),(b_,some found_11),(g7,some w)])))
theorem mN (L N:Nat) (w:PV) (kn kb kc:Kn) (ak hX ck:PV) (o_sign:Option PV):e7 L N w [(da,some ak),(ri,some hX),(b_,some ck),(g7,o_sign)] kn kb kc=(oO L N w kn kb kc ak hX ck o_sign).run:=by kernel_rfl
@[reducible] noncomputable def pA (L N:Nat) (ak hX ck:PV) (o_sign:Option PV):Tx PV:=(.ret ck)
theorem mS (L N:Nat) (ak hX ck:PV) (o_sign:Option PV):eX L N [(da,some ak),(ri,some hX),(b_,some ck),(g7,o_sign)]=(pA L N ak hX ck o_sign).run:=by kernel_rfl
@[reducible] noncomputable def sF (L N:Nat) (ak hX:PV):Tx PV:=(.bnd (.i (ce ak)) fun it12=>.v (cJ (e7 L N) (eX L N) L it12 [(da,some ak),(ri,some hX),(b_,some (.int 0)),(g7,none)]))
theorem rf (L N:Nat) (ak hX:PV):aa (af L) (N+1) bL [ak,hX]=(sF L N ak hX).run:=by kernel_rfl
@[reducible] noncomputable def xD (L N:Nat) (ab Db:PV):Tx PV:=(.bnd (.bnd (.v (aq (af L) ab cj)) fun a1=>(.bnd (.c (bw (af L) a1 lS)) fun k2=>(.bnd (.bnd (.bnd (.v (aq (af L) ab ba)) fun a3=>.ret ([a3])) fun l4=>.ret (Db::l4)) fun l5=>(.v (aW (aa (af L) N) a1 lS l5 k2))))) fun close_6=>(.bnd (.b (aj .Lt close_6 (.int 0))) fun c7=>.br c7
 .stop
 (.bnd (.bnd (.v (aq (af L) ab cj)) fun a8=>(.bnd (.v (aq (af L) ab ba)) fun i9=>(.v (aS a8 i9 close_6)))) fun found_10=>(.bnd (.v (aZ .Add close_6 (.int 1))) fun v_11=>(.bnd (.u (am (af L) ab ba v_11)) fun Z=>(.ret found_10))))))
theorem Hl (L N:Nat) (ab Db:PV):aa (af L) (N+1) gP [ab,Db]=(xD L N ab Db).run:=by kernel_rfl
@[reducible] noncomputable def uN (L N:Nat) (dj aF:PV):Tx PV:=(.bnd (.b (aj .Gt dj nq)) fun c1=>.br c1
 .stop
 (.bnd (.v (rS [dj])) .ret))
theorem EL (L N:Nat) (dj aF:PV):aa (af L) (N+1) jV [dj,aF]=(uN L N dj aF).run:=by kernel_rfl
@[reducible] noncomputable def sv (L N:Nat) (ab:PV):Tx PV:=(.bnd (.v (aq (af L) ab ba)) fun begun_1=>(.bnd (.bnd (.bnd (.bnd (.c (bw (af L) ab a_)) fun k4=>(.v (aW (aa (af L) N) ab a_ [(.str [123])] k4))) fun a5=>(.b (aH a5))) fun c3=>.ret (!c3)) fun c2=>.br c2
 (.bnd (.bnd (.bnd (.bnd (.bnd (.v (aa (af L) N em [ab,(.str [48,49,50,51,52,53,54,55,56,57,97,98,99,100,101,102,65,66,67,68,69,70]),(.int 2)])) fun a6=>.ret ([a6,(.int 16)])) fun l7=>(.v (aa (af L) N bL l7))) fun a8=>.ret ([a8])) fun l9=>(.v (rS l9))) .ret)
 (.bnd (.v (aa (af L) N gP [ab,(.str [125])])) fun run_10=>(.bnd (.bnd (.bnd (.i (ce run_10)) fun it12=>.bnd (.l (compLoop (fun w13=>Tx.run ((.bnd (.bnd (.b (aj .NotIn w13 (.str [48,49,50,51,52,53,54,55,56,57,97,98,99,100,101,102,65,66,67,68,69,70]))) fun t16=>.br t16 (.ret true) (.ret false)) fun c15=>.br c15 (.ret (some w13)) (.ret none)))) L it12)) fun l14=>.v (hM l14)) fun a17=>(.b (aj .NotEq a17 (.frz [])))) fun c11=>.br c11
 .stop
 (.bnd (.bnd (.bnd (.v (aa (af L) N bL [run_10,(.int 16)])) fun a18=>.ret ([a18,begun_1])) fun l19=>(.v (aa (af L) N jV l19))) .ret)))))
theorem rc (L N:Nat) (ab:PV):aa (af L) (N+1) gt [ab]=(sv L N ab).run:=by kernel_rfl
@[reducible] noncomputable def n_ (L N:Nat) (ab:PV):Tx PV:=(.bnd (.bnd (.c (bw (af L) ab dm)) fun k1=>(.v (aW (aa (af L) N) ab dm [] k1))) fun sign_2=>(.bnd (.b (aj .Eq sign_2 (.str []))) fun c3=>.br c3
 .stop
 (.bnd (.b (aj .In sign_2 gq)) fun c4=>.br c4
 (.bnd (.bnd (.bnd (.bnd (.bnd (.v (aa (af L) N em [ab,gq,(.int 3)])) fun a5=>.ret ([a5,(.int 8)])) fun l6=>(.v (aa (af L) N bL l6))) fun a7=>.ret ([a7])) fun l8=>(.v (rS l8))) .ret)
 (.bnd (.v (aq (af L) ab ba)) fun old9=>(.bnd (.v (dF .Add old9 (.int 1))) fun w10=>.bnd (.u (am (af L) ab ba w10)) fun Z=>(.bnd (.b (aj .Eq sign_2 (.str [120]))) fun c11=>.br c11
 (.bnd (.v (aa (af L) N gt [ab])) .ret)
 (.bnd (.b (aj .Eq sign_2 (.str [99]))) fun c12=>.br c12
 (.bnd (.v (aa (af L) N mQ [ab])) .ret)
 (.bnd (.bnd (.c (bw (af L) jg Cg)) fun k13=>(.v (aW (aa (af L) N) jg Cg [sign_2,sign_2] k13))) .ret))))))))
theorem fF (L N:Nat) (ab:PV):aa (af L) (N+1) bP [ab]=(n_ L N ab).run:=by kernel_rfl
@[reducible] noncomputable def wB (L N:Nat) (ab:PV):Tx PV:=(.bnd (.bnd (.v (aq (af L) ab cj)) fun a1=>(.bnd (.c (bw (af L) a1 lS)) fun k2=>(.bnd (.bnd (.bnd (.v (aq (af L) ab ba)) fun a3=>.ret ([a3])) fun l4=>.ret ((.str [58,93])::l4)) fun l5=>(.v (aW (aa (af L) N) a1 lS l5 k2))))) fun close_6=>(.bnd (.bnd (.bnd (.bnd (.v (aq (af L) ab cj)) fun a9=>(.bnd (.v (aq (af L) ab ba)) fun i10=>(.bnd (.bnd (.v (aq (af L) ab ba)) fun a11=>(.v (aZ .Add a11 (.int 2)))) fun j12=>(.v (aS a9 i10 j12))))) fun a13=>(.b (aj .NotEq a13 (.str [91,58])))) fun t8=>.br t8 (.ret true) (.bnd (.b (aj .Lt close_6 (.int 0))) fun t14=>.br t14 (.ret true) (.ret false))) fun c7=>.br c7
 (.ret .none)
 (.bnd (.bnd (.v (aq (af L) ab cj)) fun a15=>(.bnd (.bnd (.v (aq (af L) ab ba)) fun a16=>(.v (aZ .Add a16 (.int 2)))) fun i17=>(.v (aS a15 i17 close_6)))) fun name_18=>(.bnd (.bnd (.bnd (.bnd (.bnd (.v (aS name_18 .none (.int 1))) fun a20=>(.b (aj .Eq a20 (.str [94])))) fun c19=>.br c19 (.v (aS name_18 (.int 1) .none)) (.ret name_18)) fun a21=>.ret ([a21])) fun l22=>(.v (aa (af L) N iI l22))) fun items_23=>(.bnd (.b (aj .Eq items_23 (.frz []))) fun c24=>.br c24
 (.bnd (.bnd (.bnd (.i (ce name_18)) fun it26=>.bnd (.l (compLoop (fun w27=>Tx.run ((.bnd (.bnd (.bnd (.bnd (.bnd (.b (aj .LtE (.str [97]) w27)) fun t33=>.br t33 (.b (aj .LtE w27 (.str [122]))) (.ret false)) fun t32=>.br t32 (.ret true) (.bnd (.b (aj .Eq w27 (.str [94]))) fun t34=>.br t34 (.ret true) (.ret false))) fun c31=>.ret (!c31)) fun t30=>.br t30 (.ret true) (.ret false)) fun c29=>.br c29 (.ret (some w27)) (.ret none)))) L it26)) fun l28=>.v (hM l28)) fun a35=>(.b (aj .NotEq a35 (.frz [])))) fun c25=>.br c25
 (.ret .none)
 .stop)
 (.bnd (.v (aZ .Add close_6 (.int 2))) fun v_36=>(.bnd (.u (am (af L) ab ba v_36)) fun Z=>(.bnd (.bnd (.bnd (.v (aS name_18 .none (.int 1))) fun a38=>(.b (aj .Eq a38 (.str [94])))) fun c37=>.br c37 (.ret (.frz [(.tup [(.str [110,111,110,101]),items_23])])) (.ret items_23)) .ret))))))))
theorem oF (L N:Nat) (ab:PV):aa (af L) (N+1) gU [ab]=(wB L N ab).run:=by kernel_rfl
@[reducible] noncomputable def vb (L N:Nat) (ab:PV):Tx PV:=(.bnd (.v (aa (af L) N gU [ab])) fun found_1=>(.bnd (.b (aj .IsNot found_1 .none)) fun c2=>.br c2
 (.ret found_1)
 (.bnd (.bnd (.c (bw (af L) ab dm)) fun k3=>(.v (aW (aa (af L) N) ab dm [] k3))) fun sign_4=>(.bnd (.v (aq (af L) ab ba)) fun old5=>(.bnd (.v (dF .Add old5 (.int 1))) fun w6=>.bnd (.u (am (af L) ab ba w6)) fun Z=>(.bnd (.b (aj .Eq sign_4 (.str [92]))) fun c7=>.br c7
 (.bnd (.bnd (.c (bw (af L) ab dm)) fun k8=>(.v (aW (aa (af L) N) ab dm [] k8))) fun letter_9=>(.bnd (.bnd (.b (aj .NotEq letter_9 (.str []))) fun t11=>.br t11 (.bnd (.b (aj .In letter_9 je)) fun t12=>.br t12 (.ret true) (.ret false)) (.ret false)) fun c10=>.br c10
 (.bnd (.v (aq (af L) ab ba)) fun old13=>(.bnd (.v (dF .Add old13 (.int 1))) fun w14=>.bnd (.u (am (af L) ab ba w14)) fun Z=>(.ret (.frz [(.tup [(.str [99,108,97,115,115]),letter_9])]))))
 (.bnd (.v (aa (af L) N bP [ab])) fun sign_15=>(.bnd (.b (aj .Eq letter_9 (.str [98]))) fun c16=>.br c16
 (.bnd (.bnd (.bnd (.bnd (.bnd (.bnd (.v (oG [(.str [8])])) fun a17=>.bnd (.bnd (.v (oG [(.str [8])])) fun a18=>.ret ([a18])) fun l19=>.ret (a17::l19)) fun l20=>.ret ((.str [114,97,110,103,101])::l20)) fun l21=>.v (eJ l21)) fun a22=>.ret ([a22])) fun l23=>.v (hM l23)) .ret)
 (.bnd (.bnd (.bnd (.bnd (.bnd (.bnd (.v (oG [sign_15])) fun a24=>.bnd (.bnd (.v (oG [sign_15])) fun a25=>.ret ([a25])) fun l26=>.ret (a24::l26)) fun l27=>.ret ((.str [114,97,110,103,101])::l27)) fun l28=>.v (eJ l28)) fun a29=>.ret ([a29])) fun l30=>.v (hM l30)) .ret)))))
 (.bnd (.bnd (.bnd (.bnd (.bnd (.bnd (.v (oG [sign_4])) fun a31=>.bnd (.bnd (.v (oG [sign_4])) fun a32=>.ret ([a32])) fun l33=>.ret (a31::l33)) fun l34=>.ret ((.str [114,97,110,103,101])::l34)) fun l35=>.v (eJ l35)) fun a36=>.ret ([a36])) fun l37=>.v (hM l37)) .ret)))))))
theorem jX (L N:Nat) (ab:PV):aa (af L) (N+1) dr [ab]=(vb L N ab).run:=by kernel_rfl
@[reducible] noncomputable def vq (L N:Nat) (aP:PV):Tx PV:=(.bnd (.bnd (.bnd (.v (bU [aP])) fun a3=>(.bnd (.b (aj .Eq a3 (.int 1))) fun c2=>.ret (.bool c2))) fun a4=>(.bnd (.b (aH a4)) fun t1=>.br t1 (.bnd (.bnd (.bnd (.v (ao aP (.int 0))) fun a7=>(.v (ao a7 (.int 0)))) fun a8=>(.bnd (.b (aj .Eq a8 (.str [114,97,110,103,101]))) fun c6=>.ret (.bool c6))) fun a9=>(.bnd (.b (aH a9)) fun t5=>.br t5 (.bnd (.bnd (.v (ao aP (.int 0))) fun a11=>(.v (ao a11 (.int 1)))) fun a12=>(.bnd (.bnd (.bnd (.v (ao aP (.int 0))) fun a13=>(.v (ao a13 (.int 2)))) fun b14=>(.b (aj .Eq a12 b14))) fun c10=>.ret (.bool c10))) (.ret a9))) (.ret a4))) .ret)
theorem m7 (L N:Nat) (aP:PV):aa (af L) (N+1) dS [aP]=(vq L N aP).run:=by kernel_rfl
@[reducible] noncomputable def qJ (L N:Nat) (ab nA:PV):Tx PV:=(.bnd (.v (aq (af L) ab ba)) fun at_1=>(.bnd (.v (aq (af L) ab ba)) fun old2=>(.bnd (.v (dF .Add old2 (.int 1))) fun w3=>.bnd (.u (am (af L) ab ba w3)) fun Z=>(.bnd (.v (aa (af L) N dr [ab])) fun second_4=>(.bnd (.bnd (.bnd (.v (aa (af L) N dS [second_4])) fun a7=>(.b (aH a7))) fun c6=>.ret (!c6)) fun c5=>.br c5
 (.bnd (.bnd (.v (aZ .Add nA (.frz [(.tup [(.str [114,97,110,103,101]),(.int 45),(.int 45)])]))) fun a8=>(.v (aZ .Add a8 second_4))) .ret)
 (.bnd (.bnd (.bnd (.v (ao second_4 (.int 0))) fun a10=>(.v (ao a10 (.int 1)))) fun a11=>(.bnd (.bnd (.v (ao nA (.int 0))) fun a12=>(.v (ao a12 (.int 1)))) fun b13=>(.b (aj .Lt a11 b13)))) fun c9=>.br c9
 .stop
 (.bnd (.bnd (.bnd (.bnd (.bnd (.bnd (.bnd (.v (ao nA (.int 0))) fun a14=>(.v (ao a14 (.int 1)))) fun a15=>.bnd (.bnd (.bnd (.v (ao second_4 (.int 0))) fun a16=>(.v (ao a16 (.int 1)))) fun a17=>.ret ([a17])) fun l18=>.ret (a15::l18)) fun l19=>.ret ((.str [114,97,110,103,101])::l19)) fun l20=>.v (eJ l20)) fun a21=>.ret ([a21])) fun l22=>.v (hM l22)) .ret)))))))
theorem pK (L N:Nat) (ab nA:PV):aa (af L) (N+1) f7 [ab,nA]=(qJ L N ab nA).run:=by kernel_rfl
@[reducible] noncomputable def uQ (L N:Nat) (ab aN aM bb aP dk:PV) (o_found o_behind:Option PV):Tx Bool:=(.bnd (.b (aH dk)) fun t7=>.br t7 (.ret true) (.bnd (.bnd (.bnd (.c (bw (af L) ab dm)) fun k9=>(.v (aW (aa (af L) N) ab dm [] k9))) fun a10=>(.b (aj .NotEq a10 (.str [93])))) fun t8=>.br t8 (.ret true) (.ret false)))
theorem cK (L N:Nat) (ab aN aM bb aP dk:PV) (o_found o_behind:Option PV):lT L N [(aK,some ab),(fh,some aN),(bl,some aM),(bB,some bb),(eC,some aP),(gx,some dk),(b_,o_found),(jS,o_behind)]=(uQ L N ab aN aM bb aP dk o_found o_behind).run:=by kernel_rfl
@[reducible] noncomputable def u8 (L N:Nat) (kn kb kc:Kn) (ab aN aM bb aP dk:PV) (o_found o_behind:Option PV):Tx PV:=(.bnd (.bnd (.bnd (.c (bw (af L) ab dm)) fun k12=>(.v (aW (aa (af L) N) ab dm [] k12))) fun a13=>(.b (aj .Eq a13 (.str [])))) fun c11=>.br c11
 .stop
 (.bnd (.v (aa (af L) N dr [ab])) fun found_14=>(.bnd (.bnd (.v (aq (af L) ab cj)) fun a15=>(.bnd (.v (aq (af L) ab ba)) fun i16=>(.bnd (.bnd (.v (aq (af L) ab ba)) fun a17=>(.v (aZ .Add a17 (.int 2)))) fun j18=>(.v (aS a15 i16 j18))))) fun behind_19=>(.bnd (.bnd (.bnd (.v (aa (af L) N dS [found_14])) fun a22=>(.b (aH a22))) fun t21=>.br t21 (.bnd (.bnd (.v (aS behind_19 .none (.int 1))) fun a24=>(.b (aj .Eq a24 (.str [45])))) fun t23=>.br t23 (.bnd (.b (aj .NotEq behind_19 (.str [45,93]))) fun t25=>.br t25 (.bnd (.bnd (.v (bU [behind_19])) fun a27=>(.b (aj .Eq a27 (.int 2)))) fun t26=>.br t26 (.ret true) (.ret false)) (.ret false)) (.ret false)) (.ret false)) fun c20=>.br c20
 (.bnd (.v (aa (af L) N f7 [ab,found_14])) fun found_28=>(.bnd (.bnd (.c (bw (af L) aP iY)) fun k29=>(.v (aW (aa (af L) N) aP iY [found_28] k29))) fun _u30=>(.v (kn [(aK,some ab),(fh,some aN),(bl,some aM),(bB,some bb),(eC,some aP),(gx,some (.bool false)),(b_,some found_28),(jS,some behind_19)]))))
 (.bnd (.bnd (.c (bw (af L) aP iY)) fun k31=>(.v (aW (aa (af L) N) aP iY [found_14] k31))) fun _u32=>(.v (kn [(aK,some ab),(fh,some aN),(bl,some aM),(bB,some bb),(eC,some aP),(gx,some (.bool false)),(b_,some found_14),(jS,some behind_19)])))))))
theorem cM (L N:Nat) (kn kb kc:Kn) (ab aN aM bb aP dk:PV) (o_found o_behind:Option PV):mh L N [(aK,some ab),(fh,some aN),(bl,some aM),(bB,some bb),(eC,some aP),(gx,some dk),(b_,o_found),(jS,o_behind)] kn kb kc=(u8 L N kn kb kc ab aN aM bb aP dk o_found o_behind).run:=by kernel_rfl
@[reducible] noncomputable def vp (L N:Nat) (ab aN aM bb aP dk:PV) (o_found o_behind:Option PV):Tx PV:=(.bnd (.v (aq (af L) ab ba)) fun old33=>(.bnd (.v (dF .Add old33 (.int 1))) fun w34=>.bnd (.u (am (af L) ab ba w34)) fun Z=>(.ret (.tup [(.str [115,101,116]),aP,bb,aN]))))
theorem cL (L N:Nat) (ab aN aM bb aP dk:PV) (o_found o_behind:Option PV):lL L N [(aK,some ab),(fh,some aN),(bl,some aM),(bB,some bb),(eC,some aP),(gx,some dk),(b_,o_found),(jS,o_behind)]=(vp L N ab aN aM bb aP dk o_found o_behind).run:=by kernel_rfl
@[reducible] noncomputable def BR (L N:Nat) (ab aN:PV):Tx PV:=(.bnd (.v (aq (af L) ab ba)) fun begun_1=>(.bnd (.v (aq (af L) ab ba)) fun old2=>(.bnd (.v (dF .Add old2 (.int 1))) fun w3=>.bnd (.u (am (af L) ab ba w3)) fun Z=>(.bnd (.bnd (.c (bw (af L) ab a_)) fun k4=>(.v (aW (aa (af L) N) ab a_ [(.str [94])] k4))) fun is_negated_5=>(.bnd (.v (bT (.lst []))) fun items_6=>(.v (bc (lT L N) (mh L N) (lL L N) L [(aK,some ab),(fh,some aN),(bl,some begun_1),(bB,some is_negated_5),(eC,some items_6),(gx,some (.bool true)),(b_,none),(jS,none)])))))))
theorem rx (L N:Nat) (ab aN:PV):aa (af L) (N+1) gy [ab,aN]=(BR L N ab aN).run:=by kernel_rfl
@[reducible] noncomputable def qr (L N:Nat) (ai ck aF:PV):Tx Bool:=(.bnd (.v (bU [ai])) fun b1=>(.b (aj .Lt aF b1)))
theorem cI (L N:Nat) (ai ck aF:PV):ct L N [(aD,some ai),(b_,some ck),(bv,some aF)]=(qr L N ai ck aF).run:=by kernel_rfl
@[reducible] noncomputable def qw (L N:Nat) (kn kb kc:Kn) (ai ck aF:PV):Tx PV:=(.bnd (.bnd (.v (ao ai aF)) fun a3=>(.b (aj .Eq a3 (.str [92])))) fun c2=>.br c2
 (.bnd (.v (dF .Add aF (.int 1))) fun at_4=>(.bnd (.v (dF .Add at_4 (.int 1))) fun at_5=>(.v (kn [(aD,some ai),(b_,some ck),(bv,some at_5)]))))
 (.bnd (.bnd (.v (ao ai aF)) fun a7=>(.b (aj .Eq a7 (.str [91])))) fun c6=>.br c6
 (.bnd (.v (aa (af L) N ic [ai,aF])) fun at_8=>(.bnd (.v (dF .Add at_8 (.int 1))) fun at_9=>(.v (kn [(aD,some ai),(b_,some ck),(bv,some at_9)]))))
 (.bnd (.bnd (.bnd (.v (ao ai aF)) fun a12=>(.b (aj .Eq a12 (.str [40])))) fun t11=>.br t11 (.bnd (.bnd (.bnd (.bnd (.bnd (.v (aZ .Add aF (.int 1))) fun i14=>(.bnd (.v (aZ .Add aF (.int 4))) fun j15=>(.v (aS ai i14 j15)))) fun a16=>.ret ([a16])) fun l17=>(.v (aa (af L) N gu l17))) fun a18=>(.b (aH a18))) fun t13=>.br t13 (.ret true) (.ret false)) (.ret false)) fun c10=>.br c10
 (.bnd (.v (dF .Add ck (.int 1))) fun found_19=>(.bnd (.v (dF .Add aF (.int 1))) fun at_20=>(.v (kn [(aD,some ai),(b_,some found_19),(bv,some at_20)]))))
 (.bnd (.v (dF .Add aF (.int 1))) fun at_21=>(.v (kn [(aD,some ai),(b_,some ck),(bv,some at_21)]))))))
theorem cH (L N:Nat) (kn kb kc:Kn) (ai ck aF:PV):cw L N [(aD,some ai),(b_,some ck),(bv,some aF)] kn kb kc=(qw L N kn kb kc ai ck aF).run:=by kernel_rfl
@[reducible] noncomputable def pE (L N:Nat) (ai ck aF:PV):Tx PV:=(.ret ck)
theorem cG (L N:Nat) (ai ck aF:PV):cu L N [(aD,some ai),(b_,some ck),(bv,some aF)]=(pE L N ai ck aF).run:=by kernel_rfl
@[reducible] noncomputable def tA (L N:Nat) (ai:PV):Tx PV:=(.v (bc (ct L N) (cw L N) (cu L N) L [(aD,some ai),(b_,some (.int 0)),(bv,some (.int 0))]))
theorem sq (L N:Nat) (ai:PV):aa (af L) (N+1) g9 [ai]=(tA L N ai).run:=by kernel_rfl
@[reducible] noncomputable def su (L N:Nat) (ai aF:PV):Tx Bool:=(.bnd (.bnd (.v (bU [ai])) fun b11=>(.b (aj .Lt aF b11))) fun t10=>.br t10 (.bnd (.bnd (.v (ao ai aF)) fun a13=>(.b (aj .NotEq a13 (.str [93])))) fun t12=>.br t12 (.ret true) (.ret false)) (.ret false))
theorem e8 (L N:Nat) (ai aF:PV):bO L N [(aD,some ai),(bv,some aF)]=(su L N ai aF).run:=by kernel_rfl
@[reducible] noncomputable def sx (L N:Nat) (kn kb kc:Kn) (ai aF:PV):Tx PV:=(.bnd (.bnd (.bnd (.v (ao ai aF)) fun a15=>(.b (aj .Eq a15 (.str [92])))) fun c14=>.br c14 (.ret (.int 2)) (.ret (.int 1))) fun a16=>(.bnd (.v (dF .Add aF a16)) fun at_17=>(.v (kn [(aD,some ai),(bv,some at_17)]))))
theorem e_ (L N:Nat) (kn kb kc:Kn) (ai aF:PV):bN L N [(aD,some ai),(bv,some aF)] kn kb kc=(sx L N kn kb kc ai aF).run:=by kernel_rfl
@[reducible] noncomputable def r9 (L N:Nat) (ai aF:PV):Tx PV:=(.ret aF)
theorem eW (L N:Nat) (ai aF:PV):bM L N [(aD,some ai),(bv,some aF)]=(r9 L N ai aF).run:=by kernel_rfl
@[reducible] noncomputable def xZ (L N:Nat) (ai aF:PV):Tx PV:=(.bnd (.v (dF .Add aF (.int 1))) fun at_1=>(.bnd (.bnd (.bnd (.v (aZ .Add at_1 (.int 1))) fun j3=>(.v (aS ai at_1 j3))) fun a4=>(.b (aj .Eq a4 (.str [94])))) fun c2=>.br c2
 (.bnd (.v (dF .Add at_1 (.int 1))) fun at_5=>(.bnd (.bnd (.bnd (.v (aZ .Add at_5 (.int 1))) fun j7=>(.v (aS ai at_5 j7))) fun a8=>(.b (aj .Eq a8 (.str [93])))) fun c6=>.br c6
 (.bnd (.v (dF .Add at_5 (.int 1))) fun at_9=>(.v (bc (bO L N) (bN L N) (bM L N) L [(aD,some ai),(bv,some at_9)])))
 (.v (bc (bO L N) (bN L N) (bM L N) L [(aD,some ai),(bv,some at_5)]))))
 (.bnd (.bnd (.bnd (.v (aZ .Add at_1 (.int 1))) fun j19=>(.v (aS ai at_1 j19))) fun a20=>(.b (aj .Eq a20 (.str [93])))) fun c18=>.br c18
 (.bnd (.v (dF .Add at_1 (.int 1))) fun at_21=>(.v (bc (bO L N) (bN L N) (bM L N) L [(aD,some ai),(bv,some at_21)])))
 (.v (bc (bO L N) (bN L N) (bM L N) L [(aD,some ai),(bv,some at_1)])))))
theorem iJ (L N:Nat) (ai aF:PV):aa (af L) (N+1) ic [ai,aF]=(xZ L N ai aF).run:=by kernel_rfl
@[reducible] noncomputable def sB (L N:Nat) (bX:PV):Tx PV:=(.bnd (.bnd (.v (aS bX .none (.int 1))) fun a2=>(.b (aj .NotEq a2 (.str [63])))) fun c1=>.br c1
 (.ret (.bool true))
 (.bnd (.bnd (.bnd (.v (aS bX .none (.int 2))) fun a5=>(.bnd (.b (aj .Eq a5 (.str [63,39]))) fun c4=>.ret (.bool c4))) fun a6=>(.bnd (.b (aH a6)) fun t3=>.br t3 (.ret a6) (.bnd (.bnd (.v (aS bX .none (.int 3))) fun a9=>(.bnd (.b (aj .Eq a9 (.str [63,80,60]))) fun c8=>.ret (.bool c8))) fun a10=>(.bnd (.b (aH a10)) fun t7=>.br t7 (.ret a10) (.bnd (.bnd (.v (aS bX .none (.int 2))) fun a13=>(.bnd (.b (aj .Eq a13 (.str [63,60]))) fun c12=>.ret (.bool c12))) fun a14=>(.bnd (.b (aH a14)) fun t11=>.br t11 (.bnd (.bnd (.v (aS bX (.int 2) (.int 3))) fun a17=>(.bnd (.b (aj .NotEq a17 (.str [61]))) fun c16=>.ret (.bool c16))) fun a18=>(.bnd (.b (aH a18)) fun t15=>.br t15 (.bnd (.v (aS bX (.int 2) (.int 3))) fun a20=>(.bnd (.b (aj .NotEq a20 (.str [33]))) fun c19=>.ret (.bool c19))) (.ret a18))) (.ret a14))))))) .ret))
theorem dw (L N:Nat) (bX:PV):aa (af L) (N+1) gu [bX]=(sB L N bX).run:=by kernel_rfl
@[reducible] noncomputable def tO (L N:Nat) (ai aF:PV):Tx PV:=(.bnd (.bnd (.c (bw (af L) ai lS)) fun k1=>(.v (aW (aa (af L) N) ai lS [(.str [125]),aF] k1))) fun close_2=>(.bnd (.bnd (.b (aj .GtE close_2 (.int 0))) fun c3=>.br c3 (.bnd (.bnd (.v (aZ .Add aF (.int 1))) fun i4=>(.v (aS ai i4 close_2))) fun a5=>(.bnd (.c (bw (af L) a5 lM)) fun k6=>(.v (aW (aa (af L) N) a5 lM [(.str [44])] k6)))) (.ret (.frz []))) fun parts_7=>(.bnd (.bnd (.bnd (.v (bU [parts_7])) fun a10=>(.b (aj .Lt a10 (.int 1)))) fun t9=>.br t9 (.ret true) (.bnd (.bnd (.v (bU [parts_7])) fun a12=>(.b (aj .Gt a12 (.int 2)))) fun t11=>.br t11 (.ret true) (.bnd (.bnd (.v (ao parts_7 (.int 0))) fun a14=>(.b (aj .Eq a14 (.str [])))) fun t13=>.br t13 (.ret true) (.ret false)))) fun c8=>.br c8
 (.ret .none)
 (.bnd (.bnd (.bnd (.bnd (.c (bw (af L) (.str []) d9)) fun k16=>(.v (aW (aa (af L) N) (.str []) d9 [parts_7] k16))) fun a17=>(.bnd (.i (ce a17)) fun it18=>.bnd (.l (compLoop (fun w19=>Tx.run ((.bnd (.bnd (.b (aj .NotIn w19 nF)) fun t22=>.br t22 (.ret true) (.ret false)) fun c21=>.br c21 (.ret (some w19)) (.ret none)))) L it18)) fun l20=>.v (hM l20))) fun a23=>(.b (aj .NotEq a23 (.frz [])))) fun c15=>.br c15
 (.ret .none)
 (.bnd (.bnd (.bnd (.v (ao parts_7 (.int 0))) fun a24=>.ret ([a24,(.int 10)])) fun l25=>(.v (aa (af L) N bL l25))) fun least_26=>(.bnd (.bnd (.v (bU [parts_7])) fun a28=>(.b (aj .Eq a28 (.int 1)))) fun c27=>.br c27
 (.bnd (.bnd (.bnd (.bnd (.bnd (.v (aZ .Add close_2 (.int 1))) fun a29=>.ret ([a29])) fun l30=>.ret (least_26::l30)) fun l31=>.ret (least_26::l31)) fun l32=>.v (eJ l32)) .ret)
 (.bnd (.bnd (.bnd (.bnd (.bnd (.bnd (.v (ao parts_7 (.int 1))) fun a34=>(.b (aj .Eq a34 (.str [])))) fun c33=>.br c33 (.ret (.int (-1))) (.bnd (.bnd (.v (ao parts_7 (.int 1))) fun a35=>.ret ([a35,(.int 10)])) fun l36=>(.v (aa (af L) N bL l36)))) fun a37=>.bnd (.bnd (.v (aZ .Add close_2 (.int 1))) fun a38=>.ret ([a38])) fun l39=>.ret (a37::l39)) fun l40=>.ret (least_26::l40)) fun l41=>.v (eJ l41)) .ret)))))))
theorem gr (L N:Nat) (ai aF:PV):aa (af L) (N+1) cD [ai,aF]=(tO L N ai aF).run:=by kernel_rfl
@[reducible] noncomputable def wD (L N:Nat) (ab:PV):Tx PV:=(.bnd (.bnd (.c (bw (af L) ab dm)) fun k1=>(.v (aW (aa (af L) N) ab dm [] k1))) fun sign_2=>(.bnd (.bnd (.b (aj .NotEq sign_2 (.str []))) fun t4=>.br t4 (.bnd (.b (aj .In sign_2 du)) fun t5=>.br t5 (.ret true) (.ret false)) (.ret false)) fun c3=>.br c3
 (.bnd (.v (aq (af L) ab ba)) fun old6=>(.bnd (.v (dF .Add old6 (.int 1))) fun w7=>.bnd (.u (am (af L) ab ba w7)) fun Z=>(.bnd (.v (ao du sign_2)) .ret)))
 (.bnd (.bnd (.b (aj .Eq sign_2 (.str [123]))) fun c8=>.br c8 (.bnd (.bnd (.v (aq (af L) ab cj)) fun a9=>.bnd (.bnd (.v (aq (af L) ab ba)) fun a10=>.ret ([a10])) fun l11=>.ret (a9::l11)) fun l12=>(.v (aa (af L) N cD l12))) (.ret .none)) fun found_13=>(.bnd (.b (aj .Is found_13 .none)) fun c14=>.br c14
 (.ret .none)
 (.unT found_13 fun l15=>(.unC l15 fun least_16 l17=>(.unC l17 fun most_18 l19=>(.unC l19 fun behind_20 l21=>(.unN l21 (.bnd (.bnd (.v (zq [least_16,most_18])) fun a23=>(.b (aj .Gt a23 pF))) fun c22=>.br c22
 .stop
 (.bnd (.bnd (.b (aj .LtE (.int 0) most_18)) fun t25=>.br t25 (.b (aj .Lt most_18 least_16)) (.ret false)) fun c24=>.br c24
 .stop
 (.bnd (.u (am (af L) ab ba behind_20)) fun Z=>(.ret (.tup [least_16,most_18]))))))))))))))
theorem gk (L N:Nat) (ab:PV):aa (af L) (N+1) eB [ab]=(wD L N ab).run:=by kernel_rfl
@[reducible] noncomputable def uW (L N:Nat) (ab ae:PV):Tx PV:=(.bnd (.bnd (.bnd (.c (bw (af L) ab a_)) fun k2=>(.v (aW (aa (af L) N) ab a_ [(.str [40,63,35])] k2))) fun a3=>(.b (aH a3))) fun c1=>.br c1
 (.bnd (.v (aa (af L) N gP [ab,(.str [41])])) fun _u4=>(.ret (.bool true)))
 (.bnd (.b (aj .NotIn (.str [120]) ae)) fun c5=>.br c5
 (.ret (.bool false))
 (.bnd (.bnd (.bnd (.c (bw (af L) ab dm)) fun k7=>(.v (aW (aa (af L) N) ab dm [] k7))) fun a8=>(.b (aj .Eq a8 (.str [35])))) fun c6=>.br c6
 (.bnd (.bnd (.v (aq (af L) ab cj)) fun a9=>(.bnd (.c (bw (af L) a9 lS)) fun k10=>(.bnd (.bnd (.bnd (.v (aq (af L) ab ba)) fun a11=>.ret ([a11])) fun l12=>.ret ((.str [10])::l12)) fun l13=>(.v (aW (aa (af L) N) a9 lS l13 k10))))) fun close_14=>(.bnd (.bnd (.b (aj .Lt close_14 (.int 0))) fun c15=>.br c15 (.bnd (.bnd (.v (aq (af L) ab cj)) fun a16=>.ret ([a16])) fun l17=>(.v (bU l17))) (.v (aZ .Add close_14 (.int 1)))) fun v_18=>(.bnd (.u (am (af L) ab ba v_18)) fun Z=>(.ret (.bool true)))))
 (.bnd (.bnd (.v (aa (af L) N em [ab,(.str [32,9,10,13,12,11]),(.int (-1))])) fun a20=>(.bnd (.b (aj .NotEq a20 (.str []))) fun c19=>.ret (.bool c19))) .ret))))
theorem uy (L N:Nat) (ab ae:PV):aa (af L) (N+1) eP [ab,ae]=(uW L N ab ae).run:=by kernel_rfl
@[reducible] noncomputable def xO (L N:Nat) (ab ae:PV):Tx PV:=(.bnd (.v (aa (af L) N em [ab,cY,(.int (-1))])) fun put_on_1=>(.bnd (.bnd (.bnd (.bnd (.c (bw (af L) ab a_)) fun k3=>(.v (aW (aa (af L) N) ab a_ [(.str [45])] k3))) fun a4=>(.b (aH a4))) fun c2=>.br c2 (.v (aa (af L) N em [ab,cY,(.int (-1))])) (.ret (.str []))) fun taken_5=>(.bnd (.bnd (.c (bw (af L) (.str []) d9)) fun k6=>(.bnd (.bnd (.bnd (.i (ce cY)) fun it7=>.bnd (.l (compLoop (fun w8=>Tx.run ((.bnd (.bnd (.bnd (.bnd (.b (aj .In w8 ae)) fun t13=>.br t13 (.ret true) (.bnd (.b (aj .In w8 put_on_1)) fun t14=>.br t14 (.ret true) (.ret false))) fun t12=>.br t12 (.bnd (.b (aj .NotIn w8 taken_5)) fun t15=>.br t15 (.ret true) (.ret false)) (.ret false)) fun t11=>.br t11 (.ret true) (.ret false)) fun c10=>.br c10 (.ret (some w8)) (.ret none)))) L it7)) fun l9=>.v (hM l9)) fun a16=>.ret ([a16])) fun l17=>(.v (aW (aa (af L) N) (.str []) d9 l17 k6)))) .ret)))
theorem uV (L N:Nat) (ab ae:PV):aa (af L) (N+1) g8 [ab,ae]=(xO L N ab ae).run:=by kernel_rfl
@[reducible] noncomputable def vj (L N:Nat) (ab ae:PV):Tx PV:=(.bnd (.v (aq (af L) ab ba)) fun begun_1=>(.bnd (.bnd (.bnd (.bnd (.c (bw (af L) ab a_)) fun k4=>(.v (aW (aa (af L) N) ab a_ [(.str [40,63])] k4))) fun a5=>(.b (aH a5))) fun c3=>.ret (!c3)) fun c2=>.br c2
 (.ret .none)
 (.bnd (.v (aa (af L) N g8 [ab,ae])) fun found_6=>(.bnd (.bnd (.bnd (.v (aq (af L) ab ba)) fun a9=>(.bnd (.v (aZ .Add begun_1 (.int 2))) fun b10=>(.b (aj .Gt a9 b10)))) fun t8=>.br t8 (.bnd (.bnd (.bnd (.c (bw (af L) ab a_)) fun k12=>(.v (aW (aa (af L) N) ab a_ [(.str [41])] k12))) fun a13=>(.b (aH a13))) fun t11=>.br t11 (.ret true) (.ret false)) (.ret false)) fun c7=>.br c7
 (.ret found_6)
 (.bnd (.u (am (af L) ab ba begun_1)) fun Z=>(.ret .none))))))
theorem mG (L N:Nat) (ab ae:PV):aa (af L) (N+1) eQ [ab,ae]=(vj L N ab ae).run:=by kernel_rfl
@[reducible] noncomputable def mx (L N:Nat) (ab ae az:PV) (o_node:Option PV):Tx Bool:=(.b (aH (.bool true)))
theorem d8 (L N:Nat) (ab ae az:PV) (o_node:Option PV):fB L N [(aK,some ab),(aw,some ae),(bH,some az),(aJ,o_node)]=(mx L N ab ae az o_node).run:=by kernel_rfl
@[reducible] noncomputable def mB (L N:Nat) (kn kb kc:Kn) (ab ae az:PV) (o_node:Option PV):Tx PV:=(.bnd (.v (aa (af L) N dW [ab,ae])) fun v_2=>(.unT v_2 fun l3=>(.unC l3 fun node_4 l5=>(.unC l5 fun flags_6 l7=>(.unN l7 (.bnd (.bnd (.c (bw (af L) az aY)) fun k8=>(.v (aW (aa (af L) N) az aY [node_4] k8))) fun _u9=>(.bnd (.bnd (.bnd (.bnd (.c (bw (af L) ab a_)) fun k12=>(.v (aW (aa (af L) N) ab a_ [(.str [124])] k12))) fun a13=>(.b (aH a13))) fun c11=>.ret (!c11)) fun c10=>.br c10
 (.bnd (.bnd (.bnd (.v (bU [az])) fun a15=>(.b (aj .Eq a15 (.int 1)))) fun c14=>.br c14 (.v (ao az (.int 0))) (.ret (.tup [(.str [97,108,116]),az]))) .ret)
 (.v (kn [(aK,some ab),(aw,some flags_6),(bH,some az),(aJ,some node_4)])))))))))
theorem ek (L N:Nat) (kn kb kc:Kn) (ab ae az:PV) (o_node:Option PV):fx L N [(aK,some ab),(aw,some ae),(bH,some az),(aJ,o_node)] kn kb kc=(mB L N kn kb kc ab ae az o_node).run:=by kernel_rfl
@[reducible] noncomputable def mz (L N:Nat) (ab ae az:PV) (o_node:Option PV):Tx PV:=(.ret .none)
theorem ej (L N:Nat) (ab ae az:PV) (o_node:Option PV):fG L N [(aK,some ab),(aw,some ae),(bH,some az),(aJ,o_node)]=(mz L N ab ae az o_node).run:=by kernel_rfl
@[reducible] noncomputable def oH (L N:Nat) (ab ae:PV):Tx PV:=(.bnd (.v (bT (.lst []))) fun branches_1=>(.v (bc (fB L N) (fx L N) (fG L N) L [(aK,some ab),(aw,some ae),(bH,some branches_1),(aJ,none)])))
theorem os (L N:Nat) (ab ae:PV):aa (af L) (N+1) cp [ab,ae]=(oH L N ab ae).run:=by kernel_rfl
@[reducible] noncomputable def qO (L N:Nat) (ab ae dJ:PV) (o_changed:Option PV):Tx Bool:=(.bnd (.bnd (.c (bw (af L) ab dm)) fun k2=>(.v (aW (aa (af L) N) ab dm [] k2))) fun a3=>(.b (aj .NotIn a3 (.tup [(.str []),(.str [124]),(.str [41])]))))
theorem ka (L N:Nat) (ab ae dJ:PV) (o_changed:Option PV):jd L N [(aK,some ab),(aw,some ae),(kB,some dJ),(cr,o_changed)]=(qO L N ab ae dJ o_changed).run:=by kernel_rfl
@[reducible] noncomputable def qK (L N:Nat) (kn kb kc:Kn) (ab ae dJ:PV) (o_changed:Option PV):Tx PV:=(.bnd (.bnd (.v (aa (af L) N eP [ab,ae])) fun a5=>(.b (aH a5))) fun c4=>.br c4
 (.v (kc [(aK,some ab),(aw,some ae),(kB,some dJ),(cr,o_changed)]))
 (.bnd (.v (aa (af L) N eQ [ab,ae])) fun changed_6=>(.bnd (.b (aj .IsNot changed_6 .none)) fun c7=>.br c7
 (.v (kc [(aK,some ab),(aw,some changed_6),(kB,some dJ),(cr,some changed_6)]))
 (.bnd (.bnd (.c (bw (af L) dJ aY)) fun k8=>(.bnd (.bnd (.bnd (.bnd (.bnd (.bnd (.v (aa (af L) N bQ [ab,ae])) fun a9=>.ret ([a9])) fun l10=>.ret (ae::l10)) fun l11=>.ret (ab::l11)) fun l12=>(.v (aa (af L) N ec l12))) fun a13=>.ret ([a13])) fun l14=>(.v (aW (aa (af L) N) dJ aY l14 k8)))) fun _u15=>(.v (kn [(aK,some ab),(aw,some ae),(kB,some dJ),(cr,some changed_6)]))))))
theorem jJ (L N:Nat) (kn kb kc:Kn) (ab ae dJ:PV) (o_changed:Option PV):ja L N [(aK,some ab),(aw,some ae),(kB,some dJ),(cr,o_changed)] kn kb kc=(qK L N kn kb kc ab ae dJ o_changed).run:=by kernel_rfl
@[reducible] noncomputable def qQ (L N:Nat) (ab ae dJ:PV) (o_changed:Option PV):Tx PV:=(.ret (.tup [(.tup [(.str [115,101,113]),dJ]),ae]))
theorem kg (L N:Nat) (ab ae dJ:PV) (o_changed:Option PV):jh L N [(aK,some ab),(aw,some ae),(kB,some dJ),(cr,o_changed)]=(qQ L N ab ae dJ o_changed).run:=by kernel_rfl
@[reducible] noncomputable def vC (L N:Nat) (ab ae:PV):Tx PV:=(.bnd (.v (bT (.lst []))) fun parts_1=>(.v (bc (jd L N) (ja L N) (jh L N) L [(aK,some ab),(aw,some ae),(kB,some parts_1),(cr,none)])))
theorem uG (L N:Nat) (ab ae:PV):aa (af L) (N+1) dW [ab,ae]=(vC L N ab ae).run:=by kernel_rfl
@[reducible] noncomputable def yS (L N:Nat) (ab ae:PV):Tx PV:=(.bnd (.bnd (.c (bw (af L) ab dm)) fun k1=>(.v (aW (aa (af L) N) ab dm [] k1))) fun sign_2=>(.bnd (.b (aj .Eq sign_2 (.str [40]))) fun c3=>.br c3
 (.bnd (.v (aa (af L) N jB [ab,ae])) .ret)
 (.bnd (.b (aj .Eq sign_2 (.str [91]))) fun c4=>.br c4
 (.bnd (.bnd (.bnd (.bnd (.bnd (.b (aj .In (.str [105]) ae)) fun c5=>.ret (.bool c5)) fun a6=>.ret ([a6])) fun l7=>.ret (ab::l7)) fun l8=>(.v (aa (af L) N gy l8))) .ret)
 (.bnd (.b (aj .Eq sign_2 (.str [92]))) fun c9=>.br c9
 (.bnd (.v (aa (af L) N cV [ab,ae])) .ret)
 (.bnd (.bnd (.b (aj .In sign_2 du)) fun t11=>.br t11 (.ret true) (.bnd (.bnd (.b (aj .Eq sign_2 (.str [123]))) fun t13=>.br t13 (.bnd (.bnd (.bnd (.bnd (.v (aq (af L) ab cj)) fun a15=>.bnd (.bnd (.v (aq (af L) ab ba)) fun a16=>.ret ([a16])) fun l17=>.ret (a15::l17)) fun l18=>(.v (aa (af L) N cD l18))) fun a19=>(.b (aj .IsNot a19 .none))) fun t14=>.br t14 (.ret true) (.ret false)) (.ret false)) fun t12=>.br t12 (.ret true) (.ret false))) fun c10=>.br c10
 .stop
 (.bnd (.v (aq (af L) ab ba)) fun old20=>(.bnd (.v (dF .Add old20 (.int 1))) fun w21=>.bnd (.u (am (af L) ab ba w21)) fun Z=>(.bnd (.b (aj .Eq sign_2 (.str [46]))) fun c22=>.br c22
 (.bnd (.bnd (.bnd (.bnd (.bnd (.b (aj .In (.str [115]) ae)) fun c23=>.ret (.bool c23)) fun a24=>.ret ([a24])) fun l25=>.ret ((.str [97,110,121])::l25)) fun l26=>.v (eJ l26)) .ret)
 (.bnd (.b (aj .Eq sign_2 (.str [94]))) fun c27=>.br c27
 (.bnd (.bnd (.bnd (.bnd (.bnd (.b (aj .In (.str [109]) ae)) fun c28=>.br c28 (.ret (.str [94,109])) (.ret (.str [65]))) fun a29=>.ret ([a29])) fun l30=>.ret ((.str [97,116])::l30)) fun l31=>.v (eJ l31)) .ret)
 (.bnd (.b (aj .Eq sign_2 (.str [36]))) fun c32=>.br c32
 (.bnd (.bnd (.bnd (.bnd (.bnd (.b (aj .In (.str [109]) ae)) fun c33=>.br c33 (.ret (.str [36,109])) (.ret (.str [90]))) fun a34=>.ret ([a34])) fun l35=>.ret ((.str [97,116])::l35)) fun l36=>.v (eJ l36)) .ret)
 (.bnd (.bnd (.bnd (.bnd (.bnd (.bnd (.b (aj .In (.str [105]) ae)) fun c37=>.ret (.bool c37)) fun a38=>.ret ([a38])) fun l39=>.ret (sign_2::l39)) fun l40=>.ret ((.str [115,105,103,110])::l40)) fun l41=>.v (eJ l41)) .ret)))))))))))
theorem ez (L N:Nat) (ab ae:PV):aa (af L) (N+1) bQ [ab,ae]=(yS L N ab ae).run:=by kernel_rfl
@[reducible] noncomputable def qp (L N:Nat) (ab ae an e9 iz:PV):Tx Bool:=(.bnd (.v (aa (af L) N eP [ab,ae])) fun a7=>(.b (aH a7)))
theorem n6 (L N:Nat) (ab ae an e9 iz:PV):ef L N [(aK,some ab),(aw,some ae),(aJ,some an),(eE,some e9),(gz,some iz),(bl,none)]=(qp L N ab ae an e9 iz).run:=by kernel_rfl
@[reducible] noncomputable def pV (L N:Nat) (kn kb kc:Kn) (ab ae an e9 iz:PV):Tx PV:=(.v (kn [(aK,some ab),(aw,some ae),(aJ,some an),(eE,some e9),(gz,some iz),(bl,none)]))
theorem oe (L N:Nat) (kn kb kc:Kn) (ab ae an e9 iz:PV):ed L N [(aK,some ab),(aw,some ae),(aJ,some an),(eE,some e9),(gz,some iz),(bl,none)] kn kb kc=(pV L N kn kb kc ab ae an e9 iz).run:=by kernel_rfl
@[reducible] noncomputable def pX (L N:Nat) (ab ae an e9 iz:PV):Tx PV:=(.bnd (.v (aq (af L) ab ba)) fun begun_8=>(.bnd (.bnd (.v (aa (af L) N eB [ab])) fun a10=>(.b (aj .IsNot a10 .none))) fun c9=>.br c9
 .stop
 (.bnd (.bnd (.bnd (.bnd (.bnd (.v (ao e9 (.int 0))) fun a11=>.bnd (.bnd (.v (ao e9 (.int 1))) fun a12=>.ret ([a12,iz])) fun l13=>.ret (a11::l13)) fun l14=>.ret (an::l14)) fun l15=>.ret ((.str [114,101,112])::l15)) fun l16=>.v (eJ l16)) .ret)))
theorem n0 (L N:Nat) (ab ae an e9 iz:PV):eg L N [(aK,some ab),(aw,some ae),(aJ,some an),(eE,some e9),(gz,some iz),(bl,none)]=(pX L N ab ae an e9 iz).run:=by kernel_rfl
@[reducible] noncomputable def pM (L N:Nat) (ab ae an:PV):Tx Bool:=(.bnd (.v (aa (af L) N eP [ab,ae])) fun a1=>(.b (aH a1)))
theorem jq (L N:Nat) (ab ae an:PV):fT L N [(aK,some ab),(aw,some ae),(aJ,some an),(eE,none),(gz,none),(bl,none)]=(pM L N ab ae an).run:=by kernel_rfl
@[reducible] noncomputable def p8 (L N:Nat) (kn kb kc:Kn) (ab ae an:PV):Tx PV:=(.v (kn [(aK,some ab),(aw,some ae),(aJ,some an),(eE,none),(gz,none),(bl,none)]))
theorem jp (L N:Nat) (kn kb kc:Kn) (ab ae an:PV):fX L N [(aK,some ab),(aw,some ae),(aJ,some an),(eE,none),(gz,none),(bl,none)] kn kb kc=(p8 L N kn kb kc ab ae an).run:=by kernel_rfl
@[reducible] noncomputable def pW (L N:Nat) (ab ae an:PV):Tx PV:=(.bnd (.v (aa (af L) N eB [ab])) fun count_2=>(.bnd (.b (aj .Is count_2 .none)) fun c3=>.br c3
 (.ret an)
 (.bnd (.bnd (.bnd (.c (bw (af L) ab a_)) fun k5=>(.v (aW (aa (af L) N) ab a_ [(.str [63])] k5))) fun a6=>(.b (aH a6))) fun c4=>.br c4
 (.v (bc (ef L N) (ed L N) (eg L N) L [(aK,some ab),(aw,some ae),(aJ,some an),(eE,some count_2),(gz,some (.str [108,97,122,121])),(bl,none)]))
 (.bnd (.bnd (.bnd (.c (bw (af L) ab a_)) fun k18=>(.v (aW (aa (af L) N) ab a_ [(.str [43])] k18))) fun a19=>(.b (aH a19))) fun c17=>.br c17
 (.v (bc (ef L N) (ed L N) (eg L N) L [(aK,some ab),(aw,some ae),(aJ,some an),(eE,some count_2),(gz,some (.str [111,119,110])),(bl,none)]))
 (.v (bc (ef L N) (ed L N) (eg L N) L [(aK,some ab),(aw,some ae),(aJ,some an),(eE,some count_2),(gz,some (.str [103,114,101,101,100,121])),(bl,none)]))))))
theorem jm (L N:Nat) (ab ae an:PV):f0 L N [(aK,some ab),(aw,some ae),(aJ,some an),(eE,none),(gz,none),(bl,none)]=(pW L N ab ae an).run:=by kernel_rfl
@[reducible] noncomputable def tT (L N:Nat) (ab ae an:PV):Tx PV:=(.v (bc (fT L N) (fX L N) (f0 L N) L [(aK,some ab),(aw,some ae),(aJ,some an),(eE,none),(gz,none),(bl,none)]))
theorem mm (L N:Nat) (ab ae an:PV):aa (af L) (N+1) ec [ab,ae,an]=(tT L N ab ae an).run:=by kernel_rfl
@[reducible] noncomputable def xK (L N:Nat) (ab ae aM:PV):Tx PV:=(.bnd (.bnd (.v (aq (af L) ab fb)) fun a2=>(.b (aj .Eq a2 kW))) fun c1=>.br c1
 .stop
 (.bnd (.v (aq (af L) ab fb)) fun old3=>(.bnd (.v (dF .Add old3 (.int 1))) fun w4=>.bnd (.u (am (af L) ab fb w4)) fun Z=>(.bnd (.v (aa (af L) N cp [ab,ae])) fun node_5=>(.bnd (.v (aq (af L) ab fb)) fun old6=>(.bnd (.v (dF .Sub old6 (.int 1))) fun w7=>.bnd (.u (am (af L) ab fb w7)) fun Z=>(.bnd (.bnd (.bnd (.bnd (.c (bw (af L) ab a_)) fun k10=>(.v (aW (aa (af L) N) ab a_ [(.str [41])] k10))) fun a11=>(.b (aH a11))) fun c9=>.ret (!c9)) fun c8=>.br c8
 .stop
 (.ret node_5))))))))
theorem vh (L N:Nat) (ab ae aM:PV):aa (af L) (N+1) eD [ab,ae,aM]=(xK L N ab ae aM).run:=by kernel_rfl
@[reducible] noncomputable def rZ (L N:Nat) (w:PV) (kn kb kc:Kn) (ab ae aM:PV) (o_opening o_is_behind o_is_negated o_close o_name:Option PV):Tx PV:=(.unT w fun l18=>(.unC l18 fun opening_19 l20=>(.unC l20 fun close_21 l22=>(.unN l22 (.bnd (.bnd (.bnd (.c (bw (af L) ab a_)) fun k24=>(.v (aW (aa (af L) N) ab a_ [opening_19] k24))) fun a25=>(.b (aH a25))) fun c23=>.br c23
 (.bnd (.v (aa (af L) N gP [ab,close_21])) fun name_26=>(.bnd (.bnd (.bnd (.v (aa (af L) N mD [name_26])) fun a29=>(.b (aH a29))) fun c28=>.ret (!c28)) fun c27=>.br c27
 .stop
 (.bnd (.v (aa (af L) N jL [ab,ae,aM,name_26])) .ret)))
 (.v (kn [(aK,some ab),(aw,some ae),(bl,some aM),(fM,some opening_19),(dL,o_is_behind),(bB,o_is_negated),(jy,some close_21),(lG,o_name),(cr,none)])))))))
theorem qm (L N:Nat) (w:PV) (kn kb kc:Kn) (ab ae aM:PV) (o_opening o_is_behind o_is_negated o_close o_name:Option PV):fA L N w [(aK,some ab),(aw,some ae),(bl,some aM),(fM,o_opening),(dL,o_is_behind),(bB,o_is_negated),(jy,o_close),(lG,o_name),(cr,none)] kn kb kc=(rZ L N w kn kb kc ab ae aM o_opening o_is_behind o_is_negated o_close o_name).run:=by kernel_rfl
@[reducible] noncomputable def r7 (L N:Nat) (ab ae aM:PV) (o_opening o_is_behind o_is_negated o_close o_name:Option PV):Tx PV:=(.bnd (.bnd (.bnd (.bnd (.c (bw (af L) ab a_)) fun k32=>(.v (aW (aa (af L) N) ab a_ [(.str [40,63])] k32))) fun a33=>(.b (aH a33))) fun c31=>.ret (!c31)) fun c30=>.br c30
 (.bnd (.v (aq (af L) ab ba)) fun old34=>(.bnd (.v (dF .Add old34 (.int 1))) fun w35=>.bnd (.u (am (af L) ab ba w35)) fun Z=>(.bnd (.v (aa (af L) N jL [ab,ae,aM,(.str [])])) .ret)))
 (.bnd (.v (aa (af L) N g8 [ab,ae])) fun changed_36=>(.bnd (.bnd (.bnd (.bnd (.c (bw (af L) ab a_)) fun k39=>(.v (aW (aa (af L) N) ab a_ [(.str [58])] k39))) fun a40=>(.b (aH a40))) fun c38=>.ret (!c38)) fun c37=>.br c37
 .stop
 (.bnd (.v (aa (af L) N eD [ab,changed_36,aM])) .ret))))
theorem qA (L N:Nat) (ab ae aM:PV) (o_opening o_is_behind o_is_negated o_close o_name:Option PV):el L N [(aK,some ab),(aw,some ae),(bl,some aM),(fM,o_opening),(dL,o_is_behind),(bB,o_is_negated),(jy,o_close),(lG,o_name),(cr,none)]=(r7 L N ab ae aM o_opening o_is_behind o_is_negated o_close o_name).run:=by kernel_rfl
@[reducible] noncomputable def sy (L N:Nat) (w:PV) (kn kb kc:Kn) (ab ae aM:PV) (o_opening o_is_behind o_is_negated:Option PV):Tx PV:=(.unT w fun l2=>(.unC l2 fun opening_3 l4=>(.unC l4 fun is_behind_5 l6=>(.unC l6 fun is_negated_7 l8=>(.unN l8 (.bnd (.bnd (.bnd (.c (bw (af L) ab a_)) fun k10=>(.v (aW (aa (af L) N) ab a_ [opening_3] k10))) fun a11=>(.b (aH a11))) fun c9=>.br c9
 (.bnd (.v (aa (af L) N ry [ab,ae,aM,is_behind_5,is_negated_7])) .ret)
 (.v (kn [(aK,some ab),(aw,some ae),(bl,some aM),(fM,some opening_3),(dL,some is_behind_5),(bB,some is_negated_7),(jy,none),(lG,none),(cr,none)]))))))))
theorem qq (L N:Nat) (w:PV) (kn kb kc:Kn) (ab ae aM:PV) (o_opening o_is_behind o_is_negated:Option PV):fr L N w [(aK,some ab),(aw,some ae),(bl,some aM),(fM,o_opening),(dL,o_is_behind),(bB,o_is_negated),(jy,none),(lG,none),(cr,none)] kn kb kc=(sy L N w kn kb kc ab ae aM o_opening o_is_behind o_is_negated).run:=by kernel_rfl
@[reducible] noncomputable def sG (L N:Nat) (ab ae aM:PV) (o_opening o_is_behind o_is_negated:Option PV):Tx PV:=(.bnd (.bnd (.bnd (.c (bw (af L) ab a_)) fun k13=>(.v (aW (aa (af L) N) ab a_ [(.str [40,63,62])] k13))) fun a14=>(.b (aH a14))) fun c12=>.br c12
 (.bnd (.bnd (.bnd (.bnd (.v (aa (af L) N eD [ab,ae,aM])) fun a15=>.ret ([a15])) fun l16=>.ret ((.str [97,116,111,109,105,99])::l16)) fun l17=>.v (eJ l17)) .ret)
 (.bnd (.i (ce qj)) fun it41=>.v (cJ (fA L N) (el L N) L it41 [(aK,some ab),(aw,some ae),(bl,some aM),(fM,o_opening),(dL,o_is_behind),(bB,o_is_negated),(jy,none),(lG,none),(cr,none)])))
theorem pL (L N:Nat) (ab ae aM:PV) (o_opening o_is_behind o_is_negated:Option PV):d_ L N [(aK,some ab),(aw,some ae),(bl,some aM),(fM,o_opening),(dL,o_is_behind),(bB,o_is_negated),(jy,none),(lG,none),(cr,none)]=(sG L N ab ae aM o_opening o_is_behind o_is_negated).run:=by kernel_rfl
@[reducible] noncomputable def ya (L N:Nat) (ab ae:PV):Tx PV:=(.bnd (.v (aq (af L) ab ba)) fun begun_1=>(.bnd (.i (ce Cp)) fun it42=>.v (cJ (fr L N) (d_ L N) L it42 [(aK,some ab),(aw,some ae),(bl,some begun_1),(fM,none),(dL,none),(bB,none),(jy,none),(lG,none),(cr,none)])))
theorem vo (L N:Nat) (ab ae:PV):aa (af L) (N+1) jB [ab,ae]=(ya L N ab ae).run:=by kernel_rfl
@[reducible] noncomputable def vi (L N:Nat) (ab ae:PV):Tx PV:=(.bnd (.v (aq (af L) ab ba)) fun at_1=>(.bnd (.bnd (.b (aj .In (.str [105]) ae)) fun c2=>.ret (.bool c2)) fun is_folded_3=>(.bnd (.v (aq (af L) ab ba)) fun old4=>(.bnd (.v (dF .Add old4 (.int 1))) fun w5=>.bnd (.u (am (af L) ab ba w5)) fun Z=>(.bnd (.bnd (.c (bw (af L) ab dm)) fun k6=>(.v (aW (aa (af L) N) ab dm [] k6))) fun letter_7=>(.bnd (.bnd (.b (aj .NotEq letter_7 (.str []))) fun t9=>.br t9 (.bnd (.bnd (.v (aZ .Add je (.str [78]))) fun b11=>(.b (aj .In letter_7 b11))) fun t10=>.br t10 (.ret true) (.ret false)) (.ret false)) fun c8=>.br c8
 (.bnd (.v (aq (af L) ab ba)) fun old12=>(.bnd (.v (dF .Add old12 (.int 1))) fun w13=>.bnd (.u (am (af L) ab ba w13)) fun Z=>(.ret (.tup [(.str [115,101,116]),(.frz [(.tup [(.str [99,108,97,115,115]),letter_7])]),(.bool false),(.bool false)]))))
 (.bnd (.bnd (.b (aj .NotEq letter_7 (.str []))) fun t15=>.br t15 (.bnd (.b (aj .In letter_7 (.str [65,122,90,98,66,71]))) fun t16=>.br t16 (.ret true) (.ret false)) (.ret false)) fun c14=>.br c14
 (.bnd (.v (aq (af L) ab ba)) fun old17=>(.bnd (.v (dF .Add old17 (.int 1))) fun w18=>.bnd (.u (am (af L) ab ba w18)) fun Z=>(.ret (.tup [(.str [97,116]),letter_7]))))
 (.bnd (.bnd (.bnd (.c (bw (af L) ab a_)) fun k20=>(.v (aW (aa (af L) N) ab a_ [(.str [103])] k20))) fun a21=>(.b (aH a21))) fun c19=>.br c19
 (.bnd (.bnd (.bnd (.bnd (.v (aa (af L) N i7 [ab,at_1])) fun a22=>.ret ([a22,is_folded_3])) fun l23=>.ret ((.str [98,97,99,107])::l23)) fun l24=>.v (eJ l24)) .ret)
 (.bnd (.bnd (.bnd (.c (bw (af L) ab a_)) fun k26=>(.v (aW (aa (af L) N) ab a_ [(.str [107])] k26))) fun a27=>(.b (aH a27))) fun c25=>.br c25
 (.bnd (.bnd (.bnd (.bnd (.v (aa (af L) N kP [ab,at_1])) fun a28=>.ret ([a28,is_folded_3])) fun l29=>.ret ((.str [98,97,99,107])::l29)) fun l30=>.v (eJ l30)) .ret)
 (.bnd (.bnd (.b (aj .NotEq letter_7 (.str []))) fun t32=>.br t32 (.bnd (.b (aj .In letter_7 (.str [49,50,51,52,53,54,55,56,57]))) fun t33=>.br t33 (.ret true) (.ret false)) (.ret false)) fun c31=>.br c31
 (.bnd (.v (aq (af L) ab ba)) fun begun_34=>(.bnd (.bnd (.bnd (.v (aa (af L) N em [ab,nF,(.int (-1))])) fun a35=>.ret ([a35,(.int 10)])) fun l36=>(.v (aa (af L) N bL l36))) fun number_37=>(.bnd (.bnd (.b (aj .Lt number_37 (.int 10))) fun t39=>.br t39 (.ret true) (.bnd (.bnd (.v (aq (af L) ab qk)) fun b41=>(.b (aj .LtE number_37 b41))) fun t40=>.br t40 (.ret true) (.ret false))) fun c38=>.br c38
 (.bnd (.bnd (.bnd (.bnd (.v (aa (af L) N ug [ab,(.frz [number_37]),at_1])) fun a42=>.ret ([a42,is_folded_3])) fun l43=>.ret ((.str [98,97,99,107])::l43)) fun l44=>.v (eJ l44)) .ret)
 (.bnd (.u (am (af L) ab ba begun_34)) fun Z=>(.bnd (.bnd (.b (aj .NotEq letter_7 (.str []))) fun t46=>.br t46 (.bnd (.b (aj .In letter_7 (.str [112,80,75,82,88]))) fun t47=>.br t47 (.ret true) (.ret false)) (.ret false)) fun c45=>.br c45
 .stop
 (.bnd (.bnd (.bnd (.bnd (.v (aa (af L) N bP [ab])) fun a48=>.ret ([a48,is_folded_3])) fun l49=>.ret ((.str [115,105,103,110])::l49)) fun l50=>.v (eJ l50)) .ret))))))
 (.bnd (.bnd (.b (aj .NotEq letter_7 (.str []))) fun t52=>.br t52 (.bnd (.b (aj .In letter_7 (.str [112,80,75,82,88]))) fun t53=>.br t53 (.ret true) (.ret false)) (.ret false)) fun c51=>.br c51
 .stop
 (.bnd (.bnd (.bnd (.bnd (.v (aa (af L) N bP [ab])) fun a54=>.ret ([a54,is_folded_3])) fun l55=>.ret ((.str [115,105,103,110])::l55)) fun l56=>.v (eJ l56)) .ret))))))))))))
theorem fJ (L N:Nat) (ab ae:PV):aa (af L) (N+1) cV [ab,ae]=(vi L N ab ae).run:=by kernel_rfl
@[reducible] noncomputable def o7 (L N:Nat) (w:PV) (kn kb kc:Kn) (ai ae ab an:PV) (o_numbers o_at:Option PV):Tx PV:=(.unT w fun l21=>(.unC l21 fun numbers_22 l23=>(.unC l23 fun at_24 l25=>(.unN l25 (.bnd (.bnd (.b (aj .Eq numbers_22 (.frz []))) fun t27=>.br t27 (.ret true) (.bnd (.bnd (.v (y_ [numbers_22])) fun a29=>(.b (aj .Lt a29 (.int 1)))) fun t28=>.br t28 (.ret true) (.bnd (.bnd (.v (zq [numbers_22])) fun a31=>(.bnd (.v (aq (af L) ab bx)) fun b32=>(.b (aj .Gt a31 b32)))) fun t30=>.br t30 (.ret true) (.ret false)))) fun c26=>.br c26
 .stop
 (.v (kn [(aD,some ai),(aw,some ae),(aK,some ab),(aJ,some an),(jD,some numbers_22),(bv,some at_24)])))))))
theorem zS (L N:Nat) (w:PV) (kn kb kc:Kn) (ai ae ab an:PV) (o_numbers o_at:Option PV):hY L N w [(aD,some ai),(aw,some ae),(aK,some ab),(aJ,some an),(jD,o_numbers),(bv,o_at)] kn kb kc=(o7 L N w kn kb kc ai ae ab an o_numbers o_at).run:=by kernel_rfl
@[reducible] noncomputable def oV (L N:Nat) (ai ae ab an:PV) (o_numbers o_at:Option PV):Tx PV:=(.bnd (.bnd (.bnd (.bnd (.v (aq (af L) ab bx)) fun a33=>.bnd (.bnd (.v (aq (af L) ab iL)) fun a34=>.ret ([a34])) fun l35=>.ret (a33::l35)) fun l36=>.ret (an::l36)) fun l37=>.v (eJ l37)) .ret)
theorem mR (L N:Nat) (ai ae ab an:PV) (o_numbers o_at:Option PV):dQ L N [(aD,some ai),(aw,some ae),(aK,some ab),(aJ,some an),(jD,o_numbers),(bv,o_at)]=(oV L N ai ae ab an o_numbers o_at).run:=by kernel_rfl
@[reducible] noncomputable def sj (L N:Nat) (ai ae:PV):Tx PV:=(.bnd (.bnd (.bnd (.bnd (.v (aa (af L) N g9 [ai])) fun a1=>.ret ([a1])) fun l2=>.ret (ai::l2)) fun l3=>(.v (aa (af L) N (.cls gn) l3))) fun state_4=>(.bnd (.bnd (.bnd (.bnd (.bnd (.c (bw (af L) (.str []) d9)) fun k5=>(.bnd (.bnd (.bnd (.i (ce cY)) fun it6=>.bnd (.l (compLoop (fun w7=>Tx.run ((.bnd (.bnd (.b (aj .In w7 ae)) fun t10=>.br t10 (.ret true) (.ret false)) fun c9=>.br c9 (.ret (some w7)) (.ret none)))) L it6)) fun l8=>.v (hM l8)) fun a11=>.ret ([a11])) fun l12=>(.v (aW (aa (af L) N) (.str []) d9 l12 k5)))) fun a13=>.ret ([a13])) fun l14=>.ret (state_4::l14)) fun l15=>(.v (aa (af L) N cp l15))) fun node_16=>(.bnd (.bnd (.v (aq (af L) state_4 ba)) fun a18=>(.bnd (.v (bU [ai])) fun b19=>(.b (aj .Lt a18 b19)))) fun c17=>.br c17
 .stop
 (.bnd (.v (aq (af L) state_4 lz)) fun a20=>(.bnd (.i (ce a20)) fun it38=>.v (cJ (hY L N) (dQ L N) L it38 [(aD,some ai),(aw,some ae),(aK,some state_4),(aJ,some node_16),(jD,none),(bv,none)]))))))
theorem qV (L N:Nat) (ai ae:PV):aa (af L) (N+1) gv [ai,ae]=(sj L N ai ae).run:=by kernel_rfl
@[reducible] noncomputable def pR (L N:Nat) (ai ae:PV):Tx PV:=(.bnd (.v (aa (af L) N gv [ai,ae])) fun v_1=>(.unT v_1 fun l2=>(.unC l2 fun node_3 l4=>(.unC l4 fun groups_5 l6=>(.unC l6 fun names_7 l8=>(.unN l8 (.bnd (.v (aa (af L) N g_ [node_3,groups_5,names_7])) .ret)))))))
theorem oN (L N:Nat) (ai ae:PV):aa (af L) (N+1) dO [ai,ae]=(pR L N ai ae).run:=by kernel_rfl
end
section
open PySem
@[reducible] noncomputable def BT (L N:Nat):Tx PV:=(.ret (.frz [(.tup [(.str [97]),(.str [97]),(.bool false),(.bool true)]),(.tup [(.str [98]),(.str [98]),(.bool false),(.bool true)]),(.tup [(.str [65]),(.str [65]),(.bool false),(.bool true)]),(.tup [(.str [46]),(.str [10]),(.bool true),(.bool false)]),(.tup [(.str [92,100]),(.str [49]),(.bool false),(.bool false)]),(.tup [(.str [92,119]),(.str [97,98,65,66,49,95]),(.bool false),(.bool false)]),(.tup [(.str [91,97,98,93]),(.str [97,98]),(.bool false),(.bool true)]),(.tup [(.str [92,110]),(.str [10]),(.bool false),(.bool true)]),(.tup [(.str [91,94,97,66,93]),(.str [97,66]),(.bool true),(.bool true)]),(.tup [(.str [91,65,45,66,97,93]),(.str [65,66,97]),(.bool false),(.bool true)]),(.tup [(.str [91,92,100,95,45,93]),(.str [49,95,45]),(.bool false),(.bool true)]),(.tup [(.str [92,115]),(.str [32,10]),(.bool false),(.bool false)]),(.tup [(.str [91,94,92,115,93]),(.str [32,10]),(.bool true),(.bool true)]),(.tup [(.str [92,120,54,49]),(.str [97]),(.bool false),(.bool true)]),(.tup [(.str [91,91,58,117,112,112,101,114,58,93,93]),(.str [65,66]),(.bool false),(.bool true)]),(.tup [(.str [92,49,48,49]),(.str [65]),(.bool false),(.bool true)]),(.tup [(.str [92,87]),(.str [97,98,65,66,49,95]),(.bool true),(.bool false)]),(.tup [(.str [49]),(.str [49]),(.bool false),(.bool true)]),(.tup [(.str [92,83]),(.str [32,10]),(.bool true),(.bool false)]),(.tup [(.str [91,93,98,93]),(.str [98]),(.bool false),(.bool true)])]))
theorem Jy (L N:Nat):aa (af L) (N+1) ft []=(BT L N).run:=by kernel_rfl
@[reducible] noncomputable def xj (L N:Nat):Tx PV:=(.ret (.frz [(.tup [(.int 0),(.int (-1)),(.str [42])]),(.tup [(.int 1),(.int (-1)),(.str [43])]),(.tup [(.int 0),(.int 1),(.str [63])]),(.tup [(.int 2),(.int 2),(.str [123,50,125])]),(.tup [(.int 1),(.int 2),(.str [123,49,44,50,125])]),(.tup [(.int 0),(.int 2),(.str [123,48,44,50,125])]),(.tup [(.int 1),(.int (-1)),(.str [123,49,44,125])])]))
theorem Hm (L N:Nat):aa (af L) (N+1) fQ []=(xj L N).run:=by kernel_rfl
@[reducible] noncomputable def wT (L N:Nat):Tx PV:=(.ret (.frz [(.str [94]),(.str [36]),(.str [92,65]),(.str [92,122]),(.str [92,90]),(.str [92,98]),(.str [92,66])]))
theorem Hh (L N:Nat):aa (af L) (N+1) gb []=(wT L N).run:=by kernel_rfl
@[reducible] noncomputable def By (L N:Nat) (bF uf:PV):Tx PV:=(.bnd (.v (ao bF (.int 1))) fun spot_1=>(.bnd (.v (aZ .Add spot_1 (.int 1))) fun v_2=>(.bnd (.u (cb bF (.int 1) v_2)) fun Z=>(.bnd (.bnd (.bnd (.bnd (.v (ao bF (.int 0))) fun a4=>.ret ([a4])) fun l5=>(.v (bU l5))) fun b6=>(.b (aj .Lt spot_1 b6))) fun c3=>.br c3
 (.bnd (.bnd (.bnd (.v (ao bF (.int 0))) fun a7=>(.v (ao a7 spot_1))) fun a8=>(.v (aZ .Mod a8 uf))) .ret)
 (.bnd (.bnd (.bnd (.bnd (.v (ao bF (.int 2))) fun a9=>(.bnd (.v (aZ .Mult (.int 7) spot_1)) fun b10=>(.v (aZ .Add a9 b10)))) fun a11=>(.bnd (.bnd (.v (aZ .Mult spot_1 spot_1)) fun a12=>(.v (aZ .FloorDiv a12 (.int 3)))) fun b13=>(.v (aZ .Add a11 b13)))) fun a14=>(.v (aZ .Mod a14 uf))) .ret)))))
theorem rA (L N:Nat) (bF uf:PV):aa (af L) (N+1) aV [bF,uf]=(By L N bF uf).run:=by kernel_rfl
@[reducible] noncomputable def Bw (L N:Nat) (bF ji gp:PV):Tx PV:=(.bnd (.v (aa (af L) N aV [bF,(.int 8)])) fun way_1=>(.bnd (.bnd (.b (aj .Lt way_1 (.int 3))) fun t3=>.br t3 (.ret true) (.bnd (.b (aj .Eq ji (.int 0))) fun t4=>.br t4 (.ret true) (.ret false))) fun c2=>.br c2
 (.bnd (.bnd (.bnd (.bnd (.bnd (.v (aa (af L) N ft [])) fun a5=>(.bnd (.bnd (.bnd (.bnd (.bnd (.bnd (.v (aa (af L) N ft [])) fun a6=>.ret ([a6])) fun l7=>(.v (bU l7))) fun a8=>.ret ([a8])) fun l9=>.ret (bF::l9)) fun l10=>(.v (aa (af L) N aV l10))) fun i11=>(.v (ao a5 i11)))) fun a12=>.ret ([a12])) fun l13=>.ret ((.str [111,110,101])::l13)) fun l14=>.v (eJ l14)) .ret)
 (.bnd (.bnd (.b (aj .Eq way_1 (.int 3))) fun t16=>.br t16 (.bnd (.bnd (.v (ao bF (.int 3))) fun a18=>(.b (aj .Lt a18 (.int 4)))) fun t17=>.br t17 (.ret true) (.ret false)) (.ret false)) fun c15=>.br c15
 (.bnd (.v (ao bF (.int 3))) fun old19=>(.bnd (.v (dF .Add old19 (.int 1))) fun w20=>.bnd (.u (cb bF (.int 3) w20)) fun Z=>(.bnd (.bnd (.bnd (.bnd (.bnd (.v (fO [(.int 2)])) fun a21=>(.bnd (.i (ce a21)) fun it22=>.bnd (.l (compLoop (fun w23=>Tx.run ((.bnd (.bnd (.bnd (.bnd (.v (aZ .Sub ji (.int 1))) fun a25=>.ret ([a25,gp])) fun l26=>.ret (bF::l26)) fun l27=>(.v (aa (af L) N eo l27))) fun x28=>(.ret (some x28))))) L it22)) fun l24=>.v (hM l24))) fun a29=>.ret ([a29])) fun l30=>.ret ((.str [98,114,97,110,99,104,101,115])::l30)) fun l31=>.v (eJ l31)) .ret)))
 (.bnd (.b (aj .Eq way_1 (.int 4))) fun c32=>.br c32
 (.bnd (.bnd (.bnd (.bnd (.bnd (.v (aa (af L) N gb [])) fun a33=>(.bnd (.v (aa (af L) N aV [bF,(.int 7)])) fun i34=>(.v (ao a33 i34)))) fun a35=>.ret ([a35])) fun l36=>.ret ((.str [112,108,97,99,101])::l36)) fun l37=>.v (eJ l37)) .ret)
 (.bnd (.bnd (.b (aj .Lt way_1 (.int 7))) fun t39=>.br t39 (.bnd (.b (aj .Gt gp (.int 0))) fun t40=>.br t40 (.bnd (.bnd (.v (ao bF (.int 3))) fun a42=>(.b (aj .Lt a42 (.int 3)))) fun t41=>.br t41 (.ret true) (.ret false)) (.ret false)) (.ret false)) fun c38=>.br c38
 (.bnd (.v (ao bF (.int 3))) fun old43=>(.bnd (.v (dF .Add old43 (.int 2))) fun w44=>.bnd (.u (cb bF (.int 3) w44)) fun Z=>(.bnd (.bnd (.v (aa (af L) N fQ [])) fun a45=>(.bnd (.v (aa (af L) N aV [bF,(.int 7)])) fun i46=>(.v (ao a45 i46)))) fun v_47=>(.unT v_47 fun l48=>(.unC l48 fun least_49 l50=>(.unC l50 fun most_51 l52=>(.unC l52 fun mark_53 l54=>(.unN l54 (.bnd (.bnd (.bnd (.bnd (.bnd (.bnd (.bnd (.v (aZ .Sub ji (.int 1))) fun a55=>.bnd (.bnd (.v (aZ .Sub gp (.int 1))) fun a56=>.ret ([a56])) fun l57=>.ret (a55::l57)) fun l58=>.ret (bF::l58)) fun l59=>(.v (aa (af L) N cT l59))) fun a60=>.ret ([a60,least_49,most_51,mark_53])) fun l61=>.ret ((.str [114,111,117,110,100,115])::l61)) fun l62=>.v (eJ l62)) .ret)))))))))
 (.bnd (.bnd (.bnd (.bnd (.v (aZ .Sub ji (.int 1))) fun a63=>.ret ([a63,gp])) fun l64=>.ret (bF::l64)) fun l65=>(.v (aa (af L) N eo l65))) .ret))))))
theorem gC (L N:Nat) (bF ji gp:PV):aa (af L) (N+1) cT [bF,ji,gp]=(Bw L N bF ji gp).run:=by kernel_rfl
@[reducible] noncomputable def DG (L N:Nat) (bF ji gp:PV):Tx PV:=(.bnd (.bnd (.bnd (.bnd (.bnd (.bnd (.bnd (.v (aa (af L) N aV [bF,(.int 4)])) fun a1=>.ret ([a1])) fun l2=>(.v (fO l2))) fun a3=>(.bnd (.i (ce a3)) fun it4=>.bnd (.l (compLoop (fun w5=>Tx.run ((.bnd (.v (aa (af L) N cT [bF,ji,gp])) fun x7=>(.ret (some x7))))) L it4)) fun l6=>.v (hM l6))) fun a8=>.ret ([a8])) fun l9=>.ret ((.str [114,111,119])::l9)) fun l10=>.v (eJ l10)) .ret)
theorem AS (L N:Nat) (bF ji gp:PV):aa (af L) (N+1) eo [bF,ji,gp]=(DG L N bF ji gp).run:=by kernel_rfl
@[reducible] noncomputable def zf (L N:Nat) (an:PV):Tx PV:=(.bnd (.bnd (.v (ao an (.int 0))) fun a2=>(.b (aj .Eq a2 (.str [111,110,101])))) fun c1=>.br c1
 (.bnd (.bnd (.v (ao an (.int 1))) fun a3=>(.v (ao a3 (.int 0)))) .ret)
 (.bnd (.bnd (.v (ao an (.int 0))) fun a5=>(.b (aj .Eq a5 (.str [112,108,97,99,101])))) fun c4=>.br c4
 (.bnd (.v (ao an (.int 1))) .ret)
 (.bnd (.bnd (.v (ao an (.int 0))) fun a7=>(.b (aj .Eq a7 (.str [114,111,119])))) fun c6=>.br c6
 (.bnd (.bnd (.c (bw (af L) (.str []) d9)) fun k8=>(.bnd (.bnd (.bnd (.v (ao an (.int 1))) fun a9=>(.bnd (.i (ce a9)) fun it10=>.bnd (.l (compLoop (fun w11=>Tx.run ((.bnd (.v (aa (af L) N aU [w11])) fun x13=>(.ret (some x13))))) L it10)) fun l12=>.v (hM l12))) fun a14=>.ret ([a14])) fun l15=>(.v (aW (aa (af L) N) (.str []) d9 l15 k8)))) .ret)
 (.bnd (.bnd (.v (ao an (.int 0))) fun a17=>(.b (aj .Eq a17 (.str [98,114,97,110,99,104,101,115])))) fun c16=>.br c16
 (.bnd (.bnd (.bnd (.bnd (.c (bw (af L) (.str [124]) d9)) fun k18=>(.bnd (.bnd (.bnd (.v (ao an (.int 1))) fun a19=>(.bnd (.i (ce a19)) fun it20=>.bnd (.l (compLoop (fun w21=>Tx.run ((.bnd (.v (aa (af L) N aU [w21])) fun x23=>(.ret (some x23))))) L it20)) fun l22=>.v (hM l22))) fun a24=>.ret ([a24])) fun l25=>(.v (aW (aa (af L) N) (.str [124]) d9 l25 k18)))) fun b26=>(.v (aZ .Add (.str [40,63,58]) b26))) fun a27=>(.v (aZ .Add a27 (.str [41])))) .ret)
 (.bnd (.bnd (.bnd (.v (ao an (.int 1))) fun a28=>.ret ([a28])) fun l29=>(.v (aa (af L) N aU l29))) fun inner_30=>(.bnd (.bnd (.bnd (.bnd (.bnd (.v (ao an (.int 1))) fun a32=>(.v (ao a32 (.int 0)))) fun a33=>(.b (aj .In a33 (.tup [(.str [111,110,101]),(.str [98,114,97,110,99,104,101,115])])))) fun c31=>.br c31 (.ret inner_30) (.bnd (.v (aZ .Add (.str [40,63,58]) inner_30)) fun a34=>(.v (aZ .Add a34 (.str [41]))))) fun a35=>(.bnd (.v (ao an (.int 4))) fun b36=>(.v (aZ .Add a35 b36)))) .ret))))))
theorem f_ (L N:Nat) (an:PV):aa (af L) (N+1) aU [an]=(zf L N an).run:=by kernel_rfl
@[reducible] noncomputable def yv (L N:Nat) (eL aE ae:PV):Tx PV:=(.bnd (.bnd (.bnd (.v (ao eL (.int 0))) fun a3=>(.b (aj .Eq a3 (.str [46])))) fun t2=>.br t2 (.bnd (.b (aj .In (.str [115]) ae)) fun t4=>.br t4 (.ret true) (.ret false)) (.ret false)) fun c1=>.br c1
 (.ret (.bool true))
 (.bnd (.bnd (.bnd (.bnd (.v (ao eL (.int 1))) fun b7=>(.b (aj .In aE b7))) fun c6=>.ret (.bool c6)) fun a8=>(.bnd (.b (aH a8)) fun t5=>.br t5 (.ret a8) (.bnd (.v (ao eL (.int 3))) fun a10=>(.bnd (.b (aH a10)) fun t9=>.br t9 (.bnd (.bnd (.b (aj .In (.str [105]) ae)) fun c12=>.ret (.bool c12)) fun a13=>(.bnd (.b (aH a13)) fun t11=>.br t11 (.bnd (.bnd (.c (bw (af L) aE oU)) fun k15=>(.v (aW (aa (af L) N) aE oU [] k15))) fun a16=>(.bnd (.bnd (.v (ao eL (.int 1))) fun b17=>(.b (aj .In a16 b17))) fun c14=>.ret (.bool c14))) (.ret a13))) (.ret a10))))) fun found_18=>(.bnd (.bnd (.bnd (.v (ao eL (.int 2))) fun b20=>(.b (aj .NotEq found_18 b20))) fun c19=>.ret (.bool c19)) .ret)))
theorem qE (L N:Nat) (eL aE ae:PV):aa (af L) (N+1) i0 [eL,aE,ae]=(yv L N eL aE ae).run:=by kernel_rfl
@[reducible] noncomputable def u1 (L N:Nat) (aE:PV):Tx PV:=(.bnd (.bnd (.bnd (.b (aj .NotEq aE (.str []))) fun c2=>.ret (.bool c2)) fun a3=>(.bnd (.b (aH a3)) fun t1=>.br t1 (.bnd (.b (aj .In aE (.str [97,98,65,66,49,95]))) fun c4=>.ret (.bool c4)) (.ret a3))) .ret)
theorem m0 (L N:Nat) (aE:PV):aa (af L) (N+1) gj [aE]=(u1 L N aE).run:=by kernel_rfl
@[reducible] noncomputable def yi (L N:Nat) (bW ai aF ae:PV):Tx PV:=(.bnd (.v (aS ai aF .none)) fun ahead_1=>(.bnd (.b (aj .Eq bW (.str [94]))) fun c2=>.br c2
 (.bnd (.bnd (.bnd (.b (aj .Eq aF (.int 0))) fun c4=>.ret (.bool c4)) fun a5=>(.bnd (.b (aH a5)) fun t3=>.br t3 (.ret a5) (.bnd (.bnd (.b (aj .In (.str [109]) ae)) fun c7=>.ret (.bool c7)) fun a8=>(.bnd (.b (aH a8)) fun t6=>.br t6 (.bnd (.bnd (.b (aj .NotEq ahead_1 (.str []))) fun c10=>.ret (.bool c10)) fun a11=>(.bnd (.b (aH a11)) fun t9=>.br t9 (.bnd (.bnd (.v (aZ .Sub aF (.int 1))) fun i13=>(.v (ao ai i13))) fun a14=>(.bnd (.b (aj .Eq a14 (.str [10]))) fun c12=>.ret (.bool c12))) (.ret a11))) (.ret a8))))) .ret)
 (.bnd (.b (aj .Eq bW (.str [36]))) fun c15=>.br c15
 (.bnd (.bnd (.bnd (.b (aj .In ahead_1 (.tup [(.str []),(.str [10])]))) fun c17=>.ret (.bool c17)) fun a18=>(.bnd (.b (aH a18)) fun t16=>.br t16 (.ret a18) (.bnd (.bnd (.b (aj .In (.str [109]) ae)) fun c20=>.ret (.bool c20)) fun a21=>(.bnd (.b (aH a21)) fun t19=>.br t19 (.bnd (.v (ao ahead_1 (.int 0))) fun a23=>(.bnd (.b (aj .Eq a23 (.str [10]))) fun c22=>.ret (.bool c22))) (.ret a21))))) .ret)
 (.bnd (.b (aj .Eq bW (.str [92,65]))) fun c24=>.br c24
 (.bnd (.bnd (.b (aj .Eq aF (.int 0))) fun c25=>.ret (.bool c25)) .ret)
 (.bnd (.b (aj .Eq bW (.str [92,122]))) fun c26=>.br c26
 (.bnd (.bnd (.b (aj .Eq ahead_1 (.str []))) fun c27=>.ret (.bool c27)) .ret)
 (.bnd (.b (aj .Eq bW (.str [92,90]))) fun c28=>.br c28
 (.bnd (.bnd (.b (aj .In ahead_1 (.tup [(.str []),(.str [10])]))) fun c29=>.ret (.bool c29)) .ret)
 (.bnd (.bnd (.bnd (.bnd (.bnd (.bnd (.bnd (.v (aZ .Sub aF (.int 1))) fun a31=>.ret ([a31,(.int 0)])) fun l32=>(.v (zq l32))) fun i33=>(.v (aS ai i33 aF))) fun a34=>.ret ([a34])) fun l35=>(.v (aa (af L) N gj l35))) fun a36=>(.bnd (.bnd (.bnd (.bnd (.v (aS ahead_1 .none (.int 1))) fun a37=>.ret ([a37])) fun l38=>(.v (aa (af L) N gj l38))) fun b39=>(.b (aj .NotEq a36 b39))) fun c30=>.ret (.bool c30))) fun edge_40=>(.bnd (.bnd (.bnd (.bnd (.b (aj .Eq bW (.str [92,98]))) fun c42=>.ret (.bool c42)) fun b43=>(.b (aj .Eq edge_40 b43))) fun c41=>.ret (.bool c41)) .ret))))))))
theorem cm (L N:Nat) (bW ai aF ae:PV):aa (af L) (N+1) cX [bW,ai,aF,ae]=(yi L N bW ai aF ae).run:=by kernel_rfl
@[reducible] noncomputable def Bd (L N:Nat) (cO:PV):Tx PV:=(.bnd (.bnd (.bnd (.bnd (.v (bU [cO])) fun a1=>.ret ([a1])) fun l2=>(.v (fO l2))) fun a3=>(.bnd (.i (ce a3)) fun it4=>.bnd (.l (compLoop (fun w5=>Tx.run ((.bnd (.bnd (.bnd (.v (ao cO w5)) fun a10=>(.bnd (.v (aS cO .none w5)) fun b11=>(.b (aj .NotIn a10 b11)))) fun t9=>.br t9 (.ret true) (.ret false)) fun c8=>.br c8 (.bnd (.v (ao cO w5)) fun x7=>(.ret (some x7))) (.ret none)))) L it4)) fun l6=>.v (hM l6))) .ret)
theorem yz (L N:Nat) (cO:PV):aa (af L) (N+1) dT [cO]=(Bd L N cO).run:=by kernel_rfl
@[reducible] noncomputable def sf (L N:Nat) (w:PV) (kn kb kc:Kn) (an ai aF ae eU gQ kX:PV) (o_end:Option PV):Tx PV:=(.bnd (.bnd (.bnd (.bnd (.bnd (.bnd (.bnd (.v (aZ .Add eU (.int 1))) fun a15=>.ret ([a15,aF])) fun l16=>.ret (ae::l16)) fun l17=>.ret (w::l17)) fun l18=>.ret (ai::l18)) fun l19=>.ret (an::l19)) fun l20=>(.v (aa (af L) N dp l20))) fun a21=>(.bnd (.v (dF .Add kX a21)) fun more_22=>(.v (kn [(aJ,some an),(aD,some ai),(bv,some aF),(aw,some ae),(na,some eU),(nh,some gQ),(ng,some more_22),(dY,some w)]))))
theorem qF (L N:Nat) (w:PV) (kn kb kc:Kn) (an ai aF ae eU gQ kX:PV) (o_end:Option PV):hG L N w [(aJ,some an),(aD,some ai),(bv,some aF),(aw,some ae),(na,some eU),(nh,some gQ),(ng,some kX),(dY,o_end)] kn kb kc=(sf L N w kn kb kc an ai aF ae eU gQ kX o_end).run:=by kernel_rfl
@[reducible] noncomputable def so (L N:Nat) (an ai aF ae eU gQ kX:PV) (o_end:Option PV):Tx PV:=(.bnd (.bnd (.bnd (.bnd (.bnd (.v (ao an (.int 2))) fun b24=>(.b (aj .Lt eU b24))) fun c23=>.br c23 (.ret kX) (.v (aZ .Add kX (.frz [aF])))) fun a25=>.ret ([a25])) fun l26=>(.v (aa (af L) N dT l26))) .ret)
theorem km (L N:Nat) (an ai aF ae eU gQ kX:PV) (o_end:Option PV):fE L N [(aJ,some an),(aD,some ai),(bv,some aF),(aw,some ae),(na,some eU),(nh,some gQ),(ng,some kX),(dY,o_end)]=(so L N an ai aF ae eU gQ kX o_end).run:=by kernel_rfl
@[reducible] noncomputable def wO (L N:Nat) (an ai aF ae eU gQ:PV):Tx PV:=(.bnd (.v (bT (.lst []))) fun more_1=>(.bnd (.bnd (.bnd (.v (ao an (.int 2))) fun b4=>(.b (aj .Lt eU b4))) fun t3=>.br t3 (.ret true) (.bnd (.bnd (.b (aj .NotEq gQ aF)) fun t6=>.br t6 (.bnd (.bnd (.bnd (.v (ao an (.int 3))) fun a9=>(.b (aj .Lt a9 (.int 0)))) fun t8=>.br t8 (.ret true) (.bnd (.bnd (.v (ao an (.int 3))) fun b11=>(.b (aj .Lt eU b11))) fun t10=>.br t10 (.ret true) (.ret false))) fun t7=>.br t7 (.ret true) (.ret false)) (.ret false)) fun t5=>.br t5 (.ret true) (.ret false))) fun c2=>.br c2
 (.bnd (.bnd (.bnd (.v (ao an (.int 1))) fun a12=>.ret ([a12,ai,aF,ae])) fun l13=>(.v (aa (af L) N bZ l13))) fun a14=>(.bnd (.i (ce a14)) fun it27=>.v (cJ (hG L N) (fE L N) L it27 [(aJ,some an),(aD,some ai),(bv,some aF),(aw,some ae),(na,some eU),(nh,some gQ),(ng,some more_1),(dY,none)])))
 (.bnd (.bnd (.bnd (.bnd (.bnd (.v (ao an (.int 2))) fun b29=>(.b (aj .Lt eU b29))) fun c28=>.br c28 (.ret more_1) (.v (aZ .Add more_1 (.frz [aF])))) fun a30=>.ret ([a30])) fun l31=>(.v (aa (af L) N dT l31))) .ret)))
theorem gh (L N:Nat) (an ai aF ae eU gQ:PV):aa (af L) (N+1) dp [an,ai,aF,ae,eU,gQ]=(wO L N an ai aF ae eU gQ).run:=by kernel_rfl
@[reducible] noncomputable def vm (L N:Nat) (w:PV) (kn kb kc:Kn) (an ai aF ae cO eL iK:PV) (o_end:Option PV):Tx PV:=(.bnd (.v (aa (af L) N bZ [eL,ai,w,ae])) fun a29=>(.bnd (.v (dF .Add iK a29)) fun later_30=>(.v (kn [(aJ,some an),(aD,some ai),(bv,some aF),(aw,some ae),(b8,some cO),(bJ,some eL),(dh,some later_30),(dY,some w)]))))
theorem sH (L N:Nat) (w:PV) (kn kb kc:Kn) (an ai aF ae cO eL iK:PV) (o_end:Option PV):jx L N w [(aJ,some an),(aD,some ai),(bv,some aF),(aw,some ae),(b8,some cO),(bJ,some eL),(dh,some iK),(dY,o_end)] kn kb kc=(vm L N w kn kb kc an ai aF ae cO eL iK o_end).run:=by kernel_rfl
@[reducible] noncomputable def uS (L N:Nat) (kn kb kc:Kn) (an ai aF ae cO eL iK:PV) (o_end:Option PV):Tx PV:=(.bnd (.v (aa (af L) N dT [iK])) fun ends_31=>(.v (kn [(aJ,some an),(aD,some ai),(bv,some aF),(aw,some ae),(b8,some ends_31),(bJ,some eL),(dh,some iK),(dY,o_end)])))
theorem r_ (L N:Nat) (kn kb kc:Kn) (an ai aF ae cO eL iK:PV) (o_end:Option PV):fP L N kn kb kc [(aJ,some an),(aD,some ai),(bv,some aF),(aw,some ae),(b8,some cO),(bJ,some eL),(dh,some iK),(dY,o_end)]=(uS L N kn kb kc an ai aF ae cO eL iK o_end).run:=by kernel_rfl
@[reducible] noncomputable def vz (L N:Nat) (w:PV) (kn kb kc:Kn) (an ai aF ae cO:PV) (o_one o_later o_end:Option PV):Tx PV:=(.bnd (.bnd (.v (ao an (.int 0))) fun a27=>(.b (aj .Eq a27 (.str [114,111,119])))) fun c26=>.br c26
 (.bnd (.v (bT (.lst []))) fun later_28=>(.bnd (.i (ce cO)) fun it32=>.v (cJ (jx L N) (fP L N kn kb kc) L it32 [(aJ,some an),(aD,some ai),(bv,some aF),(aw,some ae),(b8,some cO),(bJ,some w),(dh,some later_28),(dY,o_end)])))
 (.bnd (.bnd (.bnd (.bnd (.v (aa (af L) N bZ [w,ai,aF,ae])) fun b33=>(.v (aZ .Add cO b33))) fun a34=>.ret ([a34])) fun l35=>(.v (aa (af L) N dT l35))) fun ends_36=>(.v (kn [(aJ,some an),(aD,some ai),(bv,some aF),(aw,some ae),(b8,some ends_36),(bJ,some w),(dh,o_later),(dY,o_end)]))))
theorem jk (L N:Nat) (w:PV) (kn kb kc:Kn) (an ai aF ae cO:PV) (o_one o_later o_end:Option PV):cW L N w [(aJ,some an),(aD,some ai),(bv,some aF),(aw,some ae),(b8,some cO),(bJ,o_one),(dh,o_later),(dY,o_end)] kn kb kc=(vz L N w kn kb kc an ai aF ae cO o_one o_later o_end).run:=by kernel_rfl
@[reducible] noncomputable def vc (L N:Nat) (an ai aF ae cO:PV) (o_one o_later o_end:Option PV):Tx PV:=(.ret cO)
theorem mr (L N:Nat) (an ai aF ae cO:PV) (o_one o_later o_end:Option PV):cE L N [(aJ,some an),(aD,some ai),(bv,some aF),(aw,some ae),(b8,some cO),(bJ,o_one),(dh,o_later),(dY,o_end)]=(vc L N an ai aF ae cO o_one o_later o_end).run:=by kernel_rfl
@[reducible] noncomputable def A4 (L N:Nat) (an ai aF ae:PV):Tx PV:=(.bnd (.bnd (.v (ao an (.int 0))) fun a2=>(.b (aj .Eq a2 (.str [111,110,101])))) fun c1=>.br c1
 (.bnd (.bnd (.bnd (.bnd (.v (bU [ai])) fun b5=>(.b (aj .Lt aF b5))) fun t4=>.br t4 (.bnd (.bnd (.bnd (.bnd (.v (ao an (.int 1))) fun a7=>.bnd (.bnd (.v (ao ai aF)) fun a8=>.ret ([a8,ae])) fun l9=>.ret (a7::l9)) fun l10=>(.v (aa (af L) N i0 l10))) fun a11=>(.b (aH a11))) fun t6=>.br t6 (.ret true) (.ret false)) (.ret false)) fun c3=>.br c3 (.bnd (.bnd (.v (aZ .Add aF (.int 1))) fun a12=>.ret ([a12])) fun l13=>.v (hM l13)) (.ret (.frz []))) .ret)
 (.bnd (.bnd (.v (ao an (.int 0))) fun a15=>(.b (aj .Eq a15 (.str [112,108,97,99,101])))) fun c14=>.br c14
 (.bnd (.bnd (.bnd (.bnd (.bnd (.v (ao an (.int 1))) fun a17=>.ret ([a17,ai,aF,ae])) fun l18=>(.v (aa (af L) N cX l18))) fun a19=>(.b (aH a19))) fun c16=>.br c16 (.ret (.frz [aF])) (.ret (.frz []))) .ret)
 (.bnd (.bnd (.v (ao an (.int 0))) fun a21=>(.b (aj .Eq a21 (.str [114,111,117,110,100,115])))) fun c20=>.br c20
 (.bnd (.v (aa (af L) N dp [an,ai,aF,ae,(.int 0),(.int (-1))])) .ret)
 (.bnd (.bnd (.bnd (.v (ao an (.int 0))) fun a23=>(.b (aj .Eq a23 (.str [114,111,119])))) fun c22=>.br c22 (.ret (.frz [aF])) (.ret (.frz []))) fun ends_24=>(.bnd (.v (ao an (.int 1))) fun a25=>(.bnd (.i (ce a25)) fun it37=>.v (cJ (cW L N) (cE L N) L it37 [(aJ,some an),(aD,some ai),(bv,some aF),(aw,some ae),(b8,some ends_24),(bJ,none),(dh,none),(dY,none)])))))))
theorem gH (L N:Nat) (an ai aF ae:PV):aa (af L) (N+1) bZ [an,ai,aF,ae]=(A4 L N an ai aF ae).run:=by kernel_rfl
@[reducible] noncomputable def Gh (L N:Nat) (w:PV) (kn kb kc:Kn) (bK bF ae ai dj d7 aC an aR bn qz:PV) (o_k o_start o_ends o_one:Option PV):Tx PV:=(.bnd (.bnd (.v (aa (af L) N bZ [an,ai,w,ae])) fun a55=>(.bnd (.i (ce a55)) fun it56=>.bnd (.l (compLoop (fun w57=>Tx.run ((.bnd (.bnd (.b (aj .GtE w57 aC)) fun t60=>.br t60 (.ret true) (.ret false)) fun c59=>.br c59 (.ret (some w57)) (.ret none)))) L it56)) fun l58=>.v (hM l58))) fun ends_61=>(.bnd (.bnd (.b (aj .NotEq ends_61 (.frz []))) fun c62=>.br c62 (.bnd (.bnd (.bnd (.bnd (.bnd (.v (ao ends_61 (.int 0))) fun a63=>.ret ([a63])) fun l64=>.ret (w::l64)) fun l65=>.v (eJ l65)) fun a66=>.ret ([a66])) fun l67=>.v (hM l67)) (.ret .none)) fun one_68=>(.bnd (.bnd (.b (aj .Eq w d7)) fun t70=>.br t70 (.bnd (.bnd (.v (aa (af L) N ik [aR,ai,w,bn,aC])) fun a72=>(.b (aj .NotEq a72 one_68))) fun t71=>.br t71 (.ret true) (.ret false)) (.ret false)) fun c69=>.br c69
 (.ret (.bool false))
 (.bnd (.bnd (.b (aj .IsNot one_68 .none)) fun c73=>.br c73 (.ret one_68) (.ret qz)) fun due_74=>(.v (kn [(dP,some bK),(kA,some bF),(aw,some ae),(aD,some ai),(gS,some dj),(Cw,o_k),(eZ,some d7),(bq,some aC),(aJ,some an),(b0,some aR),(cC,some bn),(kN,some due_74),(b9,some w),(b8,some ends_61),(bJ,some one_68)]))))))
theorem lE (L N:Nat) (w:PV) (kn kb kc:Kn) (bK bF ae ai dj d7 aC an aR bn qz:PV) (o_k o_start o_ends o_one:Option PV):s7 L N w [(dP,some bK),(kA,some bF),(aw,some ae),(aD,some ai),(gS,some dj),(Cw,o_k),(eZ,some d7),(bq,some aC),(aJ,some an),(b0,some aR),(cC,some bn),(kN,some qz),(b9,o_start),(b8,o_ends),(bJ,o_one)] kn kb kc=(Gh L N w kn kb kc bK bF ae ai dj d7 aC an aR bn qz o_k o_start o_ends o_one).run:=by kernel_rfl
@[reducible] noncomputable def F9 (L N:Nat) (bK bF ae ai dj d7 aC an aR bn qz:PV) (o_k o_start o_ends o_one:Option PV):Tx PV:=(.bnd (.bnd (.v (aa (af L) N fZ [aR,ai,d7,bn,aC])) fun a76=>(.bnd (.b (aj .Eq a76 qz)) fun c75=>.ret (.bool c75))) .ret)
theorem B8 (L N:Nat) (bK bF ae ai dj d7 aC an aR bn qz:PV) (o_k o_start o_ends o_one:Option PV):xY L N [(dP,some bK),(kA,some bF),(aw,some ae),(aD,some ai),(gS,some dj),(Cw,o_k),(eZ,some d7),(bq,some aC),(aJ,some an),(b0,some aR),(cC,some bn),(kN,some qz),(b9,o_start),(b8,o_ends),(bJ,o_one)]=(F9 L N bK bF ae ai dj d7 aC an aR bn qz o_k o_start o_ends o_one).run:=by kernel_rfl
@[reducible] noncomputable def FB (L N:Nat) (w:PV) (kn kb kc:Kn) (bK bF ae ai dj:PV) (o_k:Option PV):Tx PV:=(.bnd (.bnd (.bnd (.bnd (.v (aZ .FloorDiv dj (.int 5))) fun a28=>(.bnd (.v (aZ .Pow (.int 11) w)) fun b29=>(.v (aZ .FloorDiv a28 b29)))) fun a30=>(.v (aZ .Mod a30 (.int 11)))) fun i31=>(.v (ao (.str [97,98,65,49,32,10,95,66,98,97,45]) i31))) fun a32=>(.bnd (.v (dF .Add ai a32)) fun text_33=>(.v (kn [(dP,some bK),(kA,some bF),(aw,some ae),(aD,some text_33),(gS,some dj),(Cw,some w),(eZ,none),(bq,none),(aJ,none),(b0,none),(cC,none),(kN,none),(b9,none),(b8,none),(bJ,none)]))))
theorem Ba (L N:Nat) (w:PV) (kn kb kc:Kn) (bK bF ae ai dj:PV) (o_k:Option PV):p0 L N w [(dP,some bK),(kA,some bF),(aw,some ae),(aD,some ai),(gS,some dj),(Cw,o_k),(eZ,none),(bq,none),(aJ,none),(b0,none),(cC,none),(kN,none),(b9,none),(b8,none),(bJ,none)] kn kb kc=(FB L N w kn kb kc bK bF ae ai dj o_k).run:=by kernel_rfl
@[reducible] noncomputable def EV (L N:Nat) (bK bF ae ai dj:PV) (o_k:Option PV):Tx PV:=(.bnd (.bnd (.v (aa (af L) N aV [bF,(.int 3)])) fun a34=>(.bnd (.bnd (.v (bU [ai])) fun a35=>(.v (aZ .Add a35 (.int 1)))) fun b36=>(.v (aZ .Mod a34 b36)))) fun begin_37=>(.bnd (.bnd (.bnd (.bnd (.bnd (.bnd (.v (aZ .Add begin_37 (.int 1))) fun a38=>.ret ([a38])) fun l39=>.ret ((.int 0)::l39)) fun l40=>.ret ((.int 0)::l40)) fun l41=>.v (hM l41)) fun a42=>(.bnd (.v (aa (af L) N aV [bF,(.int 3)])) fun i43=>(.v (ao a42 i43)))) fun least_end_44=>(.bnd (.v (aa (af L) N eo [bF,(.int 3),(.int 2)])) fun node_45=>(.bnd (.bnd (.bnd (.v (aa (af L) N aU [node_45])) fun a46=>.ret ([a46,ae])) fun l47=>(.v (aa (af L) N dO l47))) fun program_48=>(.bnd (.v (aa (af L) N (.cls mW) [])) fun limits_49=>(.bnd (.bnd (.bnd (.v (bU [ai])) fun a50=>.bnd (.bnd (.v (aZ .Sub begin_37 (.int 1))) fun a51=>.ret ([a51,(.int (-1))])) fun l52=>.ret (a50::l52)) fun l53=>(.v (fO l53))) fun a54=>(.bnd (.i (ce a54)) fun it77=>.v (cJ (s7 L N) (xY L N) L it77 [(dP,some bK),(kA,some bF),(aw,some ae),(aD,some ai),(gS,some dj),(Cw,o_k),(eZ,some begin_37),(bq,some least_end_44),(aJ,some node_45),(b0,some program_48),(cC,some limits_49),(kN,some .none),(b9,none),(b8,none),(bJ,none)]))))))))
theorem AF (L N:Nat) (bK bF ae ai dj:PV) (o_k:Option PV):lP L N [(dP,some bK),(kA,some bF),(aw,some ae),(aD,some ai),(gS,some dj),(Cw,o_k),(eZ,none),(bq,none),(aJ,none),(b0,none),(cC,none),(kN,none),(b9,none),(b8,none),(bJ,none)]=(EV L N bK bF ae ai dj o_k).run:=by kernel_rfl
@[reducible] noncomputable def LR (L N:Nat) (bK:PV):Tx PV:=(.bnd (.bnd (.bnd (.v (aS bK .none (.int 24))) fun a1=>.bnd (.bnd (.bnd (.bnd (.bnd (.bnd (.v (aS bK .none (.int 24))) fun a2=>.ret ([a2])) fun l3=>(.v (Ce l3))) fun a4=>(.v (aZ .Mod a4 (.int 997)))) fun a5=>.ret ([a5,(.int 0)])) fun l6=>.ret ((.int 0)::l6)) fun l7=>.ret (a1::l7)) fun l8=>.v (wX l8)) fun pen_9=>(.bnd (.bnd (.c (bw (af L) (.str []) d9)) fun k10=>(.bnd (.bnd (.bnd (.i (ce (.str [105,109,115]))) fun it11=>.bnd (.l (compLoop (fun w12=>Tx.run ((.bnd (.bnd (.bnd (.v (aa (af L) N aV [pen_9,(.int 3)])) fun a16=>(.b (aj .Eq a16 (.int 2)))) fun t15=>.br t15 (.ret true) (.ret false)) fun c14=>.br c14 (.ret (some w12)) (.ret none)))) L it11)) fun l13=>.v (hM l13)) fun a17=>.ret ([a17])) fun l18=>(.v (aW (aa (af L) N) (.str []) d9 l18 k10)))) fun flags_19=>(.bnd (.bnd (.bnd (.bnd (.bnd (.v (aZ .Pow (.int 11) (.int 4))) fun a20=>(.v (aZ .Mult a20 (.int 5)))) fun a21=>.ret ([a21])) fun l22=>.ret (pen_9::l22)) fun l23=>(.v (aa (af L) N aV l23))) fun code_24=>(.bnd (.bnd (.bnd (.v (aZ .Mod code_24 (.int 5))) fun a25=>.ret ([a25])) fun l26=>(.v (fO l26))) fun a27=>(.bnd (.i (ce a27)) fun it78=>.v (cJ (p0 L N) (lP L N) L it78 [(dP,some bK),(kA,some pen_9),(aw,some flags_19),(aD,some (.str [])),(gS,some code_24),(Cw,none),(eZ,none),(bq,none),(aJ,none),(b0,none),(cC,none),(kN,none),(b9,none),(b8,none),(bJ,none)]))))))
theorem JR (L N:Nat) (bK:PV):aa (af L) (N+1) Fw [bK]=(LR L N bK).run:=by kernel_rfl
end
section
open PySem
theorem nr {α:Sort u} {a b:α} (h:a=b):a=b:=h
inductive Hn {α:Type} (a:α):Type | mk
variable {α β:Type}
noncomputable def An (f:α→M β) (o:Option (α × ah)) (_:Hn f):Option (β × ah):=match o with
 | some (a,σ)=>f a σ
 | none=>none
noncomputable def M0 (a b:M α) (c:Bool) (_:Hn a) (_:Hn b):M α:=match c with
 | true=>a
 | false=>b
noncomputable def M7 (m:M α) (b:Bool) (_:Hn m):M α:=match b with
 | true=>m
 | false=>fun Z=>none
noncomputable def Lx (f:α→M β) (o:Option α) (_:Hn f):M β:=match o with
 | some a=>f a
 | none=>fun Z=>none
noncomputable def Nj (f:List PV→M α) (o:Option dl) (_:Hn f):M α:=opt o fun c=>c.casesOn f (fun Z Z=>stop) fun Z=>stop
noncomputable def Nl (f:Str→List (Str × PV)→M α) (o:Option dl) (_:Hn f):M α:=opt o fun c=>c.casesOn (fun Z=>stop) f fun Z=>stop
noncomputable def Nc (f:List (List Nat × PV)→M α) (o:Option dl) (_:Hn f):M α:=opt o fun c=>c.casesOn (fun Z=>stop) (fun Z Z=>stop) f
variable (m:M α) (f:α→M β) (σ:ah)
@[simp ↓] theorem gO:bnd m f σ=An f (m σ) .mk:=nr rfl
@[simp] theorem uv (a:α) (w):An f (some (a,σ)) w=f a σ:=nr rfl
@[simp ↓] theorem M9 (a b:M α) (c:Bool):br c a b σ=M0 a b c .mk .mk σ:=by cases c <;> rfl
@[simp] theorem Lz (a b:M α) (w w'):M0 a b true w w'=a:=nr rfl
@[simp] theorem KS (a b:M α) (w w'):M0 a b false w w'=b:=nr rfl
@[simp ↓] theorem zT (b:Bool):guard b m σ=M7 m b .mk σ:=by cases b <;> rfl
@[simp] theorem Lr (w):M7 m true w=m:=nr rfl
@[simp ↓] theorem Mr (o:Option α):opt o f σ=Lx f o .mk σ:=by cases o <;> rfl
@[simp] theorem KT (a:α) (w):Lx f (some a) w=f a:=nr rfl
@[simp ↓] theorem dC (n:Nat) (f:List PV→M α):getL n f σ=Nj f σ[n]? .mk σ:=rfl
@[simp] theorem uB (f:List PV→M α) (l) (w):Nj f (some (.lst l)) w=f l:=nr rfl
@[simp ↓] theorem xc (n:Nat) (f:Str→List (Str × PV)→M α):getI n f σ=Nl f σ[n]? .mk σ:=rfl
@[simp] theorem uz (f:Str→List (Str × PV)→M α) (c as) (w):Nl f (some (.inst c as)) w=f c as:=nr rfl
@[simp ↓] theorem Mp (n:Nat) (f:List (List Nat × PV)→M α):getD n f σ=Nc f σ[n]? .mk σ:=rfl
@[simp] theorem Lk (f:List (List Nat × PV)→M α) (es) (w):Nc f (some (.dct es)) w=f es:=nr rfl
@[simp ↓] theorem KU (l) (f:List PV→M α):withL (.frz l) f=f l:=nr rfl
@[simp ↓] theorem KR (n) (f:List PV→M α):withL (.loc n) f=getL n f:=nr rfl
@[simp] theorem GY (a:α):ret a σ=some (a,σ):=nr rfl
@[simp] theorem wI (a b):aj .NotEq a b=bnd (Jt a b) fun r=>ret (!r):=nr rfl
@[simp] theorem IK (a b):aj .NotIn a b=bnd (Mc a b) fun r=>ret (!r):=nr rfl
@[simp] theorem Lv (l l'):Jt (.frz l) (.frz l')=Mo l l':=rfl
@[simp] theorem Jx (n l'):Jt (.loc n) (.frz l')=getL n fun l=>Mo l l':=rfl
@[simp] theorem JG (k c):Mc (.int k) c=withL c fun l=>opt (mJ l) fun ns=>ret (ns.any fun j=>decide (j=k)):=nr rfl
theorem qv {γ δ:Type} {f:PV→Option γ} {g:δ→PV} {k:δ→γ} (h:∀ x,f (g x)=some (k x)):∀ l:List δ,FY f (l.map g)=some (l.map k)
 | []=>rfl
 | x::r=>by rw [List.map_cons,FY,h,qv h r]; rfl
@[simp] theorem KJ (l:List (List Nat)):tm (l.map .str)=some l:=(qv (g:=PV.str) (k:=fun x=>x) (fun Z=>rfl) l).trans (by rw [List.map_id'])
@[simp] theorem Bo (l:List Int):mJ (l.map .int)=some l:=(qv (g:=PV.int) (k:=fun x=>x) (fun Z=>rfl) l).trans (by rw [List.map_id'])
@[simp] theorem JP (a b:Nat):oA [a] [b]=decide (a<b):=by simp [oA]
@[simp] theorem add_str (x y):aZ .Add (.str x) (.str y)=guard (Nat.ble (x.length+y.length) lim) (ret (.str (x++y))):=nr rfl
@[simp] theorem Kg (x y):aZ .Add (.frz x) (.frz y)=hM (x++y):=nr rfl
@[simp] theorem Kd (n y):aZ .Add (.loc n) (.frz y)=getL n fun x=>hM (x++y):=nr rfl
@[simp] theorem zg (x y):aZ .FloorDiv (.int x) (.int y)=guard (small x && decide (1≤y) && small y) (ret (.int (x / y))):=nr rfl
@[simp] theorem mod_int (x y):aZ .Mod (.int x) (.int y)=guard (decide (1≤y)) (ret (.int (x % y))):=nr rfl
@[simp] theorem pow_int (x y):aZ .Pow (.int x) (.int y)=guard (small x && decide (0≤y) && decide (y≤100)) (ret (.int (x ^ y.toNat))):=nr rfl
@[simp] theorem I5 (x y):dF .Add (.str x) (.str y)=guard (Nat.ble (x.length+y.length) lim) (ret (.str (x++y))):=nr rfl
@[simp] theorem IP (n l'):dF .Add (.loc n) (.frz l')=getL n fun l=>guard (Nat.ble (l.length+l'.length) lim) (bnd (tD n (.lst (l++l'))) fun Z=>ret (.loc n)):=nr rfl
@[simp] theorem zG (l k):ao (.str l) (.int k)=guard (ii k) (opt l[k.toNat]? fun c=>ret (.str [c])):=nr rfl
@[simp] theorem G7 (l k):ao (.frz l) (.int k)=guard (ii k) (opt l[k.toNat]? ret):=nr rfl
@[simp] theorem GI (n k):ao (.loc n) (.int k)=guard (ii k) (getL n fun l=>opt l[k.toNat]? ret):=nr rfl
@[simp] theorem IU (n k):ao (.loc n) (.str k)=getD n fun es=>opt (es.lookup k) ret:=nr rfl
theorem nP (i:Int):small i=true↔-1000000000≤i∧i≤1000000000:=by unfold small; rw [Nat.ble_eq]; omega
theorem KQ (i:Int):ii i=true↔0≤i∧i≤1000000000:=by unfold ii; rw [Bool.and_eq_true,decide_eq_true_eq,nP]; exact ⟨fun h=>⟨h.1,h.2.2⟩,fun h=>⟨h.1,Int.le_trans (by decide) h.1,h.2⟩⟩
@[simp] theorem jE (n:Nat):small (n:Int)=decide (n≤1000000000):=by
 rw [Bool.eq_iff_iff,decide_eq_true_iff]; exact Iff.of_eq (show (Nat.ble n 1000000000=true)=(n≤1000000000) from Nat.ble_eq)
@[simp] theorem vS (n:Nat):ii (n:Int)=decide (n≤1000000000):=by
 unfold ii
 rw [decide_eq_true (Int.natCast_nonneg n),jE]; rfl
@[simp] theorem B1:ie .none=some none:=nr rfl
theorem Ef (k:Int):ie (.int k)=if ii k=true then some (some k.toNat) else none:=nr rfl
@[simp] theorem dg (n:Nat) (h:n≤1000000000):ie (.int (n:Int))=some (some n):=by
 rw [Ef,vS,decide_eq_true h]; rfl
@[simp] theorem nx (s lo hi):aS (.str s) lo hi=opt (ie lo) fun i=>opt (ie hi) fun j=>guard (Nat.ble s.length lim) (ret (.str (xr s i j))):=nr rfl
@[simp] theorem wg (l lo hi):aS (.frz l) lo hi=opt (ie lo) fun i=>opt (ie hi) fun j=>guard (Nat.ble l.length lim) (ret (.frz (xr l i j))):=nr rfl
@[simp] theorem Di (n lo hi):aS (.loc n) lo hi=opt (ie lo) fun i=>opt (ie hi) fun j=>getL n fun l=>guard (Nat.ble l.length lim) (ret (.frz (xr l i j))):=nr rfl
@[simp] theorem rE (n k v):cb (.loc n) (.int k) v=getL n fun l=>guard (ii k && Nat.blt k.toNat l.length && Nat.ble l.length lim) (tD n (.lst (l.set k.toNat v))):=nr rfl
@[simp] theorem HJ (l):bU [.frz l]=guard (Nat.ble l.length lim) (ret (.int l.length)):=nr rfl
@[simp] theorem C1 (n):bU [.loc n]=getL n fun l=>guard (Nat.ble l.length lim) (ret (.int l.length)):=nr rfl
@[simp] theorem HL (i):rS [.int i]=guard (decide (0≤i) && decide (i<128)) (ret (.str [i.toNat])):=nr rfl
@[simp] theorem IE (l):Ce [.frz l]=opt (mJ l) fun is=>guard (Nat.ble is.length 1000) (ret (.int is.sum)):=nr rfl
@[simp] theorem J_ (b):fO [.int b]=guard (small b) (ret (.rng 0 b 1)):=nr rfl
@[simp] theorem JH (a b):fO [.int a,.int b]=guard (small a && small b) (ret (.rng a b 1)):=nr rfl
@[simp] theorem JI (a b c):fO [.int a,.int b,.int c]=guard (small a && small b && decide (c=-1)) (ret (.rng a b c)):=nr rfl
@[simp] theorem G8 (l):ce (.frz l)=guard (Nat.ble l.length lim) (ret (.items l)):=nr rfl
@[simp] theorem z8 (n):ce (.loc n)=getL n fun l=>guard (Nat.ble l.length lim) (ret (.lst n 0)):=nr rfl
@[simp] theorem ud (a b c):ce (.rng a b c)=guard (small a && small b && (decide (c=1) || decide (c=-1))) (ret (.items (qi a b c))):=nr rfl
@[simp] theorem zv (n i):vW (.lst n i)=getL n fun l=>ret (l[i]?.casesOn none fun v=>some (v,.lst n (i+1))):=nr rfl
@[simp] theorem tU (c k n vs):aW c (.loc k) n vs .lst=DX k n vs:=nr rfl
@[simp] theorem yy (n vs):DX n aY vs=getL n fun l=>wp n l vs:=nr rfl
@[simp] theorem Gz (n vs):DX n wk vs=getL n fun l=>A6 n l vs:=nr rfl
@[simp] theorem za (n b):DX n iY [b]=CV n b .none:=nr rfl
@[simp] theorem J2 (n l):A6 n l []=guard (Nat.ble l.length lim) (opt l.getLast? fun v=>bnd (tD n (.lst l.dropLast)) fun Z=>ret v):=nr rfl
noncomputable def JA (l i:M α) (o:Option dl) (_:Hn l) (_:Hn i):M α:=opt o fun c=>c.casesOn (fun Z=>l) (fun Z Z=>i) fun Z=>stop
theorem zp (S n name):bw S (.loc n) name σ=JA (guard (lw.contains name) (ret .lst)) (getI n fun c as=>opt (S.clss c) fun ci=>opt (ci.meths.lookup name) fun f=>guard (as.lookup name).isNone (ret (.fn f))) σ[n]? .mk .mk σ:=rfl
@[simp] theorem Bi (a b:M α) (c l w w'):JA a b (some (.inst c l)) w w'=b:=nr rfl
theorem DL (S n a):aq S (.loc n) a=getI n fun c as=>opt (S.clss c) fun ci=>guard (ci.attrs.contains a) (opt (as.lookup a) fun v=>guard (yP v) (ret v)):=nr rfl
theorem xd (S n a w):am S (.loc n) a w=getI n fun c as=>opt (S.clss c) fun ci=>guard (ci.attrs.contains a && Nat.ble as.length 100) (tD n (.inst c (put a w as))):=nr rfl
@[simp] theorem vG (body:PV→cP→Kn→Kn→Kn→M PV) (kn N it ρ):cJ body kn (N+1) it ρ=bnd (vW it) fun r=>match r with
  | none=>kn ρ
  | some (v,it')=>body v ρ (cJ body kn N it') kn (cJ body kn N it'):=nr rfl
@[simp] theorem ou (body:PV→M (Option PV)) (N v r):compLoop body (N+1) (.items (v::r))=bnd (body v) fun x=>bnd (compLoop body N (.items r)) fun xs=>match x with
   | some y=>ret (y::xs)
   | none=>ret xs:=nr rfl
theorem js (a c:Int):∀ k,(steps a c k).length=k
 | 0=>rfl
 | k+1=>by simp [steps,js]
@[simp] theorem B6 (a c:Int) (k):steps a c (k+1)=.int a::steps (a+c) c k:=nr rfl
theorem EO (a b:Int):qi a b 1=steps a 1 (b-a).toNat:=nr rfl
theorem GE (a b:Int):qi a b (-1)=steps a (-1) (a-b).toNat:=nr rfl
@[simp] theorem bt {γ:Type} (a:List γ) (c:γ) (b:List γ):(a++c::b)[a.length]?=some c:=by simp
@[simp] theorem nU {γ:Type} (a:List γ) (c c':γ) (b:List γ):(a++c::b).set a.length c'=a++c'::b:=by simp
end
section
open PySem
structure MG where
 sp:List Nat
 set:List Nat
 neg:Bool
 fold:Bool
noncomputable def M3:List MG:=[⟨[97],[97],false,true⟩,⟨[98],[98],false,true⟩,⟨[65],[65],false,true⟩,⟨[46],[10],true,false⟩,⟨[92,100],[49],false,false⟩,
 ⟨[92,119],[97,98,65,66,49,95],false,false⟩,⟨[91,97,98,93],[97,98],false,true⟩,⟨[92,110],[10],false,true⟩,⟨[91,94,97,66,93],[97,66],true,true⟩,
 ⟨[91,65,45,66,97,93],[65,66,97],false,true⟩,⟨[91,92,100,95,45,93],[49,95,45],false,true⟩,⟨[92,115],[32,10],false,false⟩,⟨[91,94,92,115,93],[32,10],true,true⟩,
 ⟨[92,120,54,49],[97],false,true⟩,⟨[91,91,58,117,112,112,101,114,58,93,93],[65,66],false,true⟩,⟨[92,49,48,49],[65],false,true⟩,⟨[92,87],[97,98,65,66,49,95],true,false⟩,
 ⟨[49],[49],false,true⟩,⟨[92,83],[32,10],true,false⟩,⟨[91,93,98,93],[98],false,true⟩]
noncomputable def gE (i:Nat):MG:=M3.getD i ⟨[],[],false,false⟩
noncomputable def uh (i:Nat):PV:=.tup [.str (gE i).sp,.str (gE i).set,.bool (gE i).neg,.bool (gE i).fold]
structure Nm where
 least:Nat
 most:Int
 mark:List Nat
noncomputable def MJ:List Nm:=[⟨0,-1,[42]⟩,⟨1,-1,[43]⟩,⟨0,1,[63]⟩,⟨2,2,[123,50,125]⟩,⟨1,2,[123,49,44,50,125]⟩,⟨0,2,[123,48,44,50,125]⟩,⟨1,-1,[123,49,44,125]⟩]
noncomputable def au (c:Nat):Nm:=MJ.getD c ⟨0,0,[]⟩
noncomputable def H2 (c:Nat):PV:=.tup [.int (au c).least,.int (au c).most,.str (au c).mark]
noncomputable def J9:List (List Nat):=[[94],[36],[92,65],[92,122],[92,90],[92,98],[92,66]]
noncomputable def cQ (i:Nat):List Nat:=J9.getD i []
theorem rU (L N:Nat):aa (af L) (N+1) ft []=ret (.frz ((List.range 20).map uh)):=zB L N
theorem u7 (L N:Nat):aa (af L) (N+1) fQ []=ret (.frz ((List.range 7).map H2)):=vD L N
theorem uX (L N:Nat):aa (af L) (N+1) gb []=ret (.frz ((List.range 7).map fun i=>.str (cQ i))):=uR L N
inductive Nd where
 | one (i:Nat)
 | place (i:Nat)
 | row (l:Nd)
 | branches (a b:Nd)
 | rounds (n:Nd) (c:Nat)
 | nil
 | cons (h t:Nd)
mutual
noncomputable def j0:Nd→PV
 | .one i=>.tup [.str [111,110,101],uh i]
 | .place i=>.tup [.str [112,108,97,99,101],.str (cQ i)]
 | .row l=>.tup [.str [114,111,119],.frz (encs l)]
 | .branches a b=>.tup [.str [98,114,97,110,99,104,101,115],.frz [j0 a,j0 b]]
 | .rounds n c=>.tup [.str [114,111,117,110,100,115],j0 n,.int (au c).least,.int (au c).most,.str (au c).mark]
 | .nil=>.none
 | .cons _ _=>.none
noncomputable def encs:Nd→List PV
 | .cons h t=>j0 h::encs t
 | _=>[]
end
noncomputable def mj:Nd→Bool
 | .row _=>true
 | _=>false
noncomputable def AE:Nd→Nat
 | .cons _ t=>AE t+1
 | _=>0
mutual
noncomputable def ld:Nat→Nd→Prop
 | _,.one i=>i<20
 | _,.place i=>i<7
 | d+1,.row l=>okL d l∧AE l≤3
 | d+1,.branches a b=>ld (d+1) a∧ld (d+1) b∧mj a=true∧mj b=true
 | d+1,.rounds n c=>ld d n∧c<7
 | _,_=>False
noncomputable def okL:Nat→Nd→Prop
 | _,.nil=>True
 | d,.cons h t=>ld d h∧okL d t
 | _,_=>False
end
noncomputable def eG:Nd→Nat
 | .row l=>eG l
 | .branches a b=>eG a+eG b+1
 | .rounds n _=>eG n
 | .cons h t=>eG h+eG t
 | _=>0
noncomputable def eO:Nd→Nat
 | .row l=>eO l
 | .branches a b=>eO a+eO b
 | .rounds n _=>eO n+1
 | .cons h t=>eO h+eO t
 | _=>0
noncomputable def units (n:Nd):Nat:=eG n+2*eO n
noncomputable def cN:Nd→Nat
 | .one _=>1
 | .place _=>1
 | .row l=>cN l
 | .branches a b=>cN a+cN b
 | .rounds n _=>cN n
 | .cons h t=>cN h+cN t
 | .nil=>0
noncomputable def eV:Nd→Bool
 | .one _=>true
 | .branches _ _=>true
 | _=>false
noncomputable def bA:Nd→List Nat
 | .one i=>(gE i).sp
 | .place i=>cQ i
 | .row l=>bA l
 | .branches a b=>[40,63,58]++(bA a++124::bA b)++[41]
 | .rounds n c=>(if eV n=true then bA n else [40,63,58]++bA n++[41])++(au c).mark
 | .cons h t=>bA h++bA t
 | .nil=>[]
theorem cn {c:Prop} [Decidable c] {α:Type} {P:α→Prop} {x y:α} (h:c→P x) (h':¬ c→P y):P (if c then x else y):=by
 by_cases e:c
 ·exact if_pos e ▸ h e
 ·exact if_neg e ▸ h' e
theorem HY {c:Prop} [Decidable c] {A B A' B':Prop} (h:A→A') (h':B→B') (q:if c then A else B):if c then A' else B':=by
 by_cases e:c
 ·rw [if_pos e] at q ⊢; exact h q
 ·rw [if_neg e] at q ⊢; exact h' q
noncomputable def uu (P:Nat→Prop) (n:Nat):Prop:=Nat.rec True (fun n h=>h∧P n) n
theorem uu.get {P:Nat→Prop} {n i:Nat} (h:uu P n) (hi:i<n):P i:=by
 induction n with
 | zero=>exact absurd hi (Nat.not_lt_zero i)
 | succ n ih=>exact (Nat.eq_or_lt_of_le (Nat.le_of_lt_succ hi)).elim (fun e=>e ▸ h.2) (ih h.1)
theorem MU {k N:Nat} (h:k≤N):∃ M,N=M+k:=⟨N-k,(Nat.sub_add_cancel h).symm⟩
theorem GU {t a:Nat} (h:a<t):t-a=t-(a+1)+1:=(Nat.sub_add_cancel (Nat.sub_pos_of_lt h)).symm
theorem nX {n:Nat} (h:0<n):((n-1:Nat):Int)=(n:Int)-1:=Int.ofNat_sub h
theorem kG {n m:Nat} (h:n<m):n-1<m:=Nat.lt_of_le_of_lt (Nat.sub_le ..) h
theorem CX {n k a:Nat} (h:n≤4) (hk:5≤k):n<k+a:=Nat.lt_of_lt_of_le (Nat.lt_of_le_of_lt h hk) (Nat.le_add_right k a)
theorem E5 {n:Nd} (h:mj n=true):∃ l,n=.row l:=by
 cases n with
 | row l=>exact ⟨l,rfl⟩
 | _=>exact dU h
theorem Nd.ind {P Q:Nat→Nd→Prop} (h1:∀ d i,i<20→P d (.one i)) (h2:∀ d i,i<7→P d (.place i)) (h3:∀ d l,okL d l→AE l≤3→Q d l→P (d+1) (.row l))
  (h4:∀ d x y,ld (d+1) (.row x)→ld (d+1) (.row y)→P (d+1) (.row x)→P (d+1) (.row y)→Q d x→Q d y→P (d+1) (.branches (.row x) (.row y))) (h5:∀ d n c,ld d n→c<7→P d n→P (d+1) (.rounds n c))
  (h6:∀ d,Q d .nil) (h7:∀ d x y,ld d x→okL d y→P d x→Q d y→Q d (.cons x y)) (n:Nd):(∀ d,ld d n→P d n)∧∀ d,okL d n→Q d n:=by
 suffices H:(∀ d,ld d n→P d n)∧(∀ d,okL d n→Q d n)∧∀ l,n=.row l→∀ d,okL d l→Q d l from ⟨H.1,H.2.1⟩
 induction n with
 | one i=>exact ⟨fun d h=>h1 d i h,fun d h=>h.elim,fun l e=>nomatch e⟩
 | place i=>exact ⟨fun d h=>h2 d i h,fun d h=>h.elim,fun l e=>nomatch e⟩
 | row l ih=>exact ⟨Nat.rec (fun h=>h.elim) fun d _ h=>h3 d l h.1 h.2 (ih.2.1 d h.1),fun d h=>h.elim,fun l' e=>by injection e with e; exact e ▸ ih.2.1⟩
 | branches a b ia ib =>
  refine ⟨Nat.rec (fun h=>h.elim) fun d _ h=>?_,fun d h=>h.elim,fun l e=>nomatch e⟩
  obtain ⟨x,rfl⟩:=E5 h.2.2.1
  obtain ⟨y,rfl⟩:=E5 h.2.2.2
  exact h4 d x y h.1 h.2.1 (ia.1 _ h.1) (ib.1 _ h.2.1) (ia.2.2 x rfl d h.1.1) (ib.2.2 y rfl d h.2.1.1)
 | rounds n c ih=>exact ⟨Nat.rec (fun h=>h.elim) fun d _ h=>h5 d n c h.1 h.2 (ih.1 d h.1),fun d h=>h.elim,fun l e=>nomatch e⟩
 | nil=>exact ⟨Nat.rec (fun h=>h.elim) fun d _ h=>h.elim,fun d _=>h6 d,fun l e=>nomatch e⟩
 | cons x y ix iy=>exact ⟨Nat.rec (fun h=>h.elim) fun d _ h=>h.elim,fun d h=>h7 d x y h.1 h.2 (ix.1 d h.1) (iy.2.1 d h.2),fun l e=>nomatch e⟩
theorem Ee (n:Nd):(∀ d,ld d n→cN n≤3 ^ d*(1+eG n))∧(∀ d,okL d n→cN n≤3 ^ d*(AE n+eG n)) :=
 Nd.ind (P:=fun d n=>cN n≤3 ^ d*(1+eG n)) (Q:=fun d n=>cN n≤3 ^ d*(AE n+eG n))
  (fun Z Z Z=>Nat.mul_pos (Nat.pow_pos (by decide)) Nat.one_pos) (fun Z Z Z=>Nat.mul_pos (Nat.pow_pos (by decide)) Nat.one_pos)
  (fun d l _ hc h=>Nat.le_trans h (Nat.le_trans (Nat.mul_le_mul_left _ (Nat.le_trans (Nat.add_le_add hc (Nat.le_mul_of_pos_left _ (by decide))) (Nat.le_of_eq (Nat.mul_add 3 1 (eG l)).symm))) (Nat.le_of_eq (Nat.mul_assoc ..).symm)))
  (fun d a b _ _ h1 h2 _ _=>Nat.le_trans (Nat.add_le_add h1 h2) (Nat.le_of_eq ((Nat.mul_add ..).symm.trans (congrArg (3 ^ (d+1)*·) ((Nat.add_add_add_comm ..).trans ((Nat.add_assoc 1 1 _).trans (congrArg (1+·) (Nat.add_comm 1 _))))))))
  (fun d n _ _ _ h=>Nat.le_trans h (Nat.mul_le_mul_right _ (Nat.pow_le_pow_right (by decide) (Nat.le_succ d)))) (fun Z=>Nat.zero_le _)
  (fun d x y _ _ h1 h2=>Nat.le_trans (Nat.add_le_add h1 h2) (Nat.le_of_eq ((Nat.mul_add ..).symm.trans (congrArg (3 ^ d*·) ((Nat.add_add_add_comm ..).trans (congrArg (·+_) (Nat.add_comm 1 (AE y)))))))) n
theorem J0:∀ i,i<20→(gE i).sp.length≤11:=by decide
theorem D8:∀ i,i<7→(cQ i).length≤11:=by decide
theorem t0:∀ i,i<7→(au i).mark.length≤5:=by decide
theorem LK (a b c x y z:Nat):11*a+5*b+9*c+(11*x+5*y+9*z)=11*(a+x)+5*(b+y)+9*(c+z):=by
 rw [Nat.mul_add,Nat.mul_add,Nat.mul_add,Nat.add_add_add_comm,Nat.add_add_add_comm (11*a)]
theorem J6 (a b:List Nat):([40,63,58]++(a++124::b)++[41]).length=a.length+b.length+5:=by
 rw [List.length_append,List.length_append,List.length_append,List.length_cons]
 exact congrArg (·+1) ((Nat.add_comm 3 _).trans (congrArg (·+4) (show a.length+b.length=_ from rfl)))
theorem JE (a:List Nat):([40,63,58]++a++[41]).length=a.length+4:=by
 rw [List.length_append,List.length_append,Nat.add_comm [40,63,58].length]; rfl
theorem IC (n:Nd):(∀ d,ld d n→(bA n).length≤11*cN n+5*eG n+9*eO n)∧(∀ d,okL d n→(bA n).length≤11*cN n+5*eG n+9*eO n) :=
 Nd.ind (P:=fun _ n=>(bA n).length≤11*cN n+5*eG n+9*eO n) (Q:=fun _ n=>(bA n).length≤11*cN n+5*eG n+9*eO n)
  (fun _ i h=>J0 i h) (fun _ i h=>D8 i h) (fun _ _ _ _ h=>h)
  (fun _ a b _ _ _ _ h1 h2=>Nat.le_trans (Nat.le_of_eq (J6 (bA a) (bA b))) (Nat.le_trans (Nat.add_le_add_right (Nat.add_le_add h1 h2) 5) (Nat.le_of_eq ((congrArg (·+5) (LK ..)).trans (Nat.add_right_comm ..)))))
  (fun _ n c _ hc h=>by
   refine Nat.le_trans (Nat.le_of_eq List.length_append) (Nat.le_trans (Nat.add_le_add (cn (P:=fun l:List Nat=>l.length≤(bA n).length+4) (fun Z=>Nat.le_add_right _ 4) fun Z=>Nat.le_of_eq (JE _)) (t0 c hc)) ?_)
   exact Nat.add_le_add_right h 9)
  (fun Z=>Nat.zero_le _)
  (fun _ x y _ _ h1 h2=>Nat.le_trans (Nat.le_of_eq List.length_append) (Nat.le_trans (Nat.add_le_add h1 h2) (Nat.le_of_eq (LK ..)))) n
end
section
open PySem PySem.Builtin PySem.Builtin.Str
noncomputable def sw (c:Nat):Nat:=if 97≤c∧c≤122 then c-32 else if 65≤c∧c≤90 then c+32 else c
theorem ER:∀ c,c<128→cs (Txt.swapcase (one [c]))=[sw c]:=by decide +kernel
theorem Gp:∀ c,c<128→tooLong (Txt.swapcase (one [c])).length=false:=by decide +kernel
theorem Es:∀ c,c<58→cs (Txt.lower (one [c]))=[c+(if 65≤c then 32 else 0)]:=by decide +kernel
theorem EG:∀ c,c<58→tooLong (Txt.lower (one [c])).length=false:=by decide +kernel
@[simp] theorem yJ {σ:ah} (c) (h:c<128):CZ [c] [] σ=some (.str [sw c],σ):=by
 show guard _ _ σ=_
 rw [zT,Gp c h]; simp [ER c h]
@[simp] theorem I0 {σ:ah} (c) (h:c<58):zz [c] [] σ=some (.str [c],σ):=by
 show guard _ _ σ=_
 rw [zT,EG c h]; simp [Es c h]; omega
noncomputable def jn (sep:List Nat):List (List Nat)→List Nat
 | []=>[]
 | x::r=>x++r.flatMap fun y=>sep++y
theorem Mj (l:List Nat):cs (one l)=l:=rfl
theorem un (sep:Str):∀ (r:List (List Nat)) (acc:Array Nat),(r.map one).foldl (fun acc p=>acc++sep.cps++p.cps) acc=acc++(r.flatMap fun y=>cs sep++y).toArray
 | [],acc=>by simp
 | x::r,acc=>by
  rw [List.map_cons,List.foldl_cons,un sep r]
  apply Array.toList_inj.mp
  simp [cs,one]
theorem Io (sep:List Nat) (xs:List (List Nat)):cs (Txt.join (one sep) (xs.map one))=jn sep xs:=by
 cases xs with
 | nil=>rfl
 | cons x r =>
  unfold Txt.join glued cs
  show Array.toList _=_
  rw [show ((x::r).map one).drop 1=r.map one from rfl,show ((x::r).map one).headD Str.empty=one x from rfl,un]
  simp [one,jn,cs]
theorem tF (sep:Str):∀ (r:List (List Nat)) (k:Nat),(r.map one).foldl (fun n (s:Str)=>n+s.length+sep.length) k=k+(r.map List.length).sum+r.length*sep.length
 | [],k=>by simp
 | x::r,k=>by
  rw [List.map_cons,List.foldl_cons,tF sep r]
  simp [one,Str.length,Nat.add_mul]; omega
theorem D3 (sep:List Nat) (xs:List (List Nat)) (h:(xs.map List.length).sum+xs.length*sep.length≤1000000):JoinOk (one sep) (xs.map one)=true:=by
 unfold JoinOk
 rw [List.foldl_toArray,tF]
 have e:(one sep).length=sep.length:=rfl
 rw [e]
 have:¬ 0+(xs.map List.length).sum+xs.length*sep.length>2 ^ 24:=by omega
 simp [tooLong,sizeLine]; omega
theorem mK {σ:ah} (sep:List Nat) (xs:List (List Nat)) (h:(xs.map List.length).sum+xs.length*sep.length≤1000000):xM sep [.frz (xs.map .str)] σ=some (.str (jn sep xs),σ):=by
 have e:xM sep [.frz (xs.map .str)]=withL (.frz (xs.map .str)) fun l=>opt (tm l) fun xs=>guard (JoinOk (one sep) (xs.map one)) (ret (.str (cs (Txt.join (one sep) (xs.map one))))):=rfl
 rw [e]
 simp [D3 sep xs h,Io]
theorem v0 (s sub:List Nat) (i:Nat):subAt (one s) (one sub) i=true↔(s.drop i).take sub.length=sub:=by
 unfold subAt
 rw [beq_iff_eq,← Array.toList_inj]
 show ((Array.mk s).extract i (i+sub.length)).toList=sub↔_
 simp
theorem GQ {s sub:List Nat} {i:Nat} {k:Nat} (hi:i≤k) (hk:(s.drop k).take sub.length=sub) (hkl:k+sub.length≤s.length) (hn:∀ j,i≤j→j<k→(s.drop j).take sub.length≠sub) :
  Txt.find3 (one s) (one sub) (i:Int)=k:=by
 unfold Txt.find3
 have hf:fromIndex (one s).length (i:Int)=i:=by
  unfold fromIndex
  rw [if_neg (Int.not_lt.mpr (Int.natCast_nonneg i)),Int.max_eq_right (Int.natCast_nonneg i)]; rfl
 rw [hf]
 have hat:StrLaws.At (one s) (one sub) (one s).length k:=⟨hkl,(v0 s sub k).mpr hk⟩
 rcases StrLaws.occ_head_from (one s) (one sub) i 1 (Nat.le_refl 1) with ⟨h0,h1⟩ | ⟨a,r,h0,h1,h2,h3⟩
 ·exact absurd hat (h1 k hi)
 ·rw [h0]
  have ha:a=k:=by
   rcases Nat.lt_trichotomy a k with h | h | h
   ·exact absurd ((v0 s sub a).mp h2.2) (hn a h1 h)
   ·exact h
   ·exact absurd hat (h3 k hi h)
  simp [ha]
@[simp] theorem Kv (s sub i):CD s [.str sub,.int i]=ret (.int (Txt.find3 (one s) (one sub) i)):=rfl
end
section
open PySem.Builtin PySem.Builtin.Str
local macro_rules | `(tactic| specialize $e:term)=>`(tactic| with_unfolding_all refine $e)
local macro_rules | `(tactic| fail "go")=>`(tactic| first
 | ((with_reducible refine (?_:KC ?t ?s ?K)); (specialize (?_:List mP)); (specialize (?_:Hi ?t ?s ?K)); (repeat fail "w1"); try with_unfolding_all exact ([]:List mP))
 | kernel_rfl)
local macro_rules | `(tactic| fail "w1")=>`(tactic| first
 | (refine (?_:Hi (Tx.act ?u ?m) ?s (fun Z Z=>Fn ?u ?r)); specialize List.cons (mP.e (u:=?u) (m:=?m) (σ:=?s) (r:=?r) ?h) ([]:List mP); (case h=>first | exact rfl | assumption))
 | (refine (?_:Hi (Tx.bnd ?m ?f) ?s ?K); specialize (?_:List mP); specialize (?_:Hi ?m ?s (fun a τ=>Hi (?f a) τ ?K)))
 | (refine (?_:Hi (Tx.ret ?a) ?s ?K); specialize (?_:List mP); specialize (?_:?K ?a ?s))
 | (refine (?_:Hi (Tx.br ?c ?x ?y) ?s ?K); first
  | ((specialize List.cons (mP.q (c:=?c) true ?h) (?_:Hi ?x ?s ?K)); (case h=>fail "q"))
  | ((specialize List.cons (mP.q (c:=?c) false ?h) (?_:Hi ?y ?s ?K)); (case h=>fail "q"))
  | ((specialize List.cons mP.k (?_:BH ?c (Hi ?x ?s ?K) (Hi ?y ?s ?K))); refine (?_:Hi ?t2 ?s2 ?K2))
  | ((specialize List.cons (mP.q (c:=?c) true ?h) (?_:Hi ?x ?s ?K)); (case h=>fail "qs"))
  | ((specialize List.cons (mP.q (c:=?c) false ?h) (?_:Hi ?y ?s ?K)); (case h=>fail "qs")))
 | (refine (?_:Hi (Tx.act ?u ?m) ?s ?K); first
  | ((specialize List.cons (mP.a (m:=?m) (σ:=?s) (r:=?r) (σ':=?t) ?h) (?_:?K ?r ?t)); (case h=>fail "act"))
  | ((specialize List.cons mP.k (?_:KH (?m ?s) ?K)); first | refine (?_:Hi ?t2 ?s2 ?K2) | with_unfolding_all exact ([]:List mP))
  | ((specialize List.cons (mP.a (m:=?m) (σ:=?s) (r:=?r) (σ':=?t) ?h) (?_:?K ?r ?t)); (case h=>fail "acts")))
 | (refine (?_:Hi (Tx.unT (.tup ?l) ?f) ?s ?K); specialize (?_:List mP); specialize (?_:Hi (?f ?l) ?s ?K))
 | (refine (?_:Hi (Tx.unC (?v::?l) ?f) ?s ?K); specialize (?_:List mP); specialize (?_:Hi (?f ?v ?l) ?s ?K))
 | (refine (?_:Hi (Tx.unN [] ?m) ?s ?K); specialize (?_:List mP); specialize (?_:Hi ?m ?s ?K)))
local macro_rules | `(tactic| fail "q")=>`(tactic| with_reducible assumption)
local macro_rules | `(tactic| fail "qs")=>`(tactic| (simp [*]; done))
set_option hygiene false in
local macro_rules | `(tactic| fail "act")=>`(tactic| first | (with_reducible first | assumption | exact has_i | exact SP_total | exact has_m | exact has_s | exact SR_rows | exact SR_regs | exact SR_up | exact SR_appE | exact SR_addE | exact SR_freshE | exact RM_new | exact PG_new' | exact mem_ok | exact neb_ok | exact eqb_ok | exact in2_ok | exact nes_ok | exact eqs_ok | exact SM_pile | exact SM_regs | exact SM_row | exact SM_at | exact SM_setat | exact SM_setrow | exact SM_appendE | exact SM_popE | exact SM_text | exact eq1_ok | exact SM_steps | exact SM_setsteps | exact SM_most | exact SM_program | exact SM_least | exact SM_groups | exact go_on_ok | exact MG_at | exact MG_row | exact MG_pile | exact MG_groups | exact MG_regs | exact MG_program) | fail "sp" | fail "skn" | fail "sky" | fail "ins")
local macro_rules | `(tactic| fail "acts")=>`(tactic| ((conv=>lhs; simp [*]); try exact rfl))
set_option hygiene false in
local macro_rules | `(tactic| fail "fit")=>`(tactic| first | assumption | (refine Fit.mv ?_; first | assumption | (refine Fit.mv ?_; first | assumption | (refine Fit.mv ?_; first | assumption | (refine Fit.mv ?_; first | assumption | (refine Fit.mv ?_; first | assumption | (refine Fit.mv ?_; assumption)))))) | (refine Fit.bk ?_; assumption))
set_option hygiene false in
local macro_rules | `(tactic| fail "sp")=>`(tactic| with_reducible first | assumption | exact SP_at | exact SP_text | exact SP_mv | exact SP_peekE | exact SP_skipsE | (refine slice_sp1 ?_; fail "fit") | (refine slice_sp2 ?_; fail "fit") | (refine item_sp ?_; fail "fit") | (refine len_sp ?_; fail "fit") | (refine peek_ok ?_; fail "fit"))
section
noncomputable def ra (rp s:List Nat):List Nat:=rp.reverseAux s
theorem oB (rp s):ra rp s=rp.reverse++s:=List.reverseAux_eq
noncomputable def KW (t:List Nat) (tot:Int) (a dep p:Nat):dl:=.inst gn [(cj,.str t),(qk,.int tot),(ba,.int a),(bx,.int 0),(fb,.int dep),(iL,.loc (p+1)),(lz,.loc (p+2))]
noncomputable def SP (σ:ah) (rp s:List Nat) (tot:Int) (dep:Nat) (rest:ah):ah:=σ++KW (ra rp s) tot rp.length dep σ.length::rest
noncomputable def Fit (rp s:List Nat):Prop:=rp.length+s.length≤100000
theorem Fit.mv {rp s c} (h:Fit rp (c::s)):Fit (c::rp) s:=by
 have:rp.length+(s.length+1)≤100000:=h
 show rp.length+1+s.length≤100000
 omega
theorem Fit.bk {rp s c} (h:Fit (c::rp) s):Fit rp (c::s):=by
 have:rp.length+1+s.length≤100000:=h
 show rp.length+(s.length+1)≤100000
 omega
theorem Fit.app:∀ {l rp s},Fit rp (l++s)→Fit (ra l rp) s
 | [],_,_,h=>h
 | _::l,_,_,h=>Fit.app (l:=l) h.mv
theorem Fit.at {rp s} (h:Fit rp s):rp.length≤100000:=Nat.le_trans (Nat.le_add_right _ _) h
theorem m9 (rp s:List Nat):(ra rp s).length=rp.length+s.length:=by rw [oB]; simp
theorem aO {n m:Nat} (h:n≤m) (h':m≤4194304):Nat.ble n lim=true:=Nat.ble_eq_true_of_le (Nat.le_trans h h')
theorem Fit.ble {rp s} (h:Fit rp s):Nat.ble (ra rp s).length lim=true:=aO (m:=100000) (by rw [m9]; exact h) (by decide)
theorem qI {n:Nat} (h:n≤1000000000):ii (n:Int)=true:=by rw [vS,decide_eq_true h]
theorem Fit.bd {rp s} (h:Fit rp s):ie (.int (rp.length:Int))=some (some rp.length):=dg _ (Nat.le_trans h.at (by decide))
theorem Fit.bdk {rp s} (h:Fit rp s) (k:Nat) (hk:k≤1000000):ie (.int ((rp.length:Int)+(k:Int)))=some (some (rp.length+k)) :=
 dg (rp.length+k) (Nat.le_trans (Nat.add_le_add h.at hk) (by decide:100000+1000000≤1000000000))
section
variable {σ:ah} {rp s:List Nat} {tot:Int} {dep:Nat} {rest:ah} {L N:Nat}
theorem lV:(SP σ rp s tot dep rest)[σ.length]?=some (KW (ra rp s) tot rp.length dep σ.length):=bt _ _ _
noncomputable def Ff (S:lU) (a:Str):dl→Option PV
 | .inst c as=>(S.clss c).bind fun ci=>bif ci.attrs.contains a then (as.lookup a).bind fun v=>bif yP v then some v else none else none
 | _=>none
noncomputable def Ki (S:lU) (a:Str) (w:PV):dl→Option dl
 | .inst c as=>(S.clss c).bind fun ci=>bif ci.attrs.contains a && Nat.ble as.length 100 then some (.inst c (put a w as)) else none
 | _=>none
theorem nT {α:Type} {b:Bool} {x:Option α} {y} (h:(bif b then x else none)=some y):b=true∧x=some y:=by
 cases b with
 | true=>exact ⟨rfl,h⟩
 | false=>cases h
theorem cz {S:lU} {σ:ah} {n:Nat} {c:dl} {a:Str} {v:PV} (h:σ[n]?=some c) (e:Ff S a c=some v):aq S (.loc n) a σ=some (v,σ):=by
 rw [DL,xc,h]
 cases c with
 | inst c as =>
  obtain ⟨ci,h1,e⟩:=Option.bind_eq_some_iff.mp e
  obtain ⟨h2,e⟩:=nT e
  obtain ⟨w,h3,e⟩:=Option.bind_eq_some_iff.mp e
  obtain ⟨h4,e⟩:=nT e
  cases e
  rw [uz,h1]
  show guard (ci.attrs.contains a) _ σ=_
  rw [h2,h3]
  show guard (yP v) (ret v) σ=_
  rw [h4]; rfl
 | _=>cases e
theorem Ci {S:lU} {σ:ah} {n:Nat} {c c':dl} {a:Str} {w:PV} (h:σ[n]?=some c) (e:Ki S a w c=some c'):am S (.loc n) a w σ=some ((),σ.set n c'):=by
 rw [xd,xc,h]
 cases c with
 | inst c as =>
  obtain ⟨ci,h1,e⟩:=Option.bind_eq_some_iff.mp e
  obtain ⟨h2,e⟩:=nT e
  cases e
  rw [uz,h1]
  show guard (ci.attrs.contains a && Nat.ble as.length 100) _ σ=_
  rw [h2]; rfl
 | _=>cases e
theorem SP_text:aq (af L) (.loc σ.length) cj (SP σ rp s tot dep rest)=some (.str (ra rp s),SP σ rp s tot dep rest):=cz lV rfl
theorem SP_at:aq (af L) (.loc σ.length) ba (SP σ rp s tot dep rest)=some (.int rp.length,SP σ rp s tot dep rest):=cz lV rfl
theorem SP_total:aq (af L) (.loc σ.length) qk (SP σ rp s tot dep rest)=some (.int tot,SP σ rp s tot dep rest):=cz lV rfl
theorem EB:aq (af L) (.loc σ.length) bx (SP σ rp s tot dep rest)=some (.int 0,SP σ rp s tot dep rest):=cz lV rfl
theorem yD:aq (af L) (.loc σ.length) fb (SP σ rp s tot dep rest)=some (.int dep,SP σ rp s tot dep rest):=cz lV rfl
theorem Hd:aq (af L) (.loc σ.length) iL (SP σ rp s tot dep rest)=some (.loc (σ.length+1),SP σ rp s tot dep rest):=cz lV rfl
theorem DO:aq (af L) (.loc σ.length) lz (SP σ rp s tot dep rest)=some (.loc (σ.length+2),SP σ rp s tot dep rest):=cz lV rfl
theorem m_ {a w c'} (e:Ki (af L) a w (KW (ra rp s) tot rp.length dep σ.length)=some c'):am (af L) (.loc σ.length) a w (SP σ rp s tot dep rest)=some ((),σ++c'::rest) :=
 (Ci lV e).trans (congrArg (fun x=>some ((),x)) (nU _ _ _ _))
theorem SP_mv {c}:am (af L) (.loc σ.length) ba (.int (rp.length+1)) (SP σ rp (c::s) tot dep rest)=some ((),SP σ (c::rp) s tot dep rest):=m_ rfl
theorem M8 {c}:am (af L) (.loc σ.length) ba (.int rp.length) (SP σ (c::rp) s tot dep rest)=some ((),SP σ rp (c::s) tot dep rest):=m_ rfl
theorem IM:am (af L) (.loc σ.length) fb (.int (dep+1)) (SP σ rp s tot dep rest)=some ((),SP σ rp s tot (dep+1) rest):=m_ rfl
theorem L9:am (af L) (.loc σ.length) fb (.int ((dep+1:Nat)-1)) (SP σ rp s tot (dep+1) rest)=some ((),SP σ rp s tot dep rest) :=
 (show (((dep+1:Nat):Int)-1)=(dep:Int) by omega) ▸ m_ rfl
noncomputable def K_ (S:lU) (nm:Str):dl→Option Str
 | .inst c as=>(S.clss c).bind fun ci=>(ci.meths.lookup nm).bind fun f=>bif (as.lookup nm).isNone then some f else none
 | _=>none
theorem BQ {S:lU} {σ:ah} {n:Nat} {c:dl} {nm f:Str} (h:σ[n]?=some c) (e:K_ S nm c=some f):bw S (.loc n) nm σ=some (.fn f,σ):=by
 rw [zp,h]
 cases c with
 | inst c as =>
  obtain ⟨ci,h1,e⟩:=Option.bind_eq_some_iff.mp e
  obtain ⟨g,h2,e⟩:=Option.bind_eq_some_iff.mp e
  obtain ⟨h3,e⟩:=nT e
  cases e
  rw [Bi,xc,h,uz,h1]
  show opt (ci.meths.lookup nm) _ σ=_
  rw [h2]
  show guard (as.lookup nm).isNone _ σ=_
  rw [h3]; rfl
 | _=>cases e
theorem Ga {nm f} (e:K_ (af L) nm (KW (ra rp s) tot rp.length dep σ.length)=some f):bw (af L) (.loc σ.length) nm (SP σ rp s tot dep rest)=some (.fn f,SP σ rp s tot dep rest):=BQ lV e
theorem SP_peekE:bw (af L) (.loc σ.length) dm (SP σ rp s tot dep rest)=some (.fn (fk 54),SP σ rp s tot dep rest):=Ga rfl
theorem SP_skipsE:bw (af L) (.loc σ.length) a_ (SP σ rp s tot dep rest)=some (.fn (fk 55),SP σ rp s tot dep rest):=Ga rfl
theorem pB (h:Fit rp s) (k:Nat) (hk:k≤1000000) {τ:ah}:aS (.str (ra rp s)) (.int rp.length) (.int (rp.length+(k:Int))) τ=some (.str (s.take k),τ):=by
 rw [nx,h.bd,h.bdk k hk]
 show guard (Nat.ble (ra rp s).length lim) (ret (PV.str (((ra rp s).take (rp.length+k)).drop rp.length))) τ=_
 rw [h.ble,oB,show rp.length=rp.reverse.length by simp,List.take_length_add_append,List.drop_left]; rfl
theorem slice_sp1 (h:Fit rp s) {τ:ah}:aS (.str (ra rp s)) (.int rp.length) (.int (rp.length+1)) τ=some (.str (s.take 1),τ):=pB h 1 (by decide)
theorem slice_sp2 (h:Fit rp s) {τ:ah}:aS (.str (ra rp s)) (.int rp.length) (.int (rp.length+2)) τ=some (.str (s.take 2),τ):=pB h 2 (by decide)
theorem dE {w:List Nat} (h:Nat.ble w.length lim=true) {τ:ah}:bU [.str w] τ=some (.int w.length,τ):=by
 show guard (Nat.ble w.length lim) _ τ=_
 rw [h]; rfl
theorem len_sp (h:Fit rp s) {τ:ah}:bU [.str (ra rp s)] τ=some (.int (ra rp s).length,τ):=dE h.ble
theorem item_sp {c} (h:Fit rp (c::s)) {τ:ah}:ao (.str (ra rp (c::s))) (.int rp.length) τ=some (.str [c],τ):=by
 rw [zG,qI (Nat.le_trans h.at (by decide))]
 show opt (ra rp (c::s))[rp.length]? _ τ=_
 rw [oB,show rp.length=rp.reverse.length by simp,bt]; rfl
theorem Jk {c}:decide ((rp.length:Int)<((ra rp (c::s)).length:Nat))=true:=decide_eq_true (by rw [m9]; exact Int.ofNat_lt.mpr (Nat.lt_add_of_pos_right (Nat.succ_pos _)))
theorem KK:decide ((rp.length:Int)<((ra rp []).length:Nat))=false:=decide_eq_false (by rw [m9]; exact Int.lt_irrefl _)
end
section
variable {σ:ah} {rp s:List Nat} {tot:Int} {dep:Nat} {rest:ah} {L N:Nat}
theorem peek_ok (h:Fit rp s):aW (aa (af L) (N+1)) (.loc σ.length) dm [] (.fn (fk 54)) (SP σ rp s tot dep rest)=some (.str (s.take 1),SP σ rp s tot dep rest):=by
 refine ar (ot ..) ?_ ?_ <;> fail "go"
theorem iT (h:Fit rp s) {w:List Nat} (hw:Nat.ble w.length 1000=true) (e:decide (s.take w.length=w)=false):aW (aa (af L) (N+1)) (.loc σ.length) a_ [.str w] (.fn (fk 55)) (SP σ rp s tot dep rest)=some (.bool false,SP σ rp s tot dep rest):=by
 have h1:=dE (τ:=SP σ rp s tot dep rest) (aO (Nat.le_of_ble_eq_true hw) (by decide))
 have h2:=pB h w.length (Nat.le_trans (Nat.le_of_ble_eq_true hw) (by decide)) (τ:=SP σ rp s tot dep rest)
 have h3:(!decide (s.take w.length=w))=true:=by rw [e]; rfl
 refine ar (iV ..) ?_ ?_ <;> fail "go"
theorem F8:∀ (w rp s:List Nat),ra (ra w rp) s=ra rp (w++s)
 | [],_,_=>rfl
 | c::w,rp,s=>F8 w (c::rp) s
theorem G5 {w:List Nat}:am (af L) (.loc σ.length) ba (.int (rp.length+w.length)) (SP σ rp (w++s) tot dep rest)=some ((),SP σ (ra w rp) s tot dep rest):=by
 have e:((ra w rp).length:Int)=rp.length+w.length:=by rw [m9,Int.natCast_add,Int.add_comm]
 rw [← e]
 refine (m_ rfl).trans ?_
 unfold SP
 rw [F8]; rfl
theorem ln {w t:List Nat} (h:Fit rp t) (hw:Nat.ble w.length 1000=true) (e:t=w++s):aW (aa (af L) (N+1)) (.loc σ.length) a_ [.str w] (.fn (fk 55)) (SP σ rp t tot dep rest)=some (.bool true,SP σ (ra w rp) s tot dep rest):=by
 subst e
 have h1:=dE (τ:=SP σ rp (w++s) tot dep rest) (aO (Nat.le_of_ble_eq_true hw) (by decide))
 have h2:=pB h w.length (Nat.le_trans (Nat.le_of_ble_eq_true hw) (by decide)) (τ:=SP σ rp (w++s) tot dep rest)
 rw [List.take_left] at h2
 have h3:(!decide (w=w))=false:=by simp
 have h4:=G5 (w:=w) (σ:=σ) (rp:=rp) (s:=s) (tot:=tot) (dep:=dep) (rest:=rest) (L:=L)
 refine ar (iV ..) ?_ ?_ <;> fail "go"
end
end
local macro_rules | `(tactic| fail "skn")=>`(tactic| ((with_reducible refine iT ?h ?hw ?e); (case h=>fail "fit"); (case hw=>rfl); (case e=>first | rfl | assumption)))
local macro_rules | `(tactic| fail "sky")=>`(tactic| ((with_reducible refine ln (s:=?s) ?h ?hw ?e); (case h=>fail "fit"); (case hw=>rfl); (case e=>first | rfl | assumption)))
section
theorem HR:∀ (m rp r:List Nat),((ra (ra m rp) r).take (ra m rp).length).drop rp.length=m:=fun m rp r=>by
 rw [oB (ra m rp) r,show (ra m rp).length=(ra m rp).reverse.length by simp,List.take_left,oB,List.reverse_append,List.reverse_reverse,show rp.length=rp.reverse.length by simp,List.drop_left]
section
variable {σ:ah} {tot:Int} {dep:Nat} {rest:ah} {L N:Nat} {signs:List Nat} {most:Int} {p:Nat} {r:List Nat}
noncomputable def uD (L N:Nat) (σ:ah) (signs:List Nat) (most:Int) (p L':Nat):ah→Option (PV × ah) :=
 bc (py L N) (oZ L N) (oJ L N) L' [(aK,some (.loc σ.length)),(nV,some (.str signs)),(iB,some (.int most)),(bl,some (.int p))]
theorem FH {rp:List Nat} (hp:p≤100000) (h:Fit rp r) {τ:ah}:aS (.str (ra rp r)) (.int p) (.int rp.length) τ=some (.str (((ra rp r).take rp.length).drop p),τ):=by
 rw [nx,h.bd,dg _ (Nat.le_trans hp (by decide))]
 show guard (Nat.ble (ra rp r).length lim) _ _=_
 rw [h.ble]; rfl
theorem HD {rp:List Nat} {M:Nat} (hp:p≤100000) (h:Fit rp r) (hs:(∀ c r',r=c::r'→signs.contains c=false)∨(rp.length:Int)-p=most) :
  uD L N σ signs most p (M+1) (SP σ rp r tot dep rest)=some (.str (((ra rp r).take rp.length).drop p),SP σ rp r tot dep rest):=by
 have hk:=FH hp h (τ:=SP σ rp r tot dep rest)
 have e:((rp.length:Int)-p=most)→(!decide ((rp.length:Int)-p=most))=false:=fun e=>by rw [decide_eq_true e]; rfl
 unfold uD
 cases r with
 | nil =>
  have q:=KK (rp:=rp)
  refine ar (bp (iO ..) (iE ..) (iH ..)) ?_ ?_ <;> fail "go"
 | cons c r =>
  have q:=Jk (rp:=rp) (s:=r) (c:=c)
  cases q2:signs.contains c with
  | true =>
   have q3:=e (hs.resolve_left fun h=>Bool.noConfusion (q2.symm.trans (h c r rfl)))
   refine ar (bp (iO ..) (iE ..) (iH ..)) ?_ ?_ <;> fail "go"
  | false=>refine ar (bp (iO ..) (iE ..) (iH ..)) ?_ ?_ <;> fail "go"
theorem Gj {c:Nat} {rp:List Nat} {M:Nat} {X} (h:Fit rp (c::r)) (q2:signs.contains c=true) (hj:(rp.length:Int)-p≠most) (ih:uD L N σ signs most p M (SP σ (c::rp) r tot dep rest)=some X) :
  uD L N σ signs most p (M+1) (SP σ rp (c::r) tot dep rest)=some X:=by
 have q:=Jk (rp:=rp) (s:=r) (c:=c)
 have q3:(!decide ((rp.length:Int)-p=most))=true:=by rw [decide_eq_false hj]; rfl
 unfold uD at *
 refine ar (a:=X.1) (σ':=X.2) (bp (iO ..) (iE ..) (iH ..)) ?_ ?_ <;> fail "go"
theorem yK (hp:p≤100000):∀ (b rp:List Nat) (L':Nat),b.length<L'→Fit rp (b++r)→(∀ c ∈ b,signs.contains c=true)→(∀ j:Nat,j<b.length→((rp.length+j:Nat):Int)-p≠most) →
  ((∀ c r',r=c::r'→signs.contains c=false)∨((rp.length+b.length:Nat):Int)-p=most) →
  uD L N σ signs most p L' (SP σ rp (b++r) tot dep rest)=some (.str (((ra (ra b rp) r).take (ra b rp).length).drop p),SP σ (ra b rp) r tot dep rest)
 | [],rp,M+1,_,h,_,_,hs=>HD hp h hs
 | c::b,rp,M+1,hL,h,hc,hj,hs=>Gj h (hc c (.head _)) (hj 0 (Nat.succ_pos _)) (yK hp b (c::rp) M (Nat.lt_of_succ_lt_succ hL) (Fit.mv (s:=b++r) h) (fun x hx=>hc x (.tail _ hx))
   (fun j h=>by rw [List.length_cons,Nat.succ_add_eq_add_succ]; exact hj (j+1) (Nat.succ_lt_succ h)) (by rw [List.length_cons,Nat.succ_add_eq_add_succ]; exact hs))
theorem rb (hL:100002≤L) (m rp:List Nat) (h:Fit rp (m++r)) (hc:∀ c ∈ m,signs.contains c=true) (hj:∀ j:Nat,j<m.length→(j:Int)≠most)
  (hs:(∀ c r',r=c::r'→signs.contains c=false)∨(m.length:Int)=most) :
  aa (af L) (N+1) em [.loc σ.length,.str signs,.int most] (SP σ rp (m++r) tot dep rest)=some (.str m,SP σ (ra m rp) r tot dep rest):=by
 have k:=yK (σ:=σ) (tot:=tot) (dep:=dep) (rest:=rest) (L:=L) (N:=N) (most:=most) h.at m rp L (Nat.lt_of_le_of_lt (Nat.le_trans (List.length_append ▸ Nat.le_add_right _ _) (Nat.le_trans (Nat.le_add_left _ rp.length) h)) (Nat.lt_of_lt_of_le (by decide) hL)) h hc
  (fun j h e=>hj j h (by omega)) (hs.imp id fun e=>by omega)
 rw [HR] at k
 unfold uD at k
 refine ar (DN ..) ?_ ?_ <;> fail "go"
end
end
section
theorem DJ:∀ c,c<58→48≤c→(occurrences (one [48,49,50,51,52,53,54,55,56,57,97,98,99,100,101,102]) (one [c]) 0 16 1).head?=some (c-48):=by decide +kernel
theorem tR:∀ c,c<58→48≤c→tooLong (Txt.lower (one [c])).length=false∧cs (Txt.lower (one [c]))=[c]:=by decide +kernel
theorem AI {x y:Int} {τ:ah} (h:small x=true) (h':small y=true):aZ .Mult (.int x) (.int y) τ=some (.int (x*y),τ):=by
 show guard (small x && small y) _ τ=_
 rw [h,h']; rfl
noncomputable def rF (base f:Int) (c:Nat):Int:=if (1114112:Int)<f*base+((c-48:Nat):Int) then 1114112 else f*base+((c-48:Nat):Int)
noncomputable def xR (base f:Int) (l:List Nat):Int:=l.foldl (rF base) f
section
variable {L N:Nat} {τ:ah} {base:Int}
theorem rH (hb:0≤base) (hb':base≤16) (run:PV):∀ (ds:List Nat) (f:Int) (L':Nat) (o:Option PV),ds.length<L'→0≤f→f≤1114112→(∀ c ∈ ds,48≤c∧c<58) →
   cJ (e7 L N) (eX L N) L' (.items (ds.map fun c=>.str [c])) [(da,some run),(ri,some (.int base)),(b_,some (.int f)),(g7,o)] τ=some (.int (xR base f ds),τ)
 | [],f,M+1,o,_,_,_,_=>ar (ly.trans (mS ..)) [] rfl
 | c::r,f,M+1,o,hL,h0,h1,hd=>by
  have hc:=hd c (.head _)
  have s1:0≤f*base:=Int.mul_nonneg h0 hb
  have s2:0≤rF base f c:=by unfold rF; split <;> omega
  have s3:rF base f c≤1114112:=by unfold rF; split <;> omega
  have ih:=rH hb hb' run r (rF base f c) M (some (.str [c])) (Nat.lt_of_succ_lt_succ hL) s2 s3 fun x hx=>hd x (.tail _ hx)
  have hm:=AI (x:=f) (y:=base) (τ:=τ) (by rw [nP]; omega) (by rw [nP]; omega)
  have hx:aW (aa (af L) N) iG x0 [.str [c]] .str τ=some (.int ((c-48:Nat):Int),τ):=by
   show opt (occurrences (one [48,49,50,51,52,53,54,55,56,57,97,98,99,100,101,102]) (one [c]) 0 16 1).head? _ τ=_
   rw [DJ c hc.2 hc.1]; rfl
  have hl:aW (aa (af L) N) (.str [c]) x4 [] .str τ=some (.str [c],τ):=by
   show guard (!tooLong (Txt.lower (one [c])).length) (ret (PV.str (cs (Txt.lower (one [c]))))) τ=_
   rw [(tR c hc.2 hc.1).1,(tR c hc.2 hc.1).2]; rfl
  have ih:cJ (e7 L N) (eX L N) M (.items (r.map fun c=>.str [c])) [(da,some run),(ri,some (.int base)),(b_,some (.int (if (1114112:Int)<f*base+((c-48:Nat):Int) then 1114112 else f*base+((c-48:Nat):Int)))),(g7,some (.str [c]))] τ=some (.int (xR base (rF base f c) r),τ):=ih
  refine ar (vf.trans (mN ..)) ?_ ?_ <;> fail "go"
theorem wu {ds:List Nat} (hb:0≤base) (hb':base≤16) (hL:ds.length<L) (hd:∀ c ∈ ds,48≤c∧c<58) :
  aa (af L) (N+1) bL [.str ds,.int base] τ=some (.int (xR base 0 ds),τ):=by
 have k:=rH (L:=L) (N:=N) (τ:=τ) hb hb' (.str ds) ds 0 L none hL (by decide) (by decide) hd
 have hi:ce (.str ds) τ=some (.items (ds.map fun c=>.str [c]),τ):=by
  show guard (ds.all fun c=>decide (c<128)) _ τ=_
  rw [show (ds.all fun c=>decide (c<128))=true from List.all_eq_true.mpr fun c hc=>decide_eq_true (Nat.lt_trans (hd c hc).2 (by decide))]; rfl
 refine ar (rf ..) ?_ ?_ <;> fail "go"
theorem wr (hb:1≤base):∀ (r:List Nat) {f k:Int},0≤k→k≤f→k≤1114112→k≤xR base f r
 | [],_,_,_,h,_=>h
 | c::r,f,k,h0,h,hk=>by
  refine wr hb r h0 ?_ hk
  have:f*1≤f*base:=Int.mul_le_mul_of_nonneg_left hb (Int.le_trans h0 h)
  unfold rF; split <;> omega
end
end
section
section
variable {σ:ah} {rp r:List Nat} {tot:Int} {dep:Nat} {rest:ah} {L N:Nat} {fi fm fs:Bool}
theorem Kk {m:List Nat}:∀ j:Nat,j<m.length→(j:Int)≠-1:=fun j _ h=>by omega
theorem xF {ds:List Nat} {base n:Int} (hL:100002≤L) (hb:0≤base) (hb':base≤16) (hn:Nat.ble ds.length 100=true) (hd:(ds.all fun c=>Nat.ble 48 c && Nat.ble c 57)=true) (e:xR base 0 ds=n) {τ:ah} :
  aa (af L) (N+1) bL [.str ds,.int base] τ=some (.int n,τ) :=
 e ▸ wu hb hb' (Nat.lt_of_le_of_lt (Nat.le_of_ble_eq_true hn) (Nat.lt_of_lt_of_le (by decide) hL)) fun c hc=>by
  have:=List.all_eq_true.mp hd c hc
  rw [Bool.and_eq_true,Nat.ble_eq,Nat.ble_eq] at this
  exact ⟨this.1,Nat.lt_succ_of_le this.2⟩
theorem Cf (hL:100002≤L) {signs m:List Nat} {most:Int} {s:List Nat} (h:Fit rp s) (hc:(m.all signs.contains)=true) (hj:(m.length:Int)=most) (e:s=m++r) :
  aa (af L) (N+1) em [.loc σ.length,.str signs,.int most] (SP σ rp s tot dep rest)=some (.str m,SP σ (ra m rp) r tot dep rest) :=
 e ▸ rb hL m rp (e ▸ h) (List.all_eq_true.mp hc) (fun j h e=>by omega) (.inr hj)
theorem JZ (hL:100002≤L) (h:Fit rp (54::49::r)):aa (af L) (N+3) gt [.loc σ.length] (SP σ rp (54::49::r) tot dep rest)=some (.str [97],SP σ (49::54::rp) r tot dep rest):=by
 have h0:=iT (σ:=σ) (tot:=tot) (dep:=dep) (rest:=rest) (L:=L) (N:=N+1) h (w:=[123]) rfl rfl
 have h1:=Cf (σ:=σ) (tot:=tot) (dep:=dep) (rest:=rest) (N:=N+1) hL (signs:=[48,49,50,51,52,53,54,55,56,57,97,98,99,100,101,102,65,66,67,68,69,70]) (m:=[54,49]) (most:=2) h rfl rfl rfl
 have h2:=xF (N:=N+1) (τ:=SP σ (ra [54,49] rp) r tot dep rest) (n:=97) (base:=16) hL (by decide) (by decide) (ds:=[54,49]) rfl rfl rfl
 refine ar (rc ..) ?_ ?_
 ·fail "go"
 ·kernel_rfl
theorem H3 (hL:100002≤L) (h:Fit rp (120::54::49::r)):aa (af L) (N+4) bP [.loc σ.length] (SP σ rp (120::54::49::r) tot dep rest)=some (.str [97],SP σ (49::54::120::rp) r tot dep rest):=by
 have h1:=JZ (σ:=σ) (tot:=tot) (dep:=dep) (rest:=rest) (N:=N) hL h.mv
 refine ar (fF ..) ?_ ?_ <;> fail "go"
theorem Hq (h:Fit rp (110::r)):aa (af L) (N+4) bP [.loc σ.length] (SP σ rp (110::r) tot dep rest)=some (.str [10],SP σ (110::rp) r tot dep rest):=by
 refine ar (fF ..) ?_ ?_ <;> fail "go"
theorem HZ (hL:100002≤L) (h:Fit rp (49::48::49::r)):aa (af L) (N+4) bP [.loc σ.length] (SP σ rp (49::48::49::r) tot dep rest)=some (.str [65],SP σ (49::48::49::rp) r tot dep rest):=by
 have h1:aa (af L) (N+3) em [.loc σ.length,gq,.int 3] (SP σ rp (49::48::49::r) tot dep rest)=_:=Cf (σ:=σ) (tot:=tot) (dep:=dep) (rest:=rest) (N:=N+2) hL (signs:=[48,49,50,51,52,53,54,55]) (m:=[49,48,49]) h rfl rfl rfl
 have h2:=xF (N:=N+2) (τ:=SP σ (ra [49,48,49] rp) r tot dep rest) (n:=65) (base:=8) hL (by decide) (by decide) (ds:=[49,48,49]) rfl rfl rfl
 refine ar (fF ..) ?_ ?_ <;> fail "go"
end
end
section
noncomputable def aX (i m s:Bool):List Nat:=(if i=true then [105] else [])++(if m=true then [109] else [])++(if s=true then [115] else [])
theorem has_i {fi fm fs:Bool} {τ:ah}:aj .In (.str [105]) (.str (aX fi fm fs)) τ=some (fi,τ):=by cases fi <;> cases fm <;> cases fs <;> rfl
theorem has_m {fi fm fs:Bool} {τ:ah}:aj .In (.str [109]) (.str (aX fi fm fs)) τ=some (fm,τ):=by cases fi <;> cases fm <;> cases fs <;> rfl
theorem has_s {fi fm fs:Bool} {τ:ah}:aj .In (.str [115]) (.str (aX fi fm fs)) τ=some (fs,τ):=by cases fi <;> cases fm <;> cases fs <;> rfl
theorem Mv {fi fm fs:Bool} {τ:ah}:aj .NotIn (.str [120]) (.str (aX fi fm fs)) τ=some (true,τ):=by cases fi <;> cases fm <;> cases fs <;> rfl
section
variable {σ:ah} {rp r:List Nat} {tot:Int} {dep:Nat} {rest:ah} {L N:Nat} {fi fm fs:Bool}
noncomputable def Np (c:Nat):PV:=.tup [.str [115,101,116],.frz [.tup [.str [99,108,97,115,115],.str [c]]],.bool false,.bool false]
theorem lj {c:Nat} (hc:([100,68,119,87,115,83,104,72,118,86]++[78]).contains c=true) (h:Fit rp (92::c::r)):aa (af L) (N+5) cV [.loc σ.length,.str (aX fi fm fs)] (SP σ rp (92::c::r) tot dep rest)
 =some (Np c,SP σ (c::92::rp) r tot dep rest):=by
 refine ar (fJ ..) ?_ ?_ <;> fail "go"
noncomputable def Mm (w:List Nat):PV:=.tup [.str [97,116],.str w]
theorem li {c:Nat} (hc:([100,68,119,87,115,83,104,72,118,86]++[78]).contains c=false) (hc':[65,122,90,98,66,71].contains c=true) (h:Fit rp (92::c::r)) :
  aa (af L) (N+5) cV [.loc σ.length,.str (aX fi fm fs)] (SP σ rp (92::c::r) tot dep rest)=some (Mm [c],SP σ (c::92::rp) r tot dep rest):=by
 refine ar (fJ ..) ?_ ?_ <;> fail "go"
noncomputable def KZ (c:Nat) (fo:Bool):PV:=.tup [.str [115,105,103,110],.str [c],.bool fo]
theorem LA (h:Fit rp (92::110::r)):aa (af L) (N+5) cV [.loc σ.length,.str (aX fi fm fs)] (SP σ rp (92::110::r) tot dep rest)=some (KZ 10 fi,SP σ (110::92::rp) r tot dep rest):=by
 have h1:=Hq (σ:=σ) (tot:=tot) (dep:=dep) (rest:=rest) (L:=L) (N:=N) h.mv
 refine ar (fJ ..) ?_ ?_ <;> fail "go"
theorem LO (hL:100002≤L) (h:Fit rp (92::120::54::49::r)):aa (af L) (N+5) cV [.loc σ.length,.str (aX fi fm fs)] (SP σ rp (92::120::54::49::r) tot dep rest)=some (KZ 97 fi,SP σ (49::54::120::92::rp) r tot dep rest):=by
 have h1:=H3 (σ:=σ) (tot:=tot) (dep:=dep) (rest:=rest) (N:=N) hL h.mv
 refine ar (fJ ..) ?_ ?_ <;> fail "go"
theorem AK (l:List Nat):∃ m r',l=m++r'∧(∀ c ∈ m,48≤c∧c<58)∧∀ c r'',r'=c::r''→¬ (48≤c∧c<58):=by
 induction l with
 | nil=>exact ⟨[],[],rfl,(fun _ h=>nomatch h),(fun _ _ h=>nomatch h)⟩
 | cons c l ih =>
  by_cases h:48≤c∧c<58
  ·exact ih.elim fun m ih=>ih.elim fun r' ih=>⟨c::m,r',congrArg _ ih.1,fun x hx=>(List.mem_cons.mp hx).elim (fun e=>e ▸ h) (ih.2.1 x),ih.2.2⟩
  ·exact ⟨[],c::l,rfl,(fun _ h=>nomatch h),(fun _ _ e=>(List.cons.inj e).1 ▸ h)⟩
theorem HW:∀ c,c<58→48≤c→([48,49,50,51,52,53,54,55,56,57]:List Nat).contains c=true:=by decide
theorem IR (c:Nat) (h:¬ (48≤c∧c<58)):([48,49,50,51,52,53,54,55,56,57]:List Nat).contains c=false:=by
 rw [List.contains_eq_mem,decide_eq_false]
 intro hm
 have:∀ x ∈ ([48,49,50,51,52,53,54,55,56,57]:List Nat),48≤x∧x<58:=by decide
 exact h (this c hm)
theorem L7 (hL:100002≤L) (htot:tot≤100) (h:Fit rp (92::49::48::49::r)):aa (af L) (N+5) cV [.loc σ.length,.str (aX fi fm fs)] (SP σ rp (92::49::48::49::r) tot dep rest)
 =some (KZ 65 fi,SP σ (49::48::49::92::rp) r tot dep rest):=by
 obtain ⟨m,r',e,hm,hr⟩:=AK r
 have hm3:∀ c ∈ 49::48::49::m,48≤c∧c<58:=fun c hc=>by
  rcases List.mem_cons.mp hc with rfl | hc
  ·decide
  rcases List.mem_cons.mp hc with rfl | hc
  ·decide
  rcases List.mem_cons.mp hc with rfl | hc
  ·decide
  exact hm c hc
 have h0:(49::48::49::r)=(49::48::49::m)++r':=by rw [e]; rfl
 have hf:=h.mv
 have hlm:(49::48::49::m).length<L:=by
  have:rp.length+1+(49::48::49::r).length≤100000:=hf
  rw [h0,List.length_append] at this; omega
 have h2:aa (af L) (N+4) em [.loc σ.length,nF,.int (-1)] (SP σ (92::rp) (49::48::49::r) tot dep rest)=_:=h0 ▸ rb (σ:=σ) (tot:=tot) (dep:=dep) (rest:=rest) (N:=N+3) (most:=-1) hL (49::48::49::m) (92::rp) (h0 ▸ hf)
  (fun c hc=>HW c (hm3 c hc).2 (hm3 c hc).1) Kk (.inl fun c r'' e=>IR c (hr c r'' e))
 have h3:=wu (L:=L) (N:=N+3) (τ:=SP σ (ra (49::48::49::m) (92::rp)) r' tot dep rest) (base:=10) (by decide) (by decide) hlm hm3
 have h4:(101:Int)≤xR 10 0 (49::48::49::m):=wr (f:=101) (by decide) m (by decide) (by decide) (by decide)
 have q1:decide (xR 10 0 (49::48::49::m)<10)=false:=decide_eq_false fun h=>by omega
 have q2:decide (xR 10 0 (49::48::49::m)≤tot)=false:=decide_eq_false fun h=>by omega
 have h5:am (af L) (.loc σ.length) ba (.int ((92::rp).length:Nat)) (SP σ (ra (49::48::49::m) (92::rp)) r' tot dep rest)=some ((),SP σ (92::rp) (49::48::49::r) tot dep rest):=by
  refine (m_ rfl).trans ?_
  unfold SP
  rw [F8,← h0]; rfl
 have h6:=HZ (σ:=σ) (tot:=tot) (dep:=dep) (rest:=rest) (N:=N) hL hf
 refine ar (fJ ..) ?_ ?_
 ·fail "go"
 ·kernel_rfl
end
end
section
theorem nY {S:lU} {σ:ah} {n:Nat} {l:List PV} {nm:Str} (h:σ[n]?=some (.lst l)) (hn:lw.contains nm=true):bw S (.loc n) nm σ=some (.lst,σ):=by
 rw [zp,h]
 show guard (lw.contains nm) (ret Ke.lst) σ=_
 rw [hn]; rfl
theorem Ib {c:PV→List PV→M PV} {σ:ah} {n:Nat} {l l':List PV} (h:σ[n]?=some (.lst l)) (hl:Nat.ble (l.length+l'.length) lim=true):aW c (.loc n) iY [.frz l'] .lst σ=some (.none,σ.set n (.lst (l++l'))):=by
 rw [tU,za]
 show getL n _ σ=_
 rw [dC,h]
 show guard (Nat.ble (l.length+l'.length) lim) _ σ=_
 rw [hl]; rfl
theorem tc {c:PV→List PV→M PV} {σ:ah} {n:Nat} {l:List PV} {v:PV} (h:σ[n]?=some (.lst l)) (hl:Nat.ble l.length lim=true):aW c (.loc n) aY [v] .lst σ=some (.none,σ.set n (.lst (l++[v]))):=by
 rw [tU,yy,dC,h]
 show guard (Nat.ble l.length lim) _ σ=_
 rw [hl]; rfl
section
variable {σ:ah} {rp s r:List Nat} {tot:Int} {dep:Nat} {rest r1 r2:ah} {L N:Nat} {l l':List PV}
theorem tZ:SP σ rp s tot dep (r1++r2)=(σ++KW (ra rp s) tot rp.length dep σ.length::r1)++r2:=by unfold SP; simp
theorem EZ:σ.length+1+r1.length=(σ++KW (ra rp s) tot rp.length dep σ.length::r1).length:=by simp; omega
theorem o9 {c:dl}:(SP σ rp s tot dep (r1++c::r2))[σ.length+1+r1.length]?=some c:=by rw [tZ,EZ]; exact bt _ _ _
theorem Cu {c c':dl}:(SP σ rp s tot dep (r1++c::r2)).set (σ.length+1+r1.length) c'=SP σ rp s tot dep (r1++c'::r2):=by rw [tZ,EZ,nU,← tZ]
theorem wJ {c:dl}:bT c (SP σ rp s tot dep rest)=some (.loc (σ.length+1+rest.length),SP σ rp s tot dep (rest++[c])):=by
 show some (PV.loc (SP σ rp s tot dep rest).length,SP σ rp s tot dep rest++[c])=_
 rw [show (SP σ rp s tot dep rest).length=σ.length+1+rest.length by simp [SP]; omega,show SP σ rp s tot dep rest++[c]=SP σ rp s tot dep (rest++[c]) by simp [SP]]
theorem CH:bw (af L) (.loc (σ.length+1+r1.length)) iY (SP σ rp s tot dep (r1++.lst l::r2))=some (.lst,SP σ rp s tot dep (r1++.lst l::r2)):=nY o9 rfl
theorem xC:bw (af L) (.loc (σ.length+1+r1.length)) aY (SP σ rp s tot dep (r1++.lst l::r2))=some (.lst,SP σ rp s tot dep (r1++.lst l::r2)):=nY o9 rfl
theorem Fi {c} (hl:Nat.ble (l.length+l'.length) lim=true):aW c (.loc (σ.length+1+r1.length)) iY [.frz l'] .lst (SP σ rp s tot dep (r1++.lst l::r2))=some (.none,SP σ rp s tot dep (r1++.lst (l++l')::r2)) :=
 (Ib o9 hl).trans (congrArg (fun x=>some (PV.none,x)) Cu)
theorem AV {c v} (hl:Nat.ble l.length lim=true):aW c (.loc (σ.length+1+r1.length)) aY [v] .lst (SP σ rp s tot dep (r1++.lst l::r2))=some (.none,SP σ rp s tot dep (r1++.lst (l++[v])::r2)) :=
 (tc o9 hl).trans (congrArg (fun x=>some (PV.none,x)) Cu)
noncomputable def rg (a b:Nat):PV:=.tup [.str [114,97,110,103,101],.int a,.int b]
noncomputable def kl (c:Nat):PV:=.tup [.str [99,108,97,115,115],.str [c]]
theorem tV (h:Fit rp s) (e:decide (s.take 2=[91,58])=false):aa (af L) (N+2) gU [.loc σ.length] (SP σ rp s tot dep rest)=some (.none,SP σ rp s tot dep rest):=by
 have q:(!decide (s.take 2=[91,58]))=true:=by rw [e]; rfl
 refine ar (oF ..) ?_ ?_ <;> fail "go"
theorem cF {c:Nat} (h:Fit rp (c::r)) (e:decide ((c::r).take 2=[91,58])=false) (e':decide ([c]=[92])=false):aa (af L) (N+5) dr [.loc σ.length] (SP σ rp (c::r) tot dep rest)=some (.frz [rg c c],SP σ (c::rp) r tot dep rest):=by
 have h1:=tV (σ:=σ) (tot:=tot) (dep:=dep) (rest:=rest) (L:=L) (N:=N+2) h e
 have e':decide ((c::r).take 1=[92])=false:=e'
 refine ar (jX ..) ?_ ?_ <;> fail "go"
theorem pG {c:Nat} (h:Fit rp (92::c::r)) (hc:[100,68,119,87,115,83,104,72,118,86].contains c=true):aa (af L) (N+5) dr [.loc σ.length] (SP σ rp (92::c::r) tot dep rest)=some (.frz [kl c],SP σ (c::92::rp) r tot dep rest):=by
 have h1:=tV (σ:=σ) (tot:=tot) (dep:=dep) (rest:=rest) (L:=L) (N:=N+2) h rfl
 refine ar (jX ..) ?_ ?_ <;> fail "go"
end
end
section
noncomputable def Md (sub:List Nat):List Nat→Option Nat
 | []=>none
 | c::r=>bif decide ((c::r).take sub.length=sub) then some 0 else (Md sub r).map (·+1)
theorem Gy {sub:List Nat}:∀ {s:List Nat} {k:Nat},Md sub s=some k→(s.drop k).take sub.length=sub∧k+sub.length≤s.length∧∀ j,j<k→(s.drop j).take sub.length≠sub
 | c::r,k,h=>by
  unfold Md at h
  cases e:decide ((c::r).take sub.length=sub) with
  | true =>
   rw [e] at h
   cases h
   have e:=of_decide_eq_true e
   have:=congrArg List.length e
   rw [List.length_take] at this
   exact ⟨e,by omega,fun j h=>absurd h (Nat.not_lt_zero _)⟩
  | false =>
   rw [e] at h
   obtain ⟨k',h',rfl⟩:=Option.map_eq_some_iff.mp h
   obtain ⟨h1,h2,h3⟩:=Gy h'
   exact ⟨h1,by rw [List.length_cons]; omega,fun j hj=>match j with
    | 0=>of_decide_eq_false e
    | j+1=>h3 j (Nat.lt_of_succ_lt_succ hj)⟩
theorem Df (rp s:List Nat) (k:Nat):(ra rp s).drop (rp.length+k)=s.drop k:=by rw [oB,show rp.length=rp.reverse.length by simp,List.drop_length_add_append]
theorem ID {sub rp s:List Nat} {k:Nat} (h:Md sub s=some k):Txt.find3 (one (ra rp s)) (one sub) (rp.length:Int)=((rp.length+k:Nat):Int):=by
 obtain ⟨h1,h2,h3⟩:=Gy h
 refine GQ (Nat.le_add_right _ _) (by rw [Df]; exact h1) (by rw [m9]; omega) fun j hj hj'=>?_
 obtain ⟨i,rfl⟩:=Nat.exists_eq_add_of_le hj
 rw [Df]
 exact h3 i (Nat.lt_of_add_lt_add_left hj')
section
variable {σ:ah} {rp s r:List Nat} {tot:Int} {dep:Nat} {rest r1 r2:ah} {L N:Nat} {l l':List PV}
theorem pI {c sub} {k:Nat} {m:Int} (h:Md sub s=some k) (e:m=k) {τ:ah}:aW c (.str (ra rp s)) lS [.str sub,.int rp.length] .str τ=some (.int (rp.length+m),τ):=by
 rw [e,← Int.natCast_add,← ID h]; rfl
theorem jP (h:Fit rp s) (i j:Nat) (hi:i≤1000000) (hj:j≤1000000) {τ:ah}:aS (.str (ra rp s)) (.int (rp.length+(i:Int))) (.int (rp.length+(j:Int))) τ=some (.str ((s.take j).drop i),τ):=by
 rw [nx,h.bdk i hi,h.bdk j hj]
 show guard (Nat.ble (ra rp s).length lim) (ret (PV.str (((ra rp s).take (rp.length+j)).drop (rp.length+i)))) τ=_
 rw [h.ble,oB,show rp.length=rp.reverse.length by simp,List.take_length_add_append,List.drop_length_add_append]; rfl
theorem jf {a b:Nat} {τ:ah}:aa (af L) (N+1) dS [.frz [rg a b]] τ=some (.bool (decide ((a:Int)=b)),τ):=by
 refine ar (m7 ..) ?_ ?_ <;> fail "go"
theorem Gv {c:Nat} {τ:ah}:aa (af L) (N+1) dS [.frz [kl c]] τ=some (.bool false,τ):=by
 refine ar (m7 ..) ?_ ?_ <;> fail "go"
theorem qo {M:Nat} {τ:ah}:aa (af (M+5)) (N+1) iI [.str [117,112,112,101,114]] τ=some (.frz [rg 65 90],τ):=by
 refine ar (tW ..) ?_ ?_ <;> fail "go"
theorem zt {M:Nat} (h:Fit rp (91::58::117::112::112::101::114::58::93::r)):aa (af (M+5)) (N+2) gU [.loc σ.length] (SP σ rp (91::58::117::112::112::101::114::58::93::r) tot dep rest)
 =some (.frz [rg 65 90],SP σ (93::58::114::101::112::112::117::58::91::rp) r tot dep rest):=by
 have h1:=fun τ=>pI (rp:=rp) (s:=91::58::117::112::112::101::114::58::93::r) (sub:=[58,93]) (k:=7) (m:=7) (c:=aa (af (M+5)) (N+1)) rfl rfl (τ:=τ)
 have h1:=h1 (SP σ rp (91::58::117::112::112::101::114::58::93::r) tot dep rest)
 have h2:aS (.str (ra rp (91::58::117::112::112::101::114::58::93::r))) (.int (rp.length+2)) (.int (rp.length+7)) (SP σ rp (91::58::117::112::112::101::114::58::93::r) tot dep rest)=some (.str [117,112,112,101,114],SP σ rp (91::58::117::112::112::101::114::58::93::r) tot dep rest):=jP h 2 7 (by decide) (by decide)
 have q:decide ((rp.length:Int)+7<0)=false:=decide_eq_false fun h=>by omega
 have h3:=qo (N:=N) (M:=M) (τ:=SP σ rp (91::58::117::112::112::101::114::58::93::r) tot dep rest)
 have h4:am (af (M+5)) (.loc σ.length) ba (.int (rp.length+7+2)) (SP σ rp (91::58::117::112::112::101::114::58::93::r) tot dep rest)=some ((),SP σ (93::58::114::101::112::112::117::58::91::rp) r tot dep rest):=m_ rfl
 refine ar (oF ..) ?_ ?_ <;> fail "go"
theorem yn {M:Nat} (h:Fit rp (91::58::117::112::112::101::114::58::93::r)):aa (af (M+5)) (N+5) dr [.loc σ.length] (SP σ rp (91::58::117::112::112::101::114::58::93::r) tot dep rest)
 =some (.frz [rg 65 90],SP σ (93::58::114::101::112::112::117::58::91::rp) r tot dep rest):=by
 have h1:=zt (σ:=σ) (tot:=tot) (dep:=dep) (rest:=rest) (M:=M) (N:=N+2) h
 refine ar (jX ..) ?_ ?_ <;> fail "go"
theorem wz (h:Fit rp (45::66::97::r)):aa (af L) (N+6) f7 [.loc σ.length,.frz [rg 65 65]] (SP σ rp (45::66::97::r) tot dep rest)=some (.frz [rg 65 66],SP σ (66::45::rp) (97::r) tot dep rest):=by
 have h1:=cF (σ:=σ) (tot:=tot) (dep:=dep) (rest:=rest) (L:=L) (N:=N) h.mv rfl rfl
 have h2:=jf (L:=L) (N:=N+4) (a:=66) (b:=66) (τ:=SP σ (66::45::rp) (97::r) tot dep rest)
 refine ar (pK ..) ?_ ?_ <;> fail "go"
noncomputable def mH (L N:Nat) (σ:ah) (fo bg neg:PV) (k:Nat) (first:Bool) (o o':Option PV) (M:Nat):ah→Option (PV × ah) :=
 bc (lT L N) (mh L N) (lL L N) M [(aK,some (.loc σ.length)),(fh,some fo),(bl,some bg),(bB,some neg),(eC,some (.loc k)),(gx,some (.bool first)),(b_,o),(jS,o')]
theorem lH {fo bg neg:PV} {k:Nat} {o o':Option PV} {M:Nat} (h:Fit rp (93::r)):mH L (N+1) σ fo bg neg k false o o' (M+1) (SP σ rp (93::r) tot dep rest)=some (.tup [.str [115,101,116],.loc k,neg,fo],SP σ (93::rp) r tot dep rest):=by
 refine ar (bp (cK ..) (cM ..) (cL ..)) ?_ ?_ <;> fail "go"
theorem MR {τ:ah}:Nat.ble (s.take 2).length lim=true:=aO (m:=2) (by rw [List.length_take]; exact Nat.min_le_left _ _) (by decide)
theorem H0 {τ:ah}:aS (.str (s.take 2)) .none (.int 1) τ=some (.str ((s.take 2).take 1),τ):=by
 show guard (Nat.ble (s.take 2).length lim) (ret (PV.str ((s.take 2).take 1))) τ=_
 rw [MR (τ:=τ)]; rfl
theorem eH {fo bg neg:PV} {first b1:Bool} {o o':Option PV} {M:Nat} {rp1 s1 X} (h:Fit rp s) (h1:Fit rp1 s1) (hT:first=true∨(!decide (s.take 1=[93]))=true) (hne:decide (s.take 1=[])=false)
  (hm:aa (af L) (N+5) dr [.loc σ.length] (SP σ rp s tot dep (r1++[.lst l]))=some (.frz l',SP σ rp1 s1 tot dep (r1++[.lst l])))
  (ho:aa (af L) (N+5) dS [.frz l'] (SP σ rp1 s1 tot dep (r1++[.lst l]))=some (.bool b1,SP σ rp1 s1 tot dep (r1++[.lst l])))
  (hr:b1=false∨decide ((s1.take 2).take 1=[45])=false∨(!decide (s1.take 2=[45,93]))=false) (hl:Nat.ble (l.length+l'.length) lim=true)
  (ih:mH L (N+5) σ fo bg neg (σ.length+1+r1.length) false (some (.frz l')) (some (.str (s1.take 2))) M (SP σ rp1 s1 tot dep (r1++[.lst (l++l')]))=some X) :
  mH L (N+5) σ fo bg neg (σ.length+1+r1.length) first o o' (M+1) (SP σ rp s tot dep (r1++[.lst l]))=some X:=by
 unfold mH at *
 have e1:=CH (σ:=σ) (rp:=rp1) (s:=s1) (tot:=tot) (dep:=dep) (r1:=r1) (r2:=[]) (L:=L) (l:=l)
 have e2:=Fi (σ:=σ) (rp:=rp1) (s:=s1) (tot:=tot) (dep:=dep) (r1:=r1) (r2:=[]) (c:=aa (af L) (N+5)) hl
 have e3:=H0 (s:=s1) (τ:=SP σ rp1 s1 tot dep (r1++[.lst l]))
 cases b1 with
 | false =>
  rcases hT with rfl | q
  ·refine ar (a:=X.1) (σ':=X.2) (bp (cK ..) (cM ..) (cL ..)) ?_ ?_ <;> fail "go"
  ·cases first <;> refine ar (a:=X.1) (σ':=X.2) (bp (cK ..) (cM ..) (cL ..)) ?_ ?_ <;> fail "go"
 | true =>
  cases q2:decide ((s1.take 2).take 1=[45]) with
  | false =>
   rcases hT with rfl | q
   ·refine ar (a:=X.1) (σ':=X.2) (bp (cK ..) (cM ..) (cL ..)) ?_ ?_ <;> fail "go"
   ·cases first <;> refine ar (a:=X.1) (σ':=X.2) (bp (cK ..) (cM ..) (cL ..)) ?_ ?_ <;> fail "go"
  | true =>
   have q3:(!decide (s1.take 2=[45,93]))=false:=(hr.resolve_left Bool.noConfusion).resolve_left fun h=>Bool.noConfusion (q2.symm.trans h)
   rcases hT with rfl | q
   ·refine ar (a:=X.1) (σ':=X.2) (bp (cK ..) (cM ..) (cL ..)) ?_ ?_ <;> fail "go"
   ·cases first <;> refine ar (a:=X.1) (σ':=X.2) (bp (cK ..) (cM ..) (cL ..)) ?_ ?_ <;> fail "go"
end
end
section
section
variable {σ:ah} {rp s r:List Nat} {tot:Int} {dep:Nat} {rest:ah} {L M N:Nat} {fi fm fs fo:Bool}
noncomputable def MB (k:Nat) (neg fo:Bool):PV:=.tup [.str [115,101,116],.loc k,.bool neg,.bool fo]
theorem set_plain {X} (h:Fit rp (91::s)) (e:decide (s.take 1=[94])=false) (ih:mH L (N+6) σ (.bool fo) (.int rp.length) (.bool false) (σ.length+1+rest.length) true none none L (SP σ (91::rp) s tot dep (rest++[.lst []]))=some X) :
  aa (af L) (N+7) gy [.loc σ.length,.bool fo] (SP σ rp (91::s) tot dep rest)=some X:=by
 unfold mH at ih
 have h1:=iT (σ:=σ) (tot:=tot) (dep:=dep) (rest:=rest) (L:=L) (N:=N+5) h.mv (w:=[94]) rfl e
 have h2:=wJ (σ:=σ) (rp:=91::rp) (s:=s) (tot:=tot) (dep:=dep) (rest:=rest) (c:=.lst [])
 refine ar (a:=X.1) (σ':=X.2) (rx ..) ?_ ?_ <;> fail "go"
theorem C4 {X} (h:Fit rp (91::94::s)) (ih:mH L (N+6) σ (.bool fo) (.int rp.length) (.bool true) (σ.length+1+rest.length) true none none L (SP σ (94::91::rp) s tot dep (rest++[.lst []]))=some X) :
  aa (af L) (N+7) gy [.loc σ.length,.bool fo] (SP σ rp (91::94::s) tot dep rest)=some X:=by
 unfold mH at ih
 have h1:aW (aa (af L) (N+6)) (.loc σ.length) a_ [.str [94]] (.fn (fk 55)) (SP σ (91::rp) (94::s) tot dep rest)=some (.bool true,SP σ (94::91::rp) s tot dep rest):=ln h.mv rfl rfl
 have h2:=wJ (σ:=σ) (rp:=94::91::rp) (s:=s) (tot:=tot) (dep:=dep) (rest:=rest) (c:=.lst [])
 refine ar (a:=X.1) (σ':=X.2) (rx ..) ?_ ?_ <;> fail "go"
noncomputable def BA (L N:Nat) (σ:ah) (rp s r:List Nat) (tot:Int) (dep:Nat) (rest:ah) (neg fo:Bool) (l:List PV):Prop :=
 aa (af L) (N+7) gy [.loc σ.length,.bool fo] (SP σ rp (s++r) tot dep rest)=some (MB (σ.length+1+rest.length) neg fo,SP σ (ra s rp) r tot dep (rest++[.lst l]))
theorem Kl (h:Fit rp (91::97::98::93::r)):BA (M+8) N σ rp [91,97,98,93] r tot dep rest false fo [rg 97 97,rg 98 98] :=
 set_plain h rfl (eH h.mv h.mv.mv (.inl rfl) rfl (cF h.mv rfl rfl) jf (.inr (.inl rfl)) rfl (eH h.mv.mv h.mv.mv.mv (.inr rfl) rfl (cF h.mv.mv rfl rfl) jf (.inr (.inl rfl)) rfl (lH h.mv.mv.mv)))
theorem Hy (h:Fit rp (91::94::97::66::93::r)):BA (M+8) N σ rp [91,94,97,66,93] r tot dep rest true fo [rg 97 97,rg 66 66] :=
 C4 h (eH h.mv.mv h.mv.mv.mv (.inl rfl) rfl (cF h.mv.mv rfl rfl) jf (.inr (.inl rfl)) rfl (eH h.mv.mv.mv h.mv.mv.mv.mv (.inr rfl) rfl (cF h.mv.mv.mv rfl rfl) jf (.inr (.inl rfl)) rfl (lH h.mv.mv.mv.mv)))
theorem L_ (h:Fit rp (91::92::100::95::45::93::r)):BA (M+8) N σ rp [91,92,100,95,45,93] r tot dep rest false fo [kl 100,rg 95 95,rg 45 45] :=
 set_plain h rfl (eH h.mv h.mv.mv.mv (.inl rfl) rfl (pG h.mv rfl) Gv (.inl rfl) rfl (eH h.mv.mv.mv h.mv.mv.mv.mv (.inr rfl) rfl (cF h.mv.mv.mv rfl rfl) jf (.inr (.inr rfl)) rfl
  (eH h.mv.mv.mv.mv h.mv.mv.mv.mv.mv (.inr rfl) rfl (cF h.mv.mv.mv.mv rfl rfl) jf (.inr (.inl rfl)) rfl (lH h.mv.mv.mv.mv.mv))))
theorem Ko (h:Fit rp (91::94::92::115::93::r)):BA (M+8) N σ rp [91,94,92,115,93] r tot dep rest true fo [kl 115] :=
 C4 h (eH h.mv.mv h.mv.mv.mv.mv (.inl rfl) rfl (pG h.mv.mv rfl) Gv (.inl rfl) rfl (lH h.mv.mv.mv.mv))
theorem KN (h:Fit rp (91::91::58::117::112::112::101::114::58::93::93::r)):BA (M+8) N σ rp [91,91,58,117,112,112,101,114,58,93,93] r tot dep rest false fo [rg 65 90] :=
 set_plain h rfl (eH h.mv (Fit.app (l:=[91,58,117,112,112,101,114,58,93]) h.mv) (.inl rfl) rfl (yn h.mv) jf (.inl rfl) rfl (lH (Fit.app (l:=[91,58,117,112,112,101,114,58,93]) h.mv)))
theorem Lq (h:Fit rp (91::93::98::93::r)):BA (M+8) N σ rp [91,93,98,93] r tot dep rest false fo [rg 93 93,rg 98 98] :=
 set_plain h rfl (eH h.mv h.mv.mv (.inl rfl) rfl (cF h.mv rfl rfl) jf (.inr (.inl rfl)) rfl (eH h.mv.mv h.mv.mv.mv (.inr rfl) rfl (cF h.mv.mv rfl rfl) jf (.inr (.inl rfl)) rfl (lH h.mv.mv.mv)))
theorem DS {bg:PV} {M:Nat} {X} (h:Fit rp (65::45::66::97::r)) (ih:mH L (N+6) σ (.bool fo) bg (.bool false) (σ.length+1+rest.length) false (some (.frz [rg 65 66])) (some (.str [45,66])) M (SP σ (66::45::65::rp) (97::r) tot dep (rest++[.lst [rg 65 66]]))=some X) :
  mH L (N+6) σ (.bool fo) bg (.bool false) (σ.length+1+rest.length) true none none (M+1) (SP σ rp (65::45::66::97::r) tot dep (rest++[.lst []]))=some X:=by
 unfold mH at *
 have hm:=cF (σ:=σ) (tot:=tot) (dep:=dep) (rest:=rest++[.lst []]) (L:=L) (N:=N+1) h rfl rfl
 have ho:=jf (L:=L) (N:=N+5) (a:=65) (b:=65) (τ:=SP σ (65::rp) (45::66::97::r) tot dep (rest++[.lst []]))
 have hr:=wz (σ:=σ) (tot:=tot) (dep:=dep) (rest:=rest++[.lst []]) (L:=L) (N:=N) h.mv
 have e1:=CH (σ:=σ) (rp:=66::45::65::rp) (s:=97::r) (tot:=tot) (dep:=dep) (r1:=rest) (r2:=[]) (L:=L) (l:=[])
 have e2:=Fi (σ:=σ) (rp:=66::45::65::rp) (s:=97::r) (tot:=tot) (dep:=dep) (r1:=rest) (r2:=[]) (c:=aa (af L) (N+6)) (l:=[]) (l':=[rg 65 66]) rfl
 refine ar (a:=X.1) (σ':=X.2) (bp (cK ..) (cM ..) (cL ..)) ?_ ?_ <;> fail "go"
theorem H5 (h:Fit rp (91::65::45::66::97::93::r)):BA (M+8) N σ rp [91,65,45,66,97,93] r tot dep rest false fo [rg 65 66,rg 97 97] :=
 set_plain h rfl (DS h.mv (eH h.mv.mv.mv.mv h.mv.mv.mv.mv.mv (.inr rfl) rfl (cF h.mv.mv.mv.mv rfl rfl) jf (.inr (.inl rfl)) rfl (lH h.mv.mv.mv.mv.mv)))
end
end
section
section
variable {σ:ah} {rp s r:List Nat} {tot:Int} {dep:Nat} {rest:ah} {L M N:Nat} {fi fm fs fo:Bool}
theorem A3 {c:Nat} (h:Fit rp (c::r)):aW (aa (af L) (N+1)) (.loc σ.length) dm [] (.fn (fk 54)) (SP σ rp (c::r) tot dep rest)=some (.str [c],SP σ rp (c::r) tot dep rest):=peek_ok h
local macro_rules | `(tactic| fail "act")=>`(tactic| first | (with_reducible refine A3 ?_; assumption) | fail "sp" | with_reducible exact has_i | with_reducible exact has_m | with_reducible exact has_s)
theorem sT {c:Nat} (h:Fit rp (c::r)) (h1:decide ([c]=[40])=false) (h2:decide ([c]=[91])=false) (h3:decide ([c]=[92])=false) (h4:∀ τ,aj .In (.str [c]) du τ=some (false,τ))
  (h5:decide ([c]=[123])=false) (h6:decide ([c]=[46])=false) (h7:decide ([c]=[94])=false) (h8:decide ([c]=[36])=false) :
  aa (af L) (N+10) bQ [.loc σ.length,.str (aX fi fm fs)] (SP σ rp (c::r) tot dep rest)=some (KZ c fi,SP σ (c::rp) r tot dep rest):=by
 have h4:=h4 (SP σ rp (c::r) tot dep rest)
 refine ar (ez ..) ?_ ?_ <;> fail "go"
noncomputable def JM (fs:Bool):PV:=.tup [.str [97,110,121],.bool fs]
theorem EU (h:Fit rp (46::r)):aa (af L) (N+10) bQ [.loc σ.length,.str (aX fi fm fs)] (SP σ rp (46::r) tot dep rest)=some (JM fs,SP σ (46::rp) r tot dep rest):=by
 refine ar (ez ..) ?_ ?_ <;> fail "go"
theorem eh {X} (h:Fit rp (92::r)) (he:aa (af L) (N+9) cV [.loc σ.length,.str (aX fi fm fs)] (SP σ rp (92::r) tot dep rest)=some X):aa (af L) (N+10) bQ [.loc σ.length,.str (aX fi fm fs)] (SP σ rp (92::r) tot dep rest)=some X:=by
 refine ar (a:=X.1) (σ':=X.2) (ez ..) ?_ ?_ <;> fail "go"
theorem jZ {X} (h:Fit rp (91::r)) (he:aa (af L) (N+9) gy [.loc σ.length,.bool fi] (SP σ rp (91::r) tot dep rest)=some X):aa (af L) (N+10) bQ [.loc σ.length,.str (aX fi fm fs)] (SP σ rp (91::r) tot dep rest)=some X:=by
 refine ar (a:=X.1) (σ':=X.2) (ez ..) ?_ ?_ <;> fail "go"
theorem Ii (h:Fit rp (94::r)):aa (af L) (N+10) bQ [.loc σ.length,.str (aX fi fm fs)] (SP σ rp (94::r) tot dep rest)=some (Mm (if fm=true then [94,109] else [65]),SP σ (94::rp) r tot dep rest):=by
 cases fm <;> refine ar (ez ..) ?_ ?_ <;> fail "go"
theorem IJ (h:Fit rp (36::r)):aa (af L) (N+10) bQ [.loc σ.length,.str (aX fi fm fs)] (SP σ rp (36::r) tot dep rest)=some (Mm (if fm=true then [36,109] else [90]),SP σ (36::rp) r tot dep rest):=by
 cases fm <;> refine ar (ez ..) ?_ ?_ <;> fail "go"
end
noncomputable def MS (t c:Nat) (fi fs:Bool) (k:Nat):PV:=([KZ c fi,JM fs,Np c,MB k false fi]:List PV).getD t (MB k true fi)
noncomputable def F_:List (Nat × Nat):=[(0,97),(0,98),(0,65),(1,0),(2,100),(2,119),(3,0),(0,10),(4,0),(3,0),(3,0),(2,115),(4,0),(0,97),(3,0),(0,65),(2,87),(0,49),(2,83)]
noncomputable def xt (i:Nat) (fi fs:Bool) (k:Nat):PV:=MS (F_.getD i (3,0)).1 (F_.getD i (3,0)).2 fi fs k
noncomputable def rq (i:Nat):List dl:=match i with
 | 6=>[.lst [rg 97 97,rg 98 98]] | 8=>[.lst [rg 97 97,rg 66 66]] | 9=>[.lst [rg 65 66,rg 97 97]] | 10=>[.lst [kl 100,rg 95 95,rg 45 45]] | 12=>[.lst [kl 115]] | 14=>[.lst [rg 65 90]] | 19=>[.lst [rg 93 93,rg 98 98]] | _=>[]
noncomputable def BN (i:Nat) (fm:Bool):List Nat:=match i with
 | 0=>if fm=true then [94,109] else [65]
 | 1=>if fm=true then [36,109] else [90]
 | 2=>[65] | 3=>[122] | 4=>[90] | 5=>[98] | _=>[66]
noncomputable def qP (i:Nat) (fm:Bool):PV:=Mm (BN i fm)
section
variable {σ:ah} {rp r:List Nat} {tot:Int} {dep:Nat} {rest:ah} {M N:Nat} {fi fm fs:Bool}
noncomputable def uj (L N:Nat) (σ:ah) (rp s r:List Nat) (tot:Int) (dep:Nat) (rest:ah) (fi fm fs:Bool) (v:PV) (τ:ah):Prop :=
 aa (af L) (N+10) bQ [.loc σ.length,.str (aX fi fm fs)] (SP σ rp (s++r) tot dep rest)=some (v,SP σ (ra s rp) r tot dep (rest++τ))
theorem uj.nil {L:Nat} {s v} (h:aa (af L) (N+10) bQ [.loc σ.length,.str (aX fi fm fs)] (SP σ rp (s++r) tot dep rest)=some (v,SP σ (ra s rp) r tot dep rest)):uj L N σ rp s r tot dep rest fi fm fs v []:=by
 unfold uj; rw [List.append_nil]; exact h
theorem FS (hL:100002≤M+8) (ht:tot≤100) (i:Nat) (hi:i<20):Fit rp ((gE i).sp++r)→uj (M+8) N σ rp (gE i).sp r tot dep rest fi fm fs (xt i fi fs (σ.length+1+rest.length)) (rq i) :=
 uu.get (n:=20) (P:=fun i=>Fit rp ((gE i).sp++r)→uj (M+8) N σ rp (gE i).sp r tot dep rest fi fm fs (xt i fi fs (σ.length+1+rest.length)) (rq i))
  ⟨⟨⟨⟨⟨⟨⟨⟨⟨⟨⟨⟨⟨⟨⟨⟨⟨⟨⟨⟨trivial,fun h=>.nil (sT h rfl rfl rfl (fun Z=>rfl) rfl rfl rfl rfl)⟩,fun h=>.nil (sT h rfl rfl rfl (fun Z=>rfl) rfl rfl rfl rfl)⟩,fun h=>.nil (sT h rfl rfl rfl (fun Z=>rfl) rfl rfl rfl rfl)⟩,fun h=>.nil (EU h)⟩,fun h=>.nil (eh h (lj rfl h))⟩,fun h=>.nil (eh h (lj rfl h))⟩,fun h=>jZ h (Kl h)⟩,fun h=>.nil (eh h (LA h))⟩,fun h=>jZ h (Hy h)⟩,fun h=>jZ h (H5 h)⟩,fun h=>jZ h (L_ h)⟩,fun h=>.nil (eh h (lj rfl h))⟩,fun h=>jZ h (Ko h)⟩,fun h=>.nil (eh h (LO hL h))⟩,fun h=>jZ h (KN h)⟩,fun h=>.nil (eh h (L7 hL ht h))⟩,fun h=>.nil (eh h (lj rfl h))⟩,fun h=>.nil (sT h rfl rfl rfl (fun Z=>rfl) rfl rfl rfl rfl)⟩,fun h=>.nil (eh h (lj rfl h))⟩,fun h=>jZ h (Lq h)⟩ hi
theorem B3 {L:Nat} (i:Nat) (hi:i<7):Fit rp (cQ i++r)→uj L N σ rp (cQ i) r tot dep rest fi fm fs (qP i fm) [] :=
 uu.get (n:=7) (P:=fun i=>Fit rp (cQ i++r)→uj L N σ rp (cQ i) r tot dep rest fi fm fs (qP i fm) [])
  ⟨⟨⟨⟨⟨⟨⟨trivial,fun h=>.nil (Ii h)⟩,fun h=>.nil (IJ h)⟩,fun h=>.nil (eh h (li rfl rfl h))⟩,fun h=>.nil (eh h (li rfl rfl h))⟩,fun h=>.nil (eh h (li rfl rfl h))⟩,fun h=>.nil (eh h (li rfl rfl h))⟩,fun h=>.nil (eh h (li rfl rfl h))⟩ hi
end
end
section
noncomputable def I9 (b:List Nat):Bool:=Nat.ble b.length lim && Nat.ble (partsBetween (one b) (occurrences (one b) (one [44]) 0 b.length (b.length+1)) 1).length lim
theorem pS {c:PV→List PV→M PV} {b:List Nat} {xs:List (List Nat)} (h:I9 b=true) (e:Txt.split (one b) (one [44])=xs.map one) {τ:ah}:aW c (.str b) lM [.str [44]] .str τ=some (.frz (xs.map .str),τ):=by
 show guard (I9 b) (ret (PV.frz ((Txt.split (one b) (one [44])).map fun x=>.str (cs x)))) τ=_
 rw [h,e,List.map_map]; rfl
theorem p9 {c:PV→List PV→M PV} {sep:List Nat} {xs:List (List Nat)} (h:(xs.map List.length).sum+xs.length*sep.length≤1000000) {τ:ah}:aW c (.str sep) d9 [.frz (xs.map .str)] .str τ=some (.str (jn sep xs),τ):=mK sep xs h
section
variable {M N:Nat} {rp r:List Nat} {τ:ah}
theorem Dp (hL:100002≤M+8) {c:Nat} {n:Int} (h:([c].all fun c=>Nat.ble 48 c && Nat.ble c 57)=true) (e:xR 10 0 [c]=n):aa (af (M+8)) (N+4) bL [.str [c],.int 10] τ=some (.int n,τ):=xF hL (by decide) (by decide) rfl h e
theorem Mi {k:Nat}:decide ((0:Int)≤(rp.length:Int)+(k:Int))=true:=decide_eq_true (by omega)
theorem Gi (hL:100002≤M+8) (h:Fit rp (123::50::125::r)):aa (af (M+8)) (N+5) cD [.str (ra rp (123::50::125::r)),.int rp.length] τ=some (.tup [.int 2,.int 2,.int (rp.length+2+1)],τ):=by
 have h1:=pI (c:=aa (af (M+8)) (N+4)) (rp:=rp) (s:=123::50::125::r) (sub:=[125]) (m:=2) rfl rfl (τ:=τ)
 have q:decide ((0:Int)≤(rp.length:Int)+2)=true:=Mi (k:=2)
 have h2:aS (.str (ra rp (123::50::125::r))) (.int (rp.length+1)) (.int (rp.length+2)) τ=some (.str [50],τ):=jP h 1 2 (by decide) (by decide)
 have h3:aW (aa (af (M+8)) (N+4)) (.str [50]) lM [.str [44]] .str τ=some (.frz [.str [50]],τ):=pS (xs:=[[50]]) (by decide +kernel) (by decide +kernel)
 have h4:aW (aa (af (M+8)) (N+4)) (.str []) d9 [.frz [.str [50]]] .str τ=some (.str [50],τ):=p9 (xs:=[[50]]) (by decide)
 have h5:=Dp (N:=N) (τ:=τ) hL (c:=50) (n:=2) rfl rfl
 refine ar (gr ..) ?_ ?_ <;> fail "go"
theorem Ej (hL:100002≤M+8) (h:Fit rp (123::49::44::50::125::r)):aa (af (M+8)) (N+5) cD [.str (ra rp (123::49::44::50::125::r)),.int rp.length] τ=some (.tup [.int 1,.int 2,.int (rp.length+4+1)],τ):=by
 have h1:=pI (c:=aa (af (M+8)) (N+4)) (rp:=rp) (s:=123::49::44::50::125::r) (sub:=[125]) (m:=4) rfl rfl (τ:=τ)
 have q:decide ((0:Int)≤(rp.length:Int)+4)=true:=Mi (k:=4)
 have h2:aS (.str (ra rp (123::49::44::50::125::r))) (.int (rp.length+1)) (.int (rp.length+4)) τ=some (.str [49,44,50],τ):=jP h 1 4 (by decide) (by decide)
 have h3:aW (aa (af (M+8)) (N+4)) (.str [49,44,50]) lM [.str [44]] .str τ=some (.frz [.str [49],.str [50]],τ):=pS (xs:=[[49],[50]]) (by decide +kernel) (by decide +kernel)
 have h4:aW (aa (af (M+8)) (N+4)) (.str []) d9 [.frz [.str [49],.str [50]]] .str τ=some (.str [49,50],τ):=p9 (xs:=[[49],[50]]) (by decide)
 have h5:=Dp (N:=N) (τ:=τ) hL (c:=49) (n:=1) rfl rfl
 have h6:=Dp (N:=N) (τ:=τ) hL (c:=50) (n:=2) rfl rfl
 refine ar (gr ..) ?_ ?_ <;> fail "go"
theorem EH (hL:100002≤M+8) (h:Fit rp (123::48::44::50::125::r)):aa (af (M+8)) (N+5) cD [.str (ra rp (123::48::44::50::125::r)),.int rp.length] τ=some (.tup [.int 0,.int 2,.int (rp.length+4+1)],τ):=by
 have h1:=pI (c:=aa (af (M+8)) (N+4)) (rp:=rp) (s:=123::48::44::50::125::r) (sub:=[125]) (m:=4) rfl rfl (τ:=τ)
 have q:decide ((0:Int)≤(rp.length:Int)+4)=true:=Mi (k:=4)
 have h2:aS (.str (ra rp (123::48::44::50::125::r))) (.int (rp.length+1)) (.int (rp.length+4)) τ=some (.str [48,44,50],τ):=jP h 1 4 (by decide) (by decide)
 have h3:aW (aa (af (M+8)) (N+4)) (.str [48,44,50]) lM [.str [44]] .str τ=some (.frz [.str [48],.str [50]],τ):=pS (xs:=[[48],[50]]) (by decide +kernel) (by decide +kernel)
 have h4:aW (aa (af (M+8)) (N+4)) (.str []) d9 [.frz [.str [48],.str [50]]] .str τ=some (.str [48,50],τ):=p9 (xs:=[[48],[50]]) (by decide)
 have h5:=Dp (N:=N) (τ:=τ) hL (c:=48) (n:=0) rfl rfl
 have h6:=Dp (N:=N) (τ:=τ) hL (c:=50) (n:=2) rfl rfl
 refine ar (gr ..) ?_ ?_ <;> fail "go"
theorem FQ (hL:100002≤M+8) (h:Fit rp (123::49::44::125::r)):aa (af (M+8)) (N+5) cD [.str (ra rp (123::49::44::125::r)),.int rp.length] τ=some (.tup [.int 1,.int (-1),.int (rp.length+3+1)],τ):=by
 have h1:=pI (c:=aa (af (M+8)) (N+4)) (rp:=rp) (s:=123::49::44::125::r) (sub:=[125]) (m:=3) rfl rfl (τ:=τ)
 have q:decide ((0:Int)≤(rp.length:Int)+3)=true:=Mi (k:=3)
 have h2:aS (.str (ra rp (123::49::44::125::r))) (.int (rp.length+1)) (.int (rp.length+3)) τ=some (.str [49,44],τ):=jP h 1 3 (by decide) (by decide)
 have h3:aW (aa (af (M+8)) (N+4)) (.str [49,44]) lM [.str [44]] .str τ=some (.frz [.str [49],.str []],τ):=pS (xs:=[[49],[]]) (by decide +kernel) (by decide +kernel)
 have h4:aW (aa (af (M+8)) (N+4)) (.str []) d9 [.frz [.str [49],.str []]] .str τ=some (.str [49],τ):=p9 (xs:=[[49],[]]) (by decide)
 have h5:=Dp (N:=N) (τ:=τ) hL (c:=49) (n:=1) rfl rfl
 refine ar (gr ..) ?_ ?_ <;> fail "go"
end
noncomputable def Ll (c:Nat):PV:=.tup [.int (au c).least,.int (au c).most]
section
variable {σ:ah} {rp r s:List Nat} {tot:Int} {dep:Nat} {rest:ah} {L M N:Nat}
noncomputable def Cn (L N:Nat) (σ:ah) (rp s r:List Nat) (tot:Int) (dep:Nat) (rest:ah) (v:PV):Prop :=
 aa (af L) (N+6) eB [.loc σ.length] (SP σ rp (s++r) tot dep rest)=some (v,SP σ (ra s rp) r tot dep rest)
theorem rh {c:Nat} {v:PV} (h:Fit rp (c::r)) (h1:∀ τ,aj .In (.str [c]) du τ=some (true,τ)) (h2:∀ τ,ao du (.str [c]) τ=some (v,τ)):Cn L N σ rp [c] r tot dep rest v:=by
 have h1:=h1 (SP σ rp (c::r) tot dep rest)
 have h2:=h2 (SP σ (c::rp) r tot dep rest)
 have hp:=A3 (σ:=σ) (tot:=tot) (dep:=dep) (rest:=rest) (L:=L) (N:=N+4) h
 refine ar (gk ..) ?_ ?_ <;> fail "go"
theorem H7 {w:List Nat} {k:Int} (e:k=w.length):am (af L) (.loc σ.length) ba (.int (rp.length+k)) (SP σ rp (w++s) tot dep rest)=some ((),SP σ (ra w rp) s tot dep rest):=e ▸ G5
theorem mf {w:List Nat} {a b:Int} {k:Int} (h:Fit rp (123::(w++r))) (hb:aa (af L) (N+5) cD [.str (ra rp (123::(w++r))),.int rp.length] (SP σ rp (123::(w++r)) tot dep rest)=some (.tup [.int a,.int b,.int (rp.length+k+1)],SP σ rp (123::(w++r)) tot dep rest))
  (e:k=w.length) (q1:decide ((32766:Int)<(if a<b then b else a))=false) (q2:decide ((0:Int)≤b)=true→decide (b<a)=false):Cn L N σ rp (123::w) r tot dep rest (.tup [.int a,.int b]):=by
 have hm:am (af L) (.loc σ.length) ba (.int (rp.length+k+1)) (SP σ rp (123::(w++r)) tot dep rest)=some ((),SP σ (ra (123::w) rp) r tot dep rest):=by
  rw [Int.add_assoc]; exact H7 (w:=123::w) (by rw [e]; rfl)
 show aa (af L) (N+6) eB [.loc σ.length] (SP σ rp (123::(w++r)) tot dep rest)=_
 cases q3:decide ((0:Int)≤b) with
 | false=>refine ar (gk ..) ?_ ?_ <;> fail "go"
 | true =>
  have q2:=q2 q3
  refine ar (gk ..) ?_ ?_ <;> fail "go"
theorem Eo (hL:100002≤M+8):∀ c,c<7→Fit rp ((au c).mark++r)→Cn (M+8) N σ rp (au c).mark r tot dep rest (Ll c)
 | 0,_,h=>rh h (fun Z=>rfl) fun Z=>rfl
 | 1,_,h=>rh h (fun Z=>rfl) fun Z=>rfl
 | 2,_,h=>rh h (fun Z=>rfl) fun Z=>rfl
 | 3,_,h=>mf (w:=[50,125]) h (Gi hL h) rfl rfl fun Z=>rfl
 | 4,_,h=>mf (w:=[49,44,50,125]) h (Ej hL h) rfl rfl fun Z=>rfl
 | 5,_,h=>mf (w:=[48,44,50,125]) h (EH hL h) rfl rfl fun Z=>rfl
 | 6,_,h=>mf (w:=[49,44,125]) h (FQ hL h) rfl rfl fun h=>absurd h (by decide)
 | i+7,hi,_=>absurd hi (Nat.not_lt.mpr (Nat.le_add_left 7 i))
noncomputable def Jj (r:List Nat):Prop:=∀ c r',r=c::r'→(∀ τ,aj .In (.str [c]) du τ=some (false,τ))∧decide ([c]=[123])=false∧decide ([c]=[63])=false∧decide ([c]=[43])=false
theorem vU (h:Fit rp r) (hn:Jj r):aa (af L) (N+6) eB [.loc σ.length] (SP σ rp r tot dep rest)=some (.none,SP σ rp r tot dep rest):=by
 cases r with
 | nil=>refine ar (gk ..) ?_ ?_ <;> fail "go"
 | cons c r =>
  have hp:=A3 (σ:=σ) (tot:=tot) (dep:=dep) (rest:=rest) (L:=L) (N:=N+4) h
  have h1:=(hn c r rfl).1 (SP σ rp (c::r) tot dep rest)
  have h2:=(hn c r rfl).2.1
  refine ar (gk ..) ?_ ?_ <;> fail "go"
end
end
section
section
variable {σ:ah} {rp r s:List Nat} {tot:Int} {dep:Nat} {rest:ah} {L M N:Nat} {fi fm fs:Bool}
theorem nO (h:Fit rp s) (e:decide (s.take 3=[40,63,35])=false):aa (af L) (N+2) eP [.loc σ.length,.str (aX fi fm fs)] (SP σ rp s tot dep rest)=some (.bool false,SP σ rp s tot dep rest):=by
 have hx:=Mv (fi:=fi) (fm:=fm) (fs:=fs) (τ:=SP σ rp s tot dep rest)
 refine ar (uy ..) ?_ ?_ <;> fail "go"
noncomputable def wn (i m s:Bool):List PV:=(aX i m s).map fun c=>.str [c]
theorem tL {τ:ah}:hM (wn fi fm fs) τ=some (.frz (wn fi fm fs),τ):=by cases fi <;> cases fm <;> cases fs <;> rfl
theorem q9 {c:PV→List PV→Mine.M PV} {τ:ah}:aW c (.str []) d9 [.frz (wn fi fm fs)] .str τ=some (.str (aX fi fm fs),τ):=by
 have h:=p9 (c:=c) (sep:=[]) (xs:=(aX fi fm fs).map fun c=>[c]) (τ:=τ) (by cases fi <;> cases fm <;> cases fs <;> decide)
 rw [List.map_map] at h
 refine h.trans ?_
 cases fi <;> cases fm <;> cases fs <;> rfl
theorem th (hL:100002≤M+8) (h:Fit rp (58::r)):aa (af (M+8)) (N+2) g8 [.loc σ.length,.str (aX fi fm fs)] (SP σ rp (58::r) tot dep rest)=some (.str (aX fi fm fs),SP σ rp (58::r) tot dep rest):=by
 have h1:aa (af (M+8)) (N+1) em [.loc σ.length,cY,.int (-1)] (SP σ rp (58::r) tot dep rest)=some (.str [],SP σ rp (58::r) tot dep rest) :=
  rb (σ:=σ) (tot:=tot) (dep:=dep) (rest:=rest) (N:=N) (signs:=[105,109,115,120]) (most:=-1) hL [] rp h (fun _ h=>nomatch h) (fun _ h=>nomatch h) (.inl fun c r' e=>(List.cons.inj e).1 ▸ rfl)
 have hc:compLoop (fun w8=>Tx.run ((.bnd (.bnd (.bnd (.bnd (.b (aj .In w8 (.str (aX fi fm fs)))) fun t13=>.br t13 (.ret true) (.bnd (.b (aj .In w8 (.str []))) fun t14=>.br t14 (.ret true) (.ret false))) fun t12=>.br t12 (.bnd (.b (aj .NotIn w8 (.str []))) fun t15=>.br t15 (.ret true) (.ret false)) (.ret false)) fun t11=>.br t11 (.ret true) (.ret false)) fun c10=>.br c10 (.ret (some w8)) (.ret none))))
   (M+8) (.items [.str [105],.str [109],.str [115],.str [120]]) (SP σ rp (58::r) tot dep rest)=some (wn fi fm fs,SP σ rp (58::r) tot dep rest):=by cases fi <;> cases fm <;> cases fs <;> rfl
 have hi:ce cY (SP σ rp (58::r) tot dep rest)=some (.items [.str [105],.str [109],.str [115],.str [120]],SP σ rp (58::r) tot dep rest):=rfl
 have hf:=tL (fi:=fi) (fm:=fm) (fs:=fs) (τ:=SP σ rp (58::r) tot dep rest)
 have hj:=q9 (fi:=fi) (fm:=fm) (fs:=fs) (c:=aa (af (M+8)) (N+1)) (τ:=SP σ rp (58::r) tot dep rest)
 refine ar (uV ..) ?_ ?_ <;> fail "go"
theorem Eg (h:Fit rp s) (e:decide (s.take 2=[40,63])=false):aa (af L) (N+3) eQ [.loc σ.length,.str (aX fi fm fs)] (SP σ rp s tot dep rest)=some (.none,SP σ rp s tot dep rest):=by
 refine ar (mG ..) ?_ ?_ <;> fail "go"
theorem xQ (hL:100002≤M+8) (h:Fit rp (40::63::58::r)):aa (af (M+8)) (N+3) eQ [.loc σ.length,.str (aX fi fm fs)] (SP σ rp (40::63::58::r) tot dep rest)=some (.none,SP σ rp (40::63::58::r) tot dep rest):=by
 have h1:=th (σ:=σ) (rp:=ra [40,63] rp) (tot:=tot) (dep:=dep) (rest:=rest) (N:=N) (fi:=fi) (fm:=fm) (fs:=fs) hL h.mv.mv
 have q:decide ((rp.length:Int)+2<((ra [40,63] rp).length:Nat))=false:=decide_eq_false (by rw [m9]; simp; omega)
 have h2:am (af (M+8)) (.loc σ.length) ba (.int rp.length) (SP σ (ra [40,63] rp) (58::r) tot dep rest)=some ((),SP σ rp (40::63::58::r) tot dep rest):=m_ rfl
 refine ar (mG ..) ?_ ?_ <;> fail "go"
noncomputable def oT (r:List Nat):Prop:=Jj r∧decide (r.take 3=[40,63,35])=false
theorem yp {v:PV} (h:Fit rp r) (hs:oT r):aa (af (M+8)) (N+7) ec [.loc σ.length,.str (aX fi fm fs),v] (SP σ rp r tot dep rest)=some (v,SP σ rp r tot dep rest):=by
 have h1:=nO (σ:=σ) (tot:=tot) (dep:=dep) (rest:=rest) (L:=M+8) (N:=N+4) (fi:=fi) (fm:=fm) (fs:=fs) h hs.2
 have h2:=vU (σ:=σ) (tot:=tot) (dep:=dep) (rest:=rest) (L:=M+8) (N:=N) h hs.1
 have h3:bc (fT (M+8) (N+6)) (fX (M+8) (N+6)) (f0 (M+8) (N+6)) (M+8) [(aK,some (.loc σ.length)),(aw,some (.str (aX fi fm fs))),(aJ,some v),(eE,none),(gz,none),(bl,none)] (SP σ rp r tot dep rest)=some (v,SP σ rp r tot dep rest):=by
  refine ar (bp (jq ..) (jp ..) (jm ..)) ?_ ?_ <;> fail "go"
 refine ar (mm ..) ?_ ?_ <;> fail "go"
noncomputable def tp (v:PV) (c:Nat):PV:=.tup [.str [114,101,112],v,.int (au c).least,.int (au c).most,.str [103,114,101,101,100,121]]
theorem xA (hL:100002≤M+8) {v:PV} {c:Nat} (hc:c<7) (h:Fit rp ((au c).mark++r)) (hs:oT r) (e:decide (((au c).mark++r).take 3=[40,63,35])=false) :
  aa (af (M+8)) (N+7) ec [.loc σ.length,.str (aX fi fm fs),v] (SP σ rp ((au c).mark++r) tot dep rest)=some (tp v c,SP σ (ra (au c).mark rp) r tot dep rest):=by
 have hf:=h.app
 have h1:=nO (σ:=σ) (tot:=tot) (dep:=dep) (rest:=rest) (L:=M+8) (N:=N+4) (fi:=fi) (fm:=fm) (fs:=fs) h e
 have h2:=Eo (σ:=σ) (rp:=rp) (r:=r) (tot:=tot) (dep:=dep) (rest:=rest) (N:=N) hL c hc h
 unfold Cn Ll at h2
 have h4:=nO (σ:=σ) (tot:=tot) (dep:=dep) (rest:=rest) (L:=M+8) (N:=N+4) (fi:=fi) (fm:=fm) (fs:=fs) hf hs.2
 have h5:=vU (σ:=σ) (tot:=tot) (dep:=dep) (rest:=rest) (L:=M+8) (N:=N) hf hs.1
 have n1:=iT (σ:=σ) (tot:=tot) (dep:=dep) (rest:=rest) (L:=M+8) (N:=N+5) hf (w:=[63]) rfl (by cases r with | nil=>rfl | cons c r=>exact (hs.1 c r rfl).2.2.1)
 have n2:=iT (σ:=σ) (tot:=tot) (dep:=dep) (rest:=rest) (L:=M+8) (N:=N+5) hf (w:=[43]) rfl (by cases r with | nil=>rfl | cons c r=>exact (hs.1 c r rfl).2.2.2)
 have h6:bc (ef (M+8) (N+6)) (ed (M+8) (N+6)) (eg (M+8) (N+6)) (M+8) [(aK,some (.loc σ.length)),(aw,some (.str (aX fi fm fs))),(aJ,some v),(eE,some (.tup [.int (au c).least,.int (au c).most])),(gz,some (.str [103,114,101,101,100,121])),(bl,none)] (SP σ (ra (au c).mark rp) r tot dep rest)
  =some (tp v c,SP σ (ra (au c).mark rp) r tot dep rest):=by
  refine ar (bp (n6 ..) (oe ..) (n0 ..)) ?_ ?_ <;> fail "go"
 have h3:bc (fT (M+8) (N+6)) (fX (M+8) (N+6)) (f0 (M+8) (N+6)) (M+8) [(aK,some (.loc σ.length)),(aw,some (.str (aX fi fm fs))),(aJ,some v),(eE,none),(gz,none),(bl,none)] (SP σ rp ((au c).mark++r) tot dep rest)
  =some (tp v c,SP σ (ra (au c).mark rp) r tot dep rest):=by
  refine ar (bp (jq ..) (jp ..) (jm ..)) ?_ ?_ <;> fail "go"
 refine ar (mm ..) ?_ ?_ <;> fail "go"
end
end
section
noncomputable def mu (k:Nat):PV:=.tup [.str [115,101,113],.loc k]
noncomputable def Mh (k:Nat):PV:=.tup [.str [97,108,116],.loc k]
noncomputable def u4 (b:Nat) (τ:ah) (k:Nat) (l:List PV):Prop:=∃ a c,τ=a++.lst l::c∧k=b+a.length
theorem u4.left {b τ k l} (τ2:ah):u4 b τ k l→u4 b (τ++τ2) k l
 | ⟨a,c,e,h⟩=>⟨a,c++τ2,by rw [e,List.append_assoc]; rfl,h⟩
theorem u4.right {b τ2 k l} (τ:ah):u4 (b+τ.length) τ2 k l→u4 b (τ++τ2) k l
 | ⟨a,c,e,h⟩=>⟨τ++a,c,by rw [e,List.append_assoc],by rw [h,List.length_append,Nat.add_assoc]⟩
theorem u4.here {b l c}:u4 b (.lst l::c) b l:=⟨[],c,rfl,rfl⟩
noncomputable def PI (fi fm fs:Bool) (b:Nat) (τ:ah):Nd→List PV→Prop
 | .one i,vs=>∃ k,vs=[xt i fi fs k]∧∀ l,rq i=[.lst l]→u4 b τ k l
 | .place i,vs=>vs=[qP i fm]
 | .row l,vs=>PI fi fm fs b τ l vs
 | .branches x y,vs=>∃ k kx ky vx vy,vs=[Mh k]∧u4 b τ k [mu kx,mu ky]∧u4 b τ kx vx∧u4 b τ ky vy∧PI fi fm fs b τ x vx∧PI fi fm fs b τ y vy
 | .rounds n c,vs=>∃ v,vs=[tp v c]∧if eV n=true then PI fi fm fs b τ n [v] else ∃ k w,v=mu k∧u4 b τ k w∧PI fi fm fs b τ n w
 | .nil,vs=>vs=[]
 | .cons h t,vs=>∃ x y,vs=x++y∧PI fi fm fs b τ h x∧PI fi fm fs b τ t y
theorem PI.map {fi fm fs:Bool} {b b':Nat} {τ τ':ah} (hh:∀ k l,u4 b τ k l→u4 b' τ' k l) {n:Nd}:∀ {vs:List PV},PI fi fm fs b τ n vs→PI fi fm fs b' τ' n vs:=by
 induction n with
 | one _=>exact fun h=>h.imp fun k h=>⟨h.1,fun l hl=>hh _ _ (h.2 l hl)⟩
 | place _=>exact fun h=>h
 | row l ih=>exact ih
 | branches x y hx hy=>exact fun h=>h.imp fun k h=>h.imp fun kx h=>h.imp fun ky h=>h.imp fun vx h=>h.imp fun vy h=>⟨h.1,hh _ _ h.2.1,hh _ _ h.2.2.1,hh _ _ h.2.2.2.1,hx h.2.2.2.2.1,hy h.2.2.2.2.2⟩
 | rounds n _ ih=>exact fun h=>h.imp fun v h=>⟨h.1,HY ih (fun h=>h.imp fun k h=>h.imp fun w h=>⟨h.1,hh _ _ h.2.1,ih h.2.2⟩) h.2⟩
 | nil=>exact fun h=>h
 | cons x y hx hy=>exact fun h=>h.imp fun a h=>h.imp fun c h=>⟨h.1,hx h.2.1,hy h.2.2⟩
theorem PI.left {fi fm fs b τ n vs} (τ2:ah) (h:PI fi fm fs b τ n vs):PI fi fm fs b (τ++τ2) n vs:=h.map fun _ _ h=>h.left τ2
theorem PI.right {fi fm fs b τ2 n vs} (τ:ah) (h:PI fi fm fs (b+τ.length) τ2 n vs):PI fi fm fs b (τ++τ2) n vs:=h.map fun _ _ h=>h.right τ
noncomputable def oC (s:List Nat):Prop:=(∀ τ,aj .NotIn (.str (s.take 1)) (.tup [.str [],.str [124],.str [41]]) τ=some (true,τ))∧oT s∧(decide (s.take 2=[40,63])=false∨∃ s',s=40::63::58::s')
noncomputable def LQ (c:Nat):Bool:=!([40,41,124,42,43,63,123]:List Nat).contains c
theorem wN {a c:Nat} (h:c≠a):([c] == [a])=false:=by simp [h]
theorem Bf {c:Nat} {s:List Nat} (h:LQ c=true):oC (c::s):=by
 have h:c≠40∧c≠41∧c≠124∧c≠42∧c≠43∧c≠63∧c≠123:=by simpa [LQ] using h
 have e:∀ {a:Nat},c≠a→decide ([c]=[a])=false:=fun h=>decide_eq_false fun e=>h (List.cons.inj e).1
 have e':∀ {a:Nat},c≠a→decide ([a]=[c])=false:=fun h=>decide_eq_false fun e=>h (List.cons.inj e).1.symm
 have e3:∀ {l m:List Nat},decide (c::l=40::m)=false:=fun {l m}=>decide_eq_false fun e=>h.1 (List.cons.inj e).1
 refine ⟨fun τ=>?_,⟨fun c' r' e2=>?_,e3⟩,.inl e3⟩
 ·show some (!(decide ([]=[c]) || (decide ([124]=[c]) || (decide ([41]=[c]) || false))),τ)=_
  rw [e' h.2.2.1,e' h.2.1]; rfl
 ·cases e2
  refine ⟨fun τ=>?_,e h.2.2.2.2.2.2,e h.2.2.2.2.2.1,e h.2.2.2.2.1⟩
  show some ((List.lookup [c] ([([42],_),([43],_),([63],_)]:List (List Nat × PV))).isSome,τ)=_
  rw [List.lookup,wN h.2.2.2.1]
  simp only
  rw [List.lookup,wN h.2.2.2.2.1]
  simp only
  rw [List.lookup,wN h.2.2.2.2.2.1]; rfl
theorem nn {s:List Nat}:oC (40::63::58::s):=⟨fun Z=>rfl,⟨fun _ _ e=>by cases e; exact ⟨fun Z=>rfl,rfl,rfl,rfl⟩,rfl⟩,.inr ⟨s,rfl⟩⟩
theorem DV:∀ i,i<20→((gE i).sp.head?.any LQ)=true:=by decide
theorem yT:∀ i,i<7→((cQ i).head?.any LQ)=true:=by decide
theorem vL:∀ {l:List Nat} (s:List Nat),(l.head?.any LQ)=true→oC (l++s)
 | _::_,_,h=>Bf h
section
variable {σ:ah} {tot:Int} {dep:Nat} {L M N K:Nat} {fi fm fs:Bool} {rp s rp1 s1 rp2 s2:List Nat} {r1 r2 r3:ah} {acc:List PV} {v w:PV} {o:Option PV}
noncomputable def u9 (L N:Nat) (σ:ah) (fl:PV) (k:Nat) (o:Option PV) (K:Nat):ah→Option (PV × ah) :=
 bc (jd L N) (ja L N) (jh L N) K [(aK,some (.loc σ.length)),(aw,some fl),(kB,some (.loc k)),(cr,o)]
theorem turn (hL:100002≤M+8) (h:Fit rp s) (hF:oC s) (hl:Nat.ble acc.length lim=true)
  (hA:aa (af (M+8)) (N+7) bQ [.loc σ.length,.str (aX fi fm fs)] (SP σ rp s tot dep (r1++.lst acc::r2))=some (v,SP σ rp1 s1 tot dep (r1++.lst acc::r3)))
  (hC:aa (af (M+8)) (N+7) ec [.loc σ.length,.str (aX fi fm fs),v] (SP σ rp1 s1 tot dep (r1++.lst acc::r3))=some (w,SP σ rp2 s2 tot dep (r1++.lst acc::r3))) :
  u9 (M+8) (N+7) σ (.str (aX fi fm fs)) (σ.length+1+r1.length) o (K+1) (SP σ rp s tot dep (r1++.lst acc::r2))=u9 (M+8) (N+7) σ (.str (aX fi fm fs)) (σ.length+1+r1.length) (some .none) K (SP σ rp2 s2 tot dep (r1++.lst (acc++[w])::r3)):=by
 have h1:=nO (σ:=σ) (tot:=tot) (dep:=dep) (rest:=r1++.lst acc::r2) (L:=M+8) (N:=N+5) (fi:=fi) (fm:=fm) (fs:=fs) h hF.2.1.2
 have h2:aa (af (M+8)) (N+7) eQ [.loc σ.length,.str (aX fi fm fs)] (SP σ rp s tot dep (r1++.lst acc::r2))=some (.none,SP σ rp s tot dep (r1++.lst acc::r2)):=by
  rcases hF.2.2 with e | ⟨s',rfl⟩
  ·exact Eg h e
  ·exact xQ hL h
 have hT:=hF.1 (SP σ rp s tot dep (r1++.lst acc::r2))
 have e1:=xC (σ:=σ) (rp:=rp) (s:=s) (tot:=tot) (dep:=dep) (r1:=r1) (r2:=r2) (L:=M+8) (l:=acc)
 have e2:=AV (σ:=σ) (rp:=rp2) (s:=s2) (tot:=tot) (dep:=dep) (r1:=r1) (r2:=r3) (c:=aa (af (M+8)) (N+7)) (v:=w) hl
 unfold u9
 refine ig (u:=.v) (bp (ka ..) (jJ ..) (kg ..)) ?_ ?_ <;> fail "go"
theorem J4 (h:Fit rp s) (hT:aj .NotIn (.str (s.take 1)) (.tup [.str [],.str [124],.str [41]]) (SP σ rp s tot dep r1)=some (false,SP σ rp s tot dep r1)) {k:Nat} :
  u9 L (N+1) σ (.str (aX fi fm fs)) k o (K+1) (SP σ rp s tot dep r1)=some (.tup [mu k,.str (aX fi fm fs)],SP σ rp s tot dep r1):=by
 unfold u9
 refine ar (bp (ka ..) (jJ ..) (kg ..)) ?_ ?_ <;> fail "go"
theorem Kx {X} (ih:u9 L N σ (.str (aX fi fm fs)) (σ.length+1+r1.length) none L (SP σ rp s tot dep (r1++[.lst []]))=some X) :
  aa (af L) (N+1) dW [.loc σ.length,.str (aX fi fm fs)] (SP σ rp s tot dep r1)=some X:=by
 unfold u9 at ih
 have e:=wJ (σ:=σ) (rp:=rp) (s:=s) (tot:=tot) (dep:=dep) (rest:=r1) (c:=.lst [])
 refine ar (a:=X.1) (σ':=X.2) (uG ..) ?_ ?_ <;> fail "go"
end
end
section
section
variable {σ:ah} {tot:Int} {dep:Nat} {L M N K:Nat} {fi fm fs:Bool} {rp s r s1 s2 rp1 rp2:List Nat} {rest r1:ah} {o1 o2 o3 o4:Option PV} {fl bg a b:PV} {it:List PV} {w:List Nat}
@[reducible] noncomputable def Jm (σ:ah) (fl bg:PV) (o1 o2 o3 o4:Option PV):cP:=[(aK,some (.loc σ.length)),(aw,some fl),(bl,some bg),(fM,o1),(dL,o2),(bB,o3),(jy,o4),(lG,none),(cr,none)]
theorem sU (h:Fit rp s) (hw:Nat.ble w.length 1000=true) (e:decide (s.take w.length=w)=false):cJ (fr L (N+1)) (d_ L (N+1)) (K+1) (.items (.tup [.str w,a,b]::it)) (Jm σ fl bg o1 o2 o3 none) (SP σ rp s tot dep rest)
 =cJ (fr L (N+1)) (d_ L (N+1)) K (.items it) (Jm σ fl bg (some (.str w)) (some a) (some b) none) (SP σ rp s tot dep rest):=by
 have h1:=iT (σ:=σ) (tot:=tot) (dep:=dep) (rest:=rest) (L:=L) (N:=N) h hw e
 refine ig (u:=.v) (vf.trans (qq ..)) ?_ ?_ <;> fail "go"
theorem wR (h:Fit rp s) (hw:Nat.ble w.length 1000=true) (e:decide (s.take w.length=w)=false):cJ (fA L (N+1)) (el L (N+1)) (K+1) (.items (.tup [.str w,a]::it)) (Jm σ fl bg o1 o2 o3 o4) (SP σ rp s tot dep rest)
 =cJ (fA L (N+1)) (el L (N+1)) K (.items it) (Jm σ fl bg (some (.str w)) o2 o3 (some a)) (SP σ rp s tot dep rest):=by
 have h1:=iT (σ:=σ) (tot:=tot) (dep:=dep) (rest:=rest) (L:=L) (N:=N) h hw e
 refine ig (u:=.v) (vf.trans (qm ..)) ?_ ?_ <;> fail "go"
theorem yG {X} (hL:100002≤M+8) (h:Fit rp (40::63::58::s)) (hin:aa (af (M+8)) (N+3) eD [.loc σ.length,.str (aX fi fm fs),.int rp.length] (SP σ (58::63::40::rp) s tot dep rest)=some X) :
  aa (af (M+8)) (N+5) bQ [.loc σ.length,.str (aX fi fm fs)] (SP σ rp (40::63::58::s) tot dep rest)=some X:=by
 have hf:=th (σ:=σ) (rp:=ra [40,63] rp) (tot:=tot) (dep:=dep) (rest:=rest) (N:=N+1) (fi:=fi) (fm:=fm) (fs:=fs) hL h.mv.mv
 have hin:aa (af (M+8)) (N+3) eD [.loc σ.length,.str (aX fi fm fs),.int rp.length] (SP σ (ra [58] (ra [40,63] rp)) s tot dep rest)=some X:=hin
 have hs:aW (aa (af (M+8)) (N+3)) (.loc σ.length) a_ [.str [58]] (.fn (fk 55)) (SP σ (ra [40,63] rp) (58::s) tot dep rest)=some (.bool true,SP σ (ra [58] (ra [40,63] rp)) s tot dep rest):=ln h.mv.mv rfl rfl
 have k1:∀ o1 o2 o3 o4,el (M+8) (N+3) (Jm σ (.str (aX fi fm fs)) (.int rp.length) o1 o2 o3 o4) (SP σ rp (40::63::58::s) tot dep rest)=some X:=fun o1 o2 o3 o4=>by
  refine ar (a:=X.1) (σ':=X.2) (qA ..) ?_ ?_ <;> fail "go"
 have h1:∀ o1 o2 o3 o4,cJ (fA (M+8) (N+3)) (el (M+8) (N+3)) (M+8) (.items [.tup [.str [40,63,60],.str [62]],.tup [.str [40,63,80,60],.str [62]],.tup [.str [40,63,39],.str [39]]]) (Jm σ (.str (aX fi fm fs)) (.int rp.length) o1 o2 o3 o4) (SP σ rp (40::63::58::s) tot dep rest)=some X:=fun o1 o2 o3 o4 =>
  (wR h rfl rfl).trans ((wR h rfl rfl).trans ((wR h rfl rfl).trans (k1 _ _ _ _)))
 have k0:∀ o1 o2 o3,d_ (M+8) (N+3) (Jm σ (.str (aX fi fm fs)) (.int rp.length) o1 o2 o3 none) (SP σ rp (40::63::58::s) tot dep rest)=some X:=fun o1 o2 o3=>by
  have h1:=h1 o1 o2 o3 none
  refine ar (a:=X.1) (σ':=X.2) (pL ..) ?_ ?_ <;> fail "go"
 have h0:cJ (fr (M+8) (N+3)) (d_ (M+8) (N+3)) (M+8) (.items [.tup [.str [40,63,61],.bool false,.bool false],.tup [.str [40,63,33],.bool false,.bool true],.tup [.str [40,63,60,61],.bool true,.bool false],.tup [.str [40,63,60,33],.bool true,.bool true]])
   (Jm σ (.str (aX fi fm fs)) (.int rp.length) none none none none) (SP σ rp (40::63::58::s) tot dep rest)=some X :=
  (sU h rfl rfl).trans ((sU h rfl rfl).trans ((sU h rfl rfl).trans ((sU h rfl rfl).trans (k0 _ _ _))))
 have hg:aa (af (M+8)) (N+4) jB [.loc σ.length,.str (aX fi fm fs)] (SP σ rp (40::63::58::s) tot dep rest)=some X:=by
  refine ar (a:=X.1) (σ':=X.2) (vo ..) ?_ ?_ <;> fail "go"
 refine ar (a:=X.1) (σ':=X.2) (ez ..) ?_ ?_ <;> fail "go"
theorem AD {v:PV} (hd:dep<40) (h2:Fit rp1 (41::r)) (ha:aa (af L) (N+2) cp [.loc σ.length,fl] (SP σ rp s tot (dep+1) rest)=some (v,SP σ rp1 (41::r) tot (dep+1) r1)) :
  aa (af L) (N+3) eD [.loc σ.length,fl,bg] (SP σ rp s tot dep rest)=some (v,SP σ (41::rp1) r tot dep r1):=by
 have q:aj .Eq (.int dep) kW (SP σ rp s tot dep rest)=some (false,SP σ rp s tot dep rest):=by
  show some (decide ((dep:Int)=40),_)=_
  rw [decide_eq_false (by omega)]
 have d1:=yD (σ:=σ) (rp:=rp) (s:=s) (tot:=tot) (dep:=dep) (rest:=rest) (L:=L)
 have d2:=IM (σ:=σ) (rp:=rp) (s:=s) (tot:=tot) (dep:=dep) (rest:=rest) (L:=L)
 have d3:=yD (σ:=σ) (rp:=rp1) (s:=41::r) (tot:=tot) (dep:=dep+1) (rest:=r1) (L:=L)
 have d4:=L9 (σ:=σ) (rp:=rp1) (s:=41::r) (tot:=tot) (dep:=dep) (rest:=r1) (L:=L)
 have hs:aW (aa (af L) (N+2)) (.loc σ.length) a_ [.str [41]] (.fn (fk 55)) (SP σ rp1 (41::r) tot dep r1)=some (.bool true,SP σ (41::rp1) r tot dep r1):=ln h2 rfl rfl
 refine ar (vh ..) ?_ ?_ <;> fail "go"
noncomputable def BS (L N:Nat) (σ:ah) (fl:PV) (k:Nat) (o:Option PV) (K:Nat):ah→Option (PV × ah) :=
 bc (fB L N) (fx L N) (fG L N) K [(aK,some (.loc σ.length)),(aw,some fl),(bH,some (.loc k)),(aJ,o)]
theorem yh {acc:List PV} {v v':PV} {r2:ah} {o:Option PV} (hb:aa (af L) (N+1) dW [.loc σ.length,fl] (SP σ rp s tot dep (r1++.lst acc::rest))=some (.tup [v,fl],SP σ rp1 s1 tot dep (r1++.lst acc::r2)))
  (h1:Fit rp1 s1) (e:decide (s1.take 1=[124])=false) (hl:Nat.ble acc.length lim=true) (hr:(acc=[]∧v'=v)∨(acc.length=1∧v'=Mh (σ.length+1+r1.length))) :
  BS L (N+1) σ fl (σ.length+1+r1.length) o (K+1) (SP σ rp s tot dep (r1++.lst acc::rest))=some (v',SP σ rp1 s1 tot dep (r1++.lst (acc++[v])::r2)):=by
 have e1:=xC (σ:=σ) (rp:=rp1) (s:=s1) (tot:=tot) (dep:=dep) (r1:=r1) (r2:=r2) (L:=L) (l:=acc)
 have e2:=AV (σ:=σ) (rp:=rp1) (s:=s1) (tot:=tot) (dep:=dep) (r1:=r1) (r2:=r2) (c:=aa (af L) (N+1)) (v:=v) hl
 have e3:=iT (σ:=σ) (tot:=tot) (dep:=dep) (rest:=r1++.lst (acc++[v])::r2) (L:=L) (N:=N) h1 (w:=[124]) rfl e
 have hm:=o9 (σ:=σ) (rp:=rp1) (s:=s1) (tot:=tot) (dep:=dep) (r1:=r1) (r2:=r2) (c:=.lst (acc++[v]))
 have e4:bU [.loc (σ.length+1+r1.length)] (SP σ rp1 s1 tot dep (r1++.lst (acc++[v])::r2))=some (.int (acc++[v]).length,SP σ rp1 s1 tot dep (r1++.lst (acc++[v])::r2)):=by
  rw [C1,dC,hm]
  show guard (Nat.ble (acc++[v]).length lim) _ _=_
  rw [show Nat.ble (acc++[v]).length lim=true by rcases hr with h | h <;> rw [List.length_append,h.1] <;> rfl]; rfl
 unfold BS
 rcases hr with ⟨rfl,rfl⟩ | ⟨ha,rfl⟩
 ·have e5:ao (.loc (σ.length+1+r1.length)) (.int 0) (SP σ rp1 s1 tot dep (r1++.lst [v']::r2))=some (v',SP σ rp1 s1 tot dep (r1++.lst [v']::r2)):=by
   show getL _ _ _=_
   rw [dC,o9]; rfl
  refine ar (bp (d8 ..) (ek ..) (ej ..)) ?_ ?_ <;> fail "go"
 ·rw [List.length_append,ha] at e4
  refine ar (bp (d8 ..) (ek ..) (ej ..)) ?_ ?_ <;> fail "go"
theorem IV {acc:List PV} {v:PV} {r2:ah} {o:Option PV} {X} (hb:aa (af L) (N+1) dW [.loc σ.length,fl] (SP σ rp s tot dep (r1++.lst acc::rest))=some (.tup [v,fl],SP σ rp1 (124::s1) tot dep (r1++.lst acc::r2)))
  (h1:Fit rp1 (124::s1)) (hl:Nat.ble acc.length lim=true) (ih:BS L (N+1) σ fl (σ.length+1+r1.length) (some v) K (SP σ (124::rp1) s1 tot dep (r1++.lst (acc++[v])::r2))=some X) :
  BS L (N+1) σ fl (σ.length+1+r1.length) o (K+1) (SP σ rp s tot dep (r1++.lst acc::rest))=some X:=by
 have e1:=xC (σ:=σ) (rp:=rp1) (s:=124::s1) (tot:=tot) (dep:=dep) (r1:=r1) (r2:=r2) (L:=L) (l:=acc)
 have e2:=AV (σ:=σ) (rp:=rp1) (s:=124::s1) (tot:=tot) (dep:=dep) (r1:=r1) (r2:=r2) (c:=aa (af L) (N+1)) (v:=v) hl
 have e3:aW (aa (af L) (N+1)) (.loc σ.length) a_ [.str [124]] (.fn (fk 55)) (SP σ rp1 (124::s1) tot dep (r1++.lst (acc++[v])::r2))=some (.bool true,SP σ (124::rp1) s1 tot dep (r1++.lst (acc++[v])::r2)):=ln h1 rfl rfl
 unfold BS at *
 refine ar (a:=X.1) (σ':=X.2) (bp (d8 ..) (ek ..) (ej ..)) ?_ ?_ <;> fail "go"
theorem Bl {X} (ih:BS L N σ fl (σ.length+1+r1.length) none L (SP σ rp s tot dep (r1++[.lst []]))=some X):aa (af L) (N+1) cp [.loc σ.length,fl] (SP σ rp s tot dep r1)=some X:=by
 unfold BS at ih
 have e:=wJ (σ:=σ) (rp:=rp) (s:=s) (tot:=tot) (dep:=dep) (rest:=r1) (c:=.lst [])
 refine ar (a:=X.1) (σ':=X.2) (os ..) ?_ ?_ <;> fail "go"
end
end
section
theorem gD (n:Nd) (d:Nat) (h:ld d n):mj n=false→∀ s,oC (bA n++s) :=
 (Nd.ind (P:=fun _ n=>mj n=false→∀ s,oC (bA n++s)) (Q:=fun Z Z=>True) (fun _ i h _ s=>vL s (DV i h)) (fun _ i h _ s=>vL s (yT i h)) (fun _ _ _ _ _ h=>eI h)
  (fun _ _ _ _ _ _ _ _ _ _ s=>nn)
  (fun _ n c _ _ h _ s=>by
   show oC ((if eV n=true then bA n else [40,63,58]++bA n++[41])++(au c).mark++s)
   rw [List.append_assoc]
   exact cn (P:=fun l:List Nat=>oC (l++_)) (fun hb=>h (by cases n <;> first | rfl | exact dU hb) _) fun Z=>nn)
  (fun Z=>trivial) (fun Z Z Z Z Z Z Z=>trivial) n).1 d h
theorem Fg (n:Nd):(∀ d,ld d n→∀ s,oT s→oT (bA n++s))∧(∀ d,okL d n→∀ s,oT s→oT (bA n++s)) :=
 Nd.ind (P:=fun _ n=>∀ s,oT s→oT (bA n++s)) (Q:=fun _ n=>∀ s,oT s→oT (bA n++s)) (fun d i h s _=>(gD (.one i) d h rfl s).2.1) (fun d i h s _=>(gD (.place i) d h rfl s).2.1) (fun _ _ _ _ h=>h)
  (fun d x y hx hy _ _ _ _ s _=>(gD (.branches (.row x) (.row y)) (d+1) ⟨hx,hy,rfl,rfl⟩ rfl s).2.1) (fun d n c hn hc _ s _=>(gD (.rounds n c) (d+1) ⟨hn,hc⟩ rfl s).2.1) (fun _ _ h=>h)
  (fun _ x y _ _ hx hy s h=>(List.append_assoc (bA x) (bA y) s).symm ▸ hx _ (hy s h)) n
noncomputable def fu:Nd→Nat→Nat
 | .row l,K=>fu l K
 | .nil,K=>K
 | .cons h t,K=>fu h (fu t K)
 | _,K=>K+1
theorem o0 (l m rp:List Nat):ra (l++m) rp=ra m (ra l rp):=by rw [oB,oB,oB,List.reverse_append,List.append_assoc]
theorem one_pos:∀ i,i<20→1≤(gE i).sp.length:=by decide
theorem vK:∀ i,i<7→1≤(cQ i).length:=by decide
theorem ul:∀ i,i<7→1≤(au i).mark.length∧∀ s,decide (((au i).mark++s).take 3=[40,63,35])=false
 | 0,_=>⟨by decide,fun Z=>rfl⟩ | 1,_=>⟨by decide,fun Z=>rfl⟩ | 2,_=>⟨by decide,fun Z=>rfl⟩ | 3,_=>⟨by decide,fun Z=>rfl⟩ | 4,_=>⟨by decide,fun Z=>rfl⟩ | 5,_=>⟨by decide,fun Z=>rfl⟩ | 6,_=>⟨by decide,fun Z=>rfl⟩
 | i+7,hi=>absurd hi (Nat.not_lt.mpr (Nat.le_add_left 7 i))
theorem De (n:Nd) (d:Nat) (h:ld d n):mj n=false→1≤(bA n).length :=
 (Nd.ind (P:=fun _ n=>mj n=false→1≤(bA n).length) (Q:=fun Z Z=>True) (fun _ i h _=>one_pos i h) (fun _ i h _=>vK i h) (fun _ _ _ _ _ h=>eI h)
  (fun Z Z Z Z Z Z Z Z Z Z=>Nat.succ_le_succ (Nat.zero_le _)) (fun _ n c _ hc _ _=>Nat.le_trans (ul c hc).1 (Nat.le_trans (Nat.le_add_left ..) (Nat.le_of_eq List.length_append.symm)))
  (fun Z=>trivial) (fun Z Z Z Z Z Z Z=>trivial) n).1 d h
theorem F7 {w:Nd→Nat} (hp:∀ n d,ld d n→mj n=false→1≤w n) (hr:∀ l,w (.row l)=w l) (hc:∀ x y,w (.cons x y)=w x+w y) {d:Nat} {n:Nd} (h:ld d n∨okL d n):∀ L,w n≤L→∃ K,L=fu n K∧L≤K+w n:=by
 have item:∀ {n d},ld d n→mj n=false→(∀ K,fu n K=K+1)→∀ L,w n≤L→∃ K,L=fu n K∧L≤K+w n:=fun {n d} h hr hf L hL =>
  have hp:=hp n d h hr
  have e:=(Nat.sub_add_cancel (Nat.le_trans hp hL)).symm
  ⟨L-1,e.trans (hf _).symm,Nat.le_trans (Nat.le_of_eq e) (Nat.add_le_add_left hp _)⟩
 have H:=Nd.ind (P:=fun _ n=>∀ L,w n≤L→∃ K,L=fu n K∧L≤K+w n) (Q:=fun _ n=>∀ L,w n≤L→∃ K,L=fu n K∧L≤K+w n) (fun d i h=>item (d:=d) (n:=.one i) h rfl fun Z=>rfl) (fun d i h=>item (d:=d) (n:=.place i) h rfl fun Z=>rfl)
  (fun _ l _ _ h=>(hr l).symm ▸ h) (fun d x y hx hy _ _ _ _=>item (d:=d+1) (n:=.branches (.row x) (.row y)) ⟨hx,hy,rfl,rfl⟩ rfl fun Z=>rfl) (fun d n c hn hc _=>item (d:=d+1) (n:=.rounds n c) ⟨hn,hc⟩ rfl fun Z=>rfl)
  (fun _ L _=>⟨L,rfl,Nat.le_add_right _ _⟩)
  (fun _ x y _ _ hx hy L hL=>by
   rw [hc] at hL ⊢
   obtain ⟨K,e,h1⟩:=hx L (Nat.le_trans (Nat.le_add_right ..) hL)
   obtain ⟨K',e',h2⟩:=hy K (by omega)
   exact ⟨K',e.trans (congrArg (fu x) e'),by omega⟩) n
 exact h.elim (H.1 d) (H.2 d)
section
variable {σ:ah} {tot:Int} {M:Nat} {fi fm fs:Bool}
noncomputable def bs (σ r1:ah) (acc:List PV) (r2:ah):Nat:=σ.length+1+(r1++.lst acc::r2).length
noncomputable def PL (M:Nat) (fi fm fs:Bool) (σ:ah) (tot:Int) (d:Nat) (n:Nd):Prop :=
 ∀ (k dep:Nat) (rp suf:List Nat) (r1 r2:ah) (acc:List PV) (K:Nat) (o:Option PV),dep+d<40→Fit rp (bA n++suf)→acc.length≤rp.length→oT suf →
  ∃ vs τ o',vs.length≤(bA n).length∧PI fi fm fs (bs σ r1 acc r2) τ n vs ∧
   u9 (M+8) (k+5*d+10) σ (.str (aX fi fm fs)) (σ.length+1+r1.length) o (fu n K) (SP σ rp (bA n++suf) tot dep (r1++.lst acc::r2))
   =u9 (M+8) (k+5*d+10) σ (.str (aX fi fm fs)) (σ.length+1+r1.length) o' K (SP σ (ra (bA n) rp) suf tot dep (r1++.lst (acc++vs)::(r2++τ)))
noncomputable def AT (M:Nat) (fi fm fs:Bool) (σ:ah) (tot:Int) (d:Nat) (n:Nd):Prop :=
 ∀ (k dep:Nat) (rp suf:List Nat) (rest:ah),dep+d<40→Fit rp (bA n++suf) →
  ∃ v τ,PI fi fm fs (σ.length+1+rest.length) τ n [v] ∧
   aa (af (M+8)) (k+5*d+10) bQ [.loc σ.length,.str (aX fi fm fs)] (SP σ rp (bA n++suf) tot dep rest)=some (v,SP σ (ra (bA n) rp) suf tot dep (rest++τ))
theorem nS {d:Nat} {n:Nd} (hL:100002≤M+8) (hP:PL M fi fm fs σ tot d n) (hn:ld d n∨okL d n) (k dep:Nat) {rp suf:List Nat} {rest:ah} (hd:dep+d<40) (h:Fit rp (bA n++suf)) (hs:oT suf)
  (hT:∀ τ,aj .NotIn (.str (suf.take 1)) (.tup [.str [],.str [124],.str [41]]) τ=some (false,τ)) :
  ∃ vs τ,PI fi fm fs (σ.length+1+rest.length+1) τ n vs ∧
   aa (af (M+8)) (k+5*d+10+1) dW [.loc σ.length,.str (aX fi fm fs)] (SP σ rp (bA n++suf) tot dep rest)
   =some (.tup [mu (σ.length+1+rest.length),.str (aX fi fm fs)],SP σ (ra (bA n) rp) suf tot dep (rest++.lst vs::τ)):=by
 have hl:(bA n).length+1≤M+8:=by
  have:rp.length+(bA n++suf).length≤100000:=h
  rw [List.length_append] at this; omega
 obtain ⟨K,e,hK⟩:∃ K,M+8=fu n K∧M+8≤K+(bA n).length:=F7 De (fun Z=>rfl) (fun Z Z=>List.length_append) hn (M+8) (by omega)
 obtain ⟨K,rfl⟩:∃ K',K=K'+1:=⟨K-1,by omega⟩
 obtain ⟨vs,τ,o',_,h1,h2⟩:=hP k dep rp suf rest [] [] (K+1) none hd h (Nat.zero_le _) hs
 have hb:bs σ rest [] []=σ.length+1+rest.length+1:=by unfold bs; rw [List.length_append]; rfl
 rw [hb] at h1
 refine ⟨vs,τ,h1,Kx ?_⟩
 rw [e]
 rw [e] at h2
 exact h2.trans (J4 h.app (hT _))
theorem AT.turn {d:Nat} {n:Nd} (hL:100002≤M+8) (hA:AT M fi fm fs σ tot d n) (hp:1≤(bA n).length) (hF:∀ s,oC (bA n++s)) (hfu:∀ K,fu n K=K+1):PL M fi fm fs σ tot d n:=by
 intro k dep rp suf r1 r2 acc K o hd h hacc hs
 obtain ⟨v,τ,p,e⟩:=hA k dep rp suf (r1++.lst acc::r2) hd h
 rw [List.append_assoc,List.cons_append] at e
 rw [hfu]
 exact ⟨[v],τ,some .none,hp,p,Mine.turn (N:=k+5*d+3) hL h (hF _) (aO hacc (Nat.le_trans h.at (by decide))) e (yp h.app hs)⟩
theorem PL.nil {d:Nat}:PL M fi fm fs σ tot d .nil:=fun k dep rp suf r1 r2 acc K o _ _ _ _=>⟨[],[],o,Nat.le_refl _,rfl,by rw [List.append_nil,List.append_nil]; rfl⟩
theorem PL.cons {d:Nat} {x y:Nd} (hx:PL M fi fm fs σ tot d x) (hy:PL M fi fm fs σ tot d y) (oy:okL d y):PL M fi fm fs σ tot d (.cons x y):=by
 intro k dep rp suf r1 r2 acc K o hd h hacc hs
 have es:bA (.cons x y)++suf=bA x++(bA y++suf):=List.append_assoc ..
 rw [es] at h ⊢
 obtain ⟨vx,τx,o1,l1,p1,e1⟩:=hx k dep rp (bA y++suf) r1 r2 acc (fu y K) o hd h hacc ((Fg y).2 d oy suf hs)
 have hacc':(acc++vx).length≤(ra (bA x) rp).length:=by rw [List.length_append,m9]; omega
 obtain ⟨vy,τy,o2,l2,p2,e2⟩:=hy k dep (ra (bA x) rp) suf r1 (r2++τx) (acc++vx) K o1 hd h.app hacc' hs
 have hb:bs σ r1 (acc++vx) (r2++τx)=bs σ r1 acc r2+τx.length:=by unfold bs; simp; omega
 rw [hb] at p2
 refine ⟨vx++vy,τx++τy,o2,?_,⟨vx,vy,rfl,p1.left τy,p2.right τx⟩,?_⟩
 ·show (vx++vy).length≤(bA x++bA y).length
  rw [List.length_append,List.length_append]; exact Nat.add_le_add l1 l2
 ·rw [List.append_assoc,List.append_assoc] at e2
  show _=u9 _ _ _ _ _ _ _ (SP σ (ra (bA x++bA y) rp) suf tot dep (r1++.lst (acc++(vx++vy))::(r2++(τx++τy))))
  rw [o0]
  exact e1.trans e2
theorem PL.up {d:Nat} {n:Nd} (h:PL M fi fm fs σ tot d n):PL M fi fm fs σ tot (d+1) n:=by
 intro k dep rp suf r1 r2 acc K o hd
 have e:k+5*(d+1)+10=(k+5)+5*d+10:=by omega
 rw [e]
 exact h (k+5) dep rp suf r1 r2 acc K o (by omega)
theorem AT.up {d:Nat} {n:Nd} (h:AT M fi fm fs σ tot d n):AT M fi fm fs σ tot (d+1) n:=by
 intro k dep rp suf rest hd
 have e:k+5*(d+1)+10=(k+5)+5*d+10:=by omega
 rw [e]
 exact h (k+5) dep rp suf rest (by omega)
theorem ET {s:List Nat}:oT (124::s):=⟨fun _ _ e=>by cases e; exact ⟨fun Z=>rfl,rfl,rfl,rfl⟩,rfl⟩
theorem uH {s:List Nat}:oT (41::s):=⟨fun _ _ e=>by cases e; exact ⟨fun Z=>rfl,rfl,rfl,rfl⟩,rfl⟩
theorem Dh {d:Nat} {n:Nd} (hL:100002≤M+8) (hP:PL M fi fm fs σ tot d n) (hn:ld d n∨okL d n) (k dep:Nat) {rp s:List Nat} {rest:ah} (hd:dep+(d+1)<40) (h:Fit rp ([40,63,58]++bA n++[41]++s)) :
  ∃ vs τ,PI fi fm fs (σ.length+1+rest.length+2) τ n vs∧aa (af (M+8)) (k+5*(d+1)+10) bQ [.loc σ.length,.str (aX fi fm fs)] (SP σ rp ([40,63,58]++bA n++[41]++s) tot dep rest)
  =some (mu (σ.length+1+rest.length+1),SP σ (ra ([40,63,58]++bA n++[41]) rp) s tot dep (rest++.lst [mu (σ.length+1+rest.length+1)]::.lst vs::τ)):=by
 have es:[40,63,58]++bA n++[41]++s=40::63::58::(bA n++41::s):=by simp
 rw [es] at h ⊢
 obtain ⟨vs,τ,p,e⟩:=nS (rest:=rest++[.lst []]) (suf:=41::s) hL hP hn k (dep+1) (by omega) h.mv.mv.mv uH fun Z=>rfl
 have hb:σ.length+1+(rest++[dl.lst []]).length=σ.length+1+rest.length+1:=by rw [List.length_append]; rfl
 rw [hb] at p e
 rw [List.append_assoc,List.cons_append,List.nil_append] at e
 refine ⟨vs,τ,p,yG (N:=k+5*d+10) hL h ?_⟩
 rw [o0,o0]
 exact AD (by omega) (Fit.app (l:=bA n) h.mv.mv.mv) (Bl (yh e (Fit.app (l:=bA n) h.mv.mv.mv) rfl rfl (.inl ⟨rfl,rfl⟩)))
theorem AT.branches {d:Nat} {x y:Nd} (hL:100002≤M+8) (hx:PL M fi fm fs σ tot d x) (hy:PL M fi fm fs σ tot d y) (ox:okL d x) (oy:okL d y):AT M fi fm fs σ tot (d+1) (.branches (.row x) (.row y)):=by
 intro k dep rp suf rest hd h
 have es:bA (.branches (.row x) (.row y))++suf=40::63::58::(bA x++124::(bA y++41::suf)):=by simp [bA]
 have er:ra (bA (.branches (.row x) (.row y))) rp=41::ra (bA y) (124::ra (bA x) (58::63::40::rp)):=by
  show ra ([40,63,58]++(bA x++124::bA y)++[41]) rp=_
  rw [o0,o0,o0]; rfl
 rw [es] at h
 rw [es,er]
 have h1:=Fit.app (l:=bA x) h.mv.mv.mv
 have h2:=Fit.app (l:=bA y) h1.mv
 obtain ⟨vx,τx,p1,e1⟩:=nS (rest:=rest++[.lst []]) (suf:=124::(bA y++41::suf)) hL hx (.inr ox) k (dep+1) (by omega) h.mv.mv.mv ET fun Z=>rfl
 have hb:σ.length+1+(rest++[dl.lst []]).length=σ.length+1+rest.length+1:=by rw [List.length_append]; rfl
 rw [hb] at p1 e1
 rw [List.append_assoc,List.cons_append,List.nil_append] at e1
 obtain ⟨vy,τy,p2,e2⟩:=nS (rest:=rest++.lst [mu (σ.length+1+rest.length+1)]::.lst vx::τx) (suf:=41::suf) hL hy (.inr oy) k (dep+1) (by omega) h1.mv uH fun Z=>rfl
 have hb2:σ.length+1+(rest++.lst [mu (σ.length+1+rest.length+1)]::.lst vx::τx).length=σ.length+1+rest.length+(τx.length+2):=by rw [List.length_append,List.length_cons,List.length_cons]; exact (Nat.add_assoc _ _ _).symm
 rw [hb2] at p2 e2
 rw [List.append_assoc,List.cons_append,List.cons_append] at e2
 refine ⟨Mh (σ.length+1+rest.length),.lst [mu (σ.length+1+rest.length+1),mu (σ.length+1+rest.length+(τx.length+2))]::.lst vx::(τx++.lst vy::τy),?_,?_⟩
 ·refine ⟨_,_,_,vx,vy,rfl,.here,u4.right [_] .here,⟨.lst _::.lst vx::τx,τy,rfl,rfl⟩,?_,?_⟩
  ·exact PI.right [_,_] (PI.left _ p1)
  ·exact PI.right [_,_] (PI.right τx (PI.right [_] (Eq.mp (congrArg (fun b=>PI fi fm fs b τy y vy) (show σ.length+1+rest.length+(τx.length+2)+1=σ.length+1+rest.length+2+τx.length+1 by omega)) p2)))
 ·exact yG (N:=k+5*d+10) hL h (AD (by omega) h2 (Bl (IV e1 h1 rfl (yh e2 h2 rfl rfl (.inr ⟨rfl,rfl⟩)))))
theorem AT.one (hL:100002≤M+8) (ht:tot≤100) {d i:Nat} (hi:i<20):AT M fi fm fs σ tot d (.one i):=fun k dep rp suf rest hd h =>
 ⟨_,rq i,⟨_,rfl,fun l hl=>by rw [hl]; exact .here⟩,FS (N:=k+5*d) hL ht i hi h⟩
theorem AT.place {d i:Nat} (hi:i<7):AT M fi fm fs σ tot d (.place i):=fun k dep rp suf rest hd h=>⟨_,[],rfl,B3 (N:=k+5*d) i hi h⟩
theorem vP {d c:Nat} {n:Nd} {b:List Nat} (hL:100002≤M+8) (hc:c<7) (eb:bA (.rounds n c)=b++(au c).mark) (hF:∀ s,oC (b++s))
  (hA:∀ (k dep:Nat) (rp suf:List Nat) (rest:ah),dep+d<40→Fit rp (b++suf)→∃ v τ,PI fi fm fs (σ.length+1+rest.length) τ (.rounds n c) [tp v c] ∧
   aa (af (M+8)) (k+5*d+10) bQ [.loc σ.length,.str (aX fi fm fs)] (SP σ rp (b++suf) tot dep rest)=some (v,SP σ (ra b rp) suf tot dep (rest++τ))):PL M fi fm fs σ tot d (.rounds n c):=by
 intro k dep rp suf r1 r2 acc K o hd h hacc hs
 rw [eb,List.append_assoc] at h ⊢
 obtain ⟨v,τ,p,e⟩:=hA k dep rp ((au c).mark++suf) (r1++.lst acc::r2) hd h
 rw [List.append_assoc,List.cons_append] at e
 rw [o0]
 exact ⟨[tp v c],τ,some .none,by rw [List.length_append]; exact Nat.le_trans (ul c hc).1 (Nat.le_add_left _ _),p,Mine.turn (N:=k+5*d+3) hL h (hF _) (aO hacc (Nat.le_trans h.at (by decide))) e (xA hL hc h.app hs ((ul c hc).2 suf))⟩
theorem zc {d c:Nat} {n:Nd} (hL:100002≤M+8) (hc:c<7) (hn:ld d n) (hb:eV n=true) (hA:AT M fi fm fs σ tot (d+1) n):PL M fi fm fs σ tot (d+1) (.rounds n c) :=
 vP (b:=bA n) hL hc (congrArg (·++(au c).mark) (if_pos hb)) (fun s=>gD n d hn (by cases n <;> first | rfl | cases hb) s) fun k dep rp suf rest hd h=>(hA k dep rp suf rest hd h).elim fun v h=>h.elim fun τ h=>⟨v,τ,⟨v,rfl,by rw [if_pos hb]; exact h.1⟩,h.2⟩
theorem Br {d c:Nat} {n:Nd} (hL:100002≤M+8) (hc:c<7) (hn:ld d n) (hb:¬ eV n=true) (hP:PL M fi fm fs σ tot d n):PL M fi fm fs σ tot (d+1) (.rounds n c) :=
 vP (b:=[40,63,58]++bA n++[41]) hL hc (congrArg (·++(au c).mark) (if_neg hb)) (fun s=>nn) fun k dep rp suf rest hd h=>(Dh hL hP (.inl hn) k dep hd h).elim fun vs h=>h.elim fun τ h =>
  ⟨_,_,⟨_,rfl,by rw [if_neg hb]; exact ⟨_,vs,rfl,u4.right [_] .here,PI.right [_,_] h.1⟩⟩,h.2⟩
theorem D4 (hL:100002≤M+8) (ht:tot≤100) (n:Nd):(∀ d,ld d n→PL M fi fm fs σ tot d n∧(eV n=true→AT M fi fm fs σ tot d n))∧∀ d,okL d n→PL M fi fm fs σ tot d n :=
 Nd.ind (P:=fun d n=>PL M fi fm fs σ tot d n∧(eV n=true→AT M fi fm fs σ tot d n)) (Q:=fun d n=>PL M fi fm fs σ tot d n)
  (fun d i h=>⟨(AT.one hL ht h).turn hL (one_pos i h) (fun s=>gD (.one i) d h rfl s) fun Z=>rfl,fun Z=>AT.one hL ht h⟩)
  (fun d i h=>⟨(AT.place h).turn hL (vK i h) (fun s=>gD (.place i) d h rfl s) fun Z=>rfl,fun h=>dU h⟩)
  (fun d l _ _ h=>⟨h.up,fun h=>dU h⟩)
  (fun d x y ox oy _ _ hx hy =>
   have A:=AT.branches hL hx hy ox.1 oy.1
   have h:ld (d+1) (.branches (.row x) (.row y)):=⟨ox,oy,rfl,rfl⟩
   ⟨A.turn hL (De _ _ h rfl) (fun s=>gD (.branches (.row x) (.row y)) (d+1) h rfl s) fun Z=>rfl,fun Z=>A⟩)
  (fun d n c hn hc h=>⟨if hb:eV n=true then zc hL hc hn hb (h.2 hb).up else Br hL hc hn hb h.1,fun h=>dU h⟩)
  (fun Z=>PL.nil) (fun _ _ _ _ oy hx hy=>PL.cons hx.1 hy oy) n
theorem A9 (hL:100002≤M+8) (ht:tot≤100) (d:Nat) (l:Nd) (h:okL d l):PL M fi fm fs σ tot d l:=(D4 hL ht l).2 d h
end
end
section
section
variable {L N:Nat} {t:List Nat} {σ:ah}
theorem eR {s:List Nat} {lo hi:PV} {i j:Option Nat} (h:Nat.ble s.length lim=true) (e:ie lo=some i) (e':ie hi=some j) {τ:ah}:aS (.str s) lo hi τ=some (.str (xr s i j),τ):=by
 rw [nx,e,e']
 show guard (Nat.ble s.length lim) _ τ=_
 rw [h]; rfl
theorem DU {s:List Nat} (h:Nat.ble s.length lim=true):∃ b,aa (af L) (N+1) gu [.str s] σ=some (.bool b,σ):=by
 have h1:aS (.str s) .none (.int 1) σ=some (.str (s.take 1),σ):=eR (i:=none) (j:=some 1) h rfl rfl
 have h2:aS (.str s) .none (.int 2) σ=some (.str (s.take 2),σ):=eR (i:=none) (j:=some 2) h rfl rfl
 have h3:aS (.str s) .none (.int 3) σ=some (.str (s.take 3),σ):=eR (i:=none) (j:=some 3) h rfl rfl
 have h4:aS (.str s) (.int 2) (.int 3) σ=some (.str ((s.take 3).drop 2),σ):=eR (i:=some 2) (j:=some 3) h rfl rfl
 cases q1:(!decide (s.take 1=[63])) with
 | true=>exact ⟨true,by refine ar (dw ..) ?_ ?_ <;> fail "go"⟩
 | false =>
 cases q2:decide (s.take 2=[63,39]) with
 | true=>exact ⟨decide (s.take 2=[63,39]),by refine ar (dw ..) ?_ ?_ <;> fail "go"⟩
 | false =>
 cases q3:decide (s.take 3=[63,80,60]) with
 | true=>exact ⟨decide (s.take 3=[63,80,60]),by refine ar (dw ..) ?_ ?_ <;> fail "go"⟩
 | false =>
 cases q4:decide (s.take 2=[63,60]) with
 | false=>exact ⟨decide (s.take 2=[63,60]),by refine ar (dw ..) ?_ ?_ <;> fail "go"⟩
 | true =>
 cases q5:(!decide ((s.take 3).drop 2=[61])) with
 | false=>exact ⟨!decide ((s.take 3).drop 2=[61]),by refine ar (dw ..) ?_ ?_ <;> fail "go"⟩
 | true=>exact ⟨!decide ((s.take 3).drop 2=[33]),by refine ar (dw ..) ?_ ?_ <;> fail "go"⟩
theorem dK {c a:Nat} (ha:a≤1000000000) (h:t[a]?=some c) {τ:ah}:ao (.str t) (.int a) τ=some (.str [c],τ):=by
 rw [zG,qI ha]
 show opt t[a]? _ τ=_
 rw [h]; rfl
noncomputable def GV (L N:Nat) (t:List Nat) (a:Int) (K:Nat):ah→Option (PV × ah):=bc (bO L N) (bN L N) (bM L N) K [(aD,some (.str t)),(bv,some (.int a))]
theorem mO (ht:t.length≤99000) {K:Nat}:∀ (k a:Nat),t.length+4≤a+k→a≤t.length+3→∃ b:Nat,a≤b∧b≤t.length+3∧GV L N t a (K+k) σ=some (.int b,σ)
 | 0,a,h,h'=>absurd (Nat.le_trans h h') (Nat.not_succ_le_self _)
 | k+1,a,h,h'=>by
  have hl:=dE (w:=t) (aO ht (by decide)) (τ:=σ)
  by_cases hlt:a<t.length
  ·have q:decide ((a:Int)<t.length)=true:=decide_eq_true (Int.ofNat_lt.mpr hlt)
   have hi:=dK (c:=t[a]) (τ:=σ) (Nat.le_trans (Nat.le_trans (Nat.le_of_lt hlt) ht) (by decide)) (List.getElem?_eq_getElem hlt)
   cases q1:(!decide ([t[a]]=[93])) with
   | false=>exact ⟨a,Nat.le_refl _,h',by unfold GV; refine ar (bp (e8 ..) (e_ ..) (eW ..)) ?_ ?_ <;> fail "go"⟩
   | true =>
    cases q2:decide ([t[a]]=[92]) with
    | true =>
     obtain ⟨b,h1,h2,h3⟩:=mO ht (K:=K) k (a+2) (by omega) (by omega)
     have h3:bc (bO L N) (bN L N) (bM L N) (K+k) [(aD,some (.str t)),(bv,some (.int ((a:Int)+2)))] σ=some (.int b,σ):=h3
     exact ⟨b,Nat.le_of_add_right_le h1,h2,by unfold GV; refine ar (bp (e8 ..) (e_ ..) (eW ..)) ?_ ?_ <;> fail "go"⟩
    | false =>
     obtain ⟨b,h1,h2,h3⟩:=mO ht (K:=K) k (a+1) (by omega) (by omega)
     have h3:bc (bO L N) (bN L N) (bM L N) (K+k) [(aD,some (.str t)),(bv,some (.int ((a:Int)+1)))] σ=some (.int b,σ):=h3
     exact ⟨b,Nat.le_of_succ_le h1,h2,by unfold GV; refine ar (bp (e8 ..) (e_ ..) (eW ..)) ?_ ?_ <;> fail "go"⟩
  ·have q:decide ((a:Int)<t.length)=false:=decide_eq_false fun h=>hlt (Int.ofNat_lt.mp h)
   exact ⟨a,Nat.le_refl _,h',by unfold GV; refine ar (bp (e8 ..) (e_ ..) (eW ..)) ?_ ?_ <;> fail "go"⟩
theorem Eh (hL:100020≤L) (ht:t.length≤99000) {a:Nat} (ha:a<t.length):∃ b:Nat,a<b∧b≤t.length+3∧aa (af L) (N+1) ic [.str t,.int a] σ=some (.int b,σ):=by
 have hl:Nat.ble t.length lim=true:=aO ht (by decide)
 have s1:aS (.str t) (.int ((a:Int)+1)) (.int ((a:Int)+1+1)) σ=some (.str ((t.take (a+2)).drop (a+1)),σ):=eR hl (dg (a+1) (by omega)) (dg (a+2) (by omega))
 have s2:aS (.str t) (.int ((a:Int)+1+1)) (.int ((a:Int)+1+1+1)) σ=some (.str ((t.take (a+3)).drop (a+2)),σ):=eR hl (dg (a+2) (by omega)) (dg (a+3) (by omega))
 obtain ⟨K,rfl⟩:∃ K,L=K+(t.length+4):=⟨L-(t.length+4),by omega⟩
 have q (k:Nat) (hk:k≤3):=mO (L:=K+(t.length+4)) (N:=N) (σ:=σ) (K:=K) ht (t.length+4) (a+k) (Nat.le_add_left _ _) (Nat.add_le_add (Nat.le_of_lt ha) hk)
 cases q1:decide ((t.take (a+2)).drop (a+1)=[94]) with
 | true =>
  cases q2:decide ((t.take (a+3)).drop (a+2)=[93]) with
  | true =>
   obtain ⟨c,g1,g2,g3⟩:=q 3 (by decide)
   have g3:bc (bO (K+(t.length+4)) N) (bN (K+(t.length+4)) N) (bM (K+(t.length+4)) N) (K+(t.length+4)) [(aD,some (.str t)),(bv,some (.int ((a:Int)+1+1+1)))] σ=some (.int c,σ):=g3
   exact ⟨c,Nat.le_trans (Nat.succ_le_succ (Nat.le_add_right _ _)) g1,g2,by refine ar (iJ ..) ?_ ?_ <;> fail "go"⟩
  | false =>
   obtain ⟨c,g1,g2,g3⟩:=q 2 (by decide)
   have g3:bc (bO (K+(t.length+4)) N) (bN (K+(t.length+4)) N) (bM (K+(t.length+4)) N) (K+(t.length+4)) [(aD,some (.str t)),(bv,some (.int ((a:Int)+1+1)))] σ=some (.int c,σ):=g3
   exact ⟨c,Nat.le_trans (Nat.succ_le_succ (Nat.le_add_right _ _)) g1,g2,by refine ar (iJ ..) ?_ ?_ <;> fail "go"⟩
 | false =>
  cases q2:decide ((t.take (a+2)).drop (a+1)=[93]) with
  | true =>
   obtain ⟨c,g1,g2,g3⟩:=q 2 (by decide)
   have g3:bc (bO (K+(t.length+4)) N) (bN (K+(t.length+4)) N) (bM (K+(t.length+4)) N) (K+(t.length+4)) [(aD,some (.str t)),(bv,some (.int ((a:Int)+1+1)))] σ=some (.int c,σ):=g3
   exact ⟨c,Nat.le_trans (Nat.succ_le_succ (Nat.le_add_right _ _)) g1,g2,by refine ar (iJ ..) ?_ ?_ <;> fail "go"⟩
  | false =>
   obtain ⟨c,g1,g2,g3⟩:=q 1 (by decide)
   have g3:bc (bO (K+(t.length+4)) N) (bN (K+(t.length+4)) N) (bM (K+(t.length+4)) N) (K+(t.length+4)) [(aD,some (.str t)),(bv,some (.int ((a:Int)+1)))] σ=some (.int c,σ):=g3
   exact ⟨c,g1,g2,by refine ar (iJ ..) ?_ ?_ <;> fail "go"⟩
theorem Bn (a b:Nat) (h:a≤b):(t.drop b).count 40≤(t.drop a).count 40:=by
 rw [show b=a+(b-a) by omega,← List.drop_drop]
 exact (List.drop_sublist _ _).count_le 40
noncomputable def uZ (L N:Nat) (t:List Nat) (f a:Int) (K:Nat):ah→Option (PV × ah):=bc (ct L N) (cw L N) (cu L N) K [(aD,some (.str t)),(b_,some (.int f)),(bv,some (.int a))]
theorem Ap {a K c b f:Nat} (ht:t.length≤99000) (h:t[a]?=some c) (hb:aa (af L) (N+1) ic [.str t,.int a] σ=some (.int b,σ)) (hb1:a<b) (hb2:b≤t.length+3)
  (ih:∀ f' a':Nat,a<a'→a'≤t.length+4→∃ q:Nat,q≤f'+(t.drop a').count 40∧uZ L (N+1) t f' a' K σ=some (.int q,σ)) :
  ∃ q:Nat,q≤f+(t.drop a).count 40∧uZ L (N+1) t f a (K+1) σ=some (.int q,σ):=by
 have hlt:a<t.length:=(List.getElem?_eq_some_iff.mp h).1
 have hl:=dE (w:=t) (aO ht (by decide)) (τ:=σ)
 have q:decide ((a:Int)<t.length)=true:=decide_eq_true (Int.ofNat_lt.mpr hlt)
 have hi:=dK (τ:=σ) (Nat.le_trans (Nat.le_trans (Nat.le_of_lt hlt) ht) (by decide)) h
 have hd:∀ {q a'},a≤a'→q≤f+(t.drop a').count 40→q≤f+(t.drop a).count 40:=fun h h'=>Nat.le_trans h' (Nat.add_le_add_left (Bn _ _ h) _)
 obtain ⟨x,x1,x2⟩:=ih f (a+1) (Nat.lt_succ_self _) (Nat.le_trans hlt (Nat.le_add_right _ _))
 have x1:=hd (Nat.le_succ _) x1
 have x2:bc (ct L (N+1)) (cw L (N+1)) (cu L (N+1)) K [(aD,some (.str t)),(b_,some (.int f)),(bv,some (.int ((a:Int)+1)))] σ=some (.int x,σ):=x2
 cases q1:decide ([c]=[92]) with
 | true =>
  obtain ⟨y,y1,y2⟩:=ih f (a+2) (Nat.lt_add_of_pos_right (by decide)) (Nat.add_le_add (Nat.le_of_lt hlt) (by decide))
  have y2:bc (ct L (N+1)) (cw L (N+1)) (cu L (N+1)) K [(aD,some (.str t)),(b_,some (.int f)),(bv,some (.int ((a:Int)+1+1)))] σ=some (.int y,σ):=y2
  exact ⟨y,hd (Nat.le_add_right _ _) y1,by unfold uZ; refine ar (bp (cI ..) (cH ..) (cG ..)) ?_ ?_ <;> fail "go"⟩
 | false =>
 cases q2:decide ([c]=[91]) with
 | true =>
  obtain ⟨y,y1,y2⟩:=ih f (b+1) (Nat.lt_succ_of_lt hb1) (Nat.succ_le_succ hb2)
  have y2:bc (ct L (N+1)) (cw L (N+1)) (cu L (N+1)) K [(aD,some (.str t)),(b_,some (.int f)),(bv,some (.int ((b:Int)+1)))] σ=some (.int y,σ):=y2
  exact ⟨y,hd (Nat.le_succ_of_le (Nat.le_of_lt hb1)) y1,by unfold uZ; refine ar (bp (cI ..) (cH ..) (cG ..)) ?_ ?_ <;> fail "go"⟩
 | false =>
 cases q3:decide ([c]=[40]) with
 | false=>exact ⟨x,x1,by unfold uZ; refine ar (bp (cI ..) (cH ..) (cG ..)) ?_ ?_ <;> fail "go"⟩
 | true =>
  have s1:aS (.str t) (.int ((a:Int)+1)) (.int ((a:Int)+4)) σ=some (.str ((t.take (a+4)).drop (a+1)),σ):=eR (aO ht (by decide)) (dg (a+1) (by omega)) (dg (a+4) (by omega))
  obtain ⟨bo,ho⟩:=DU (L:=L) (N:=N) (σ:=σ) (s:=(t.take (a+4)).drop (a+1)) (aO (m:=99000) (by rw [List.length_drop,List.length_take]; exact Nat.le_trans (Nat.sub_le _ _) (Nat.le_trans (Nat.min_le_right _ _) ht)) (by decide))
  cases bo with
  | false=>exact ⟨x,x1,by unfold uZ; refine ar (bp (cI ..) (cH ..) (cG ..)) ?_ ?_ <;> fail "go"⟩
  | true =>
   obtain ⟨y,y1,y2⟩:=ih (f+1) (a+1) (Nat.lt_succ_self _) (Nat.le_trans hlt (Nat.le_add_right _ _))
   have hc:f+1+(t.drop (a+1)).count 40≤f+(t.drop a).count 40:=by
    have e:t[a]=40:=(List.cons.inj (of_decide_eq_true q3)).1 ▸ (List.getElem?_eq_some_iff.mp h).2
    rw [List.drop_eq_getElem_cons hlt,e,List.count_cons_self,Nat.add_assoc,Nat.add_comm 1]; exact Nat.le_refl _
   have y2:bc (ct L (N+1)) (cw L (N+1)) (cu L (N+1)) K [(aD,some (.str t)),(b_,some (.int ((f:Int)+1))),(bv,some (.int ((a:Int)+1)))] σ=some (.int y,σ):=y2
   exact ⟨y,Nat.le_trans y1 hc,by unfold uZ; refine ar (bp (cI ..) (cH ..) (cG ..)) ?_ ?_ <;> fail "go"⟩
theorem BD {a f:Int} {K:Nat} (ht:t.length≤99000) (q:decide (a<t.length)=false):uZ L (N+1) t f a (K+1) σ=some (.int f,σ):=by
 have hl:=dE (w:=t) (aO ht (by decide)) (τ:=σ)
 unfold uZ
 refine ar (bp (cI ..) (cH ..) (cG ..)) ?_ ?_ <;> fail "go"
theorem rV (hL:100020≤L) (ht:t.length≤99000) {K:Nat}:∀ (k a f:Nat),t.length+5≤a+k→a≤t.length+4→∃ q:Nat,q≤f+(t.drop a).count 40∧uZ L (N+1) t f a (K+k) σ=some (.int q,σ)
 | 0,a,_,h,h'=>absurd (Nat.le_trans h h') (Nat.not_succ_le_self _)
 | k+1,a,f,h,h'=>by
  by_cases hlt:a<t.length
  ·obtain ⟨b,b1,b2,b3⟩:=Eh (N:=N) (σ:=σ) hL ht hlt
   exact Ap ht (List.getElem?_eq_getElem hlt) b3 b1 b2 fun f' a' h1 h2=>rV hL ht k a' f' (by omega) h2
  ·exact ⟨f,Nat.le_add_right _ _,BD ht (decide_eq_false fun h=>hlt (Int.ofNat_lt.mp h))⟩
theorem D6 (hL:100020≤L) (ht:t.length≤99000):∃ q:Nat,q≤t.count 40∧aa (af L) (N+2) g9 [.str t] σ=some (.int q,σ):=by
 obtain ⟨K,rfl⟩:∃ K,L=K+(t.length+5):=⟨L-(t.length+5),by omega⟩
 obtain ⟨q,q1,q2⟩:=rV (N:=N) (σ:=σ) (K:=K) hL ht (t.length+5) 0 0 (Nat.le_add_left _ _) (Nat.zero_le _)
 rw [Nat.zero_add] at q1
 refine ⟨q,q1,?_⟩
 have q2:bc (ct (K+(t.length+5)) (N+1)) (cw (K+(t.length+5)) (N+1)) (cu (K+(t.length+5)) (N+1)) (K+(t.length+5)) [(aD,some (.str t)),(b_,some (.int 0)),(bv,some (.int 0))] σ=some (.int q,σ):=q2
 refine ar (sq ..) ?_ ?_ <;> fail "go"
end
theorem En:∀ i,i<20→(gE i).sp.count 40=0:=by decide
theorem y9:∀ i,i<7→(cQ i).count 40=0:=by decide
theorem Be:∀ i,i<7→(au i).mark.count 40=0:=by decide
theorem DE (n:Nd):(∀ d,ld d n→(bA n).count 40≤eG n+eO n)∧(∀ d,okL d n→(bA n).count 40≤eG n+eO n) :=
 Nd.ind (P:=fun _ n=>(bA n).count 40≤eG n+eO n) (Q:=fun _ n=>(bA n).count 40≤eG n+eO n)
  (fun _ i h=>Nat.le_of_eq (En i h)) (fun _ i h=>Nat.le_of_eq (y9 i h)) (fun _ _ _ _ h=>h)
  (fun _ x y _ _ _ _ h1 h2=>by
   show ([40,63,58]++(bA x++124::bA y)++[41]).count 40≤eG x+eG y+1+(eO x+eO y)
   rw [List.count_append,List.count_append,List.count_append]
   show 1+(_+((bA y).count 40+0))+0≤_
   omega)
  (fun _ n c _ hc h=>by
   refine Nat.le_trans (Nat.le_of_eq (List.count_append.trans (congrArg (_+·) (Be c hc)))) (cn (P:=fun l:List Nat=>l.count 40≤eG n+eO n+1) (fun Z=>Nat.le_succ_of_le h) fun Z=>?_)
   rw [List.count_append,List.count_append,Nat.add_comm ([40,63,58].count 40)]
   exact Nat.succ_le_succ h)
  (fun Z=>Nat.zero_le _)
  (fun _ x y _ _ h1 h2=>by
   refine Nat.le_trans (Nat.le_of_eq List.count_append) (Nat.le_trans (Nat.add_le_add h1 h2) ?_)
   show _≤eG x+eG y+(eO x+eO y)
   omega) n
theorem d6 {σ r:ah} {c c':dl} {a:Str} {w:PV} {L:Nat} (e:Ki (af L) a w c=some c'):am (af L) (.loc σ.length) a w (σ++c::r)=some ((),σ++c'::r):=(Ci (bt _ _ _) e).trans (congrArg (fun x=>some ((),x)) (nU _ _ _ _))
theorem pO {σ r:ah} {c d:dl}:bT d (σ++c::r)=some (.loc (σ.length+1+r.length),σ++c::(r++[d])):=by
 show some (PV.loc (σ++c::r).length,σ++c::r++[d])=_
 rw [List.length_append,List.length_cons,List.append_assoc]
 exact congrArg (fun n=>some (PV.loc n,σ++c::(r++[d]))) (by omega)
end
local macro_rules | `(tactic| fail "ins")=>`(tactic| first | ((with_reducible refine d6 (c':=?cc) ?ee); (case ee=>exact rfl)) | with_reducible exact pO)
section
section
variable {σ r:ah} {L N:Nat} {c c':dl} {a:Str} {w:PV}
theorem uC {C:Str} {ci:gN} {vs:List PV} {τ:ah} (hc:(af L).clss C=some ci) (hi:aa (af L) N (.fn ci.init) (.loc σ.length::vs) (σ++[.inst C []])=some (.none,τ)):aa (af L) (N+1) (.cls C) vs σ=some (.loc σ.length,τ):=by
 show opt ((af L).clss C) _ σ=_
 rw [hc]
 show bnd (aa (af L) N (.fn ci.init) (.loc σ.length::vs)) (fun r=>H1 (.loc σ.length) r) (σ++[.inst C []])=_
 rw [gO,hi]; rfl
theorem p7 {B:PV→cP→Kn→Kn→Kn→Mine.M PV} {K:Kn} {n i:Nat} {l:List PV} {ρ:cP} (h:σ[n]?=some (.lst l)) (e:l[i]?=none):cJ B K (N+1) (.lst n i) ρ σ=K ρ σ:=by
 rw [vG,gO,zv,dC,h,uB,GY,uv,e]
theorem Ia {t:List Nat} {tot:Int}:aa (af L) (N+1) (.fn (fk 53)) [.loc σ.length,.str t,.int tot] (σ++[.inst gn []])=some (.none,SP σ [] t tot 0 [.dct [],.lst []]):=by
 refine ar (oq ..) ?_ ?_ <;> fail "go"
end
section
variable {σ:ah} {M N:Nat} {fi fm fs:Bool}
theorem Dj (hL:100020≤M+8) (l:Nd) (d:Nat) (hl:okL d l) (hd:d<40) (hu:eG l+eO l≤100) (hs:(bA l).length≤90000) (k:Nat) :
  ∃ (q:Int) (vs:List PV) (τ:ah),PI fi fm fs (σ.length+5) τ l vs ∧
   aa (af (M+8)) (k+5*d+10+3) gv [.str (bA l),.str (aX fi fm fs)] σ
   =some (.tup [mu (σ.length+4),.int 0,.loc (σ.length+1)],SP σ (ra (bA l) []) [] q 0 (.dct []::.lst []::.lst [mu (σ.length+4)]::.lst vs::τ)):=by
 obtain ⟨q,hq,e0⟩:=D6 (N:=k+5*d+10) (σ:=σ) hL (Nat.le_trans hs (by decide))
 have hc:=(DE l).2 d hl
 have hf:Fit [] (bA l++[]):=by show 0+(bA l++[]).length≤_; rw [List.append_nil]; omega
 obtain ⟨vs,τ,p,e1⟩:=nS (tot:=(q:Int)) (rp:=[]) (suf:=[]) (rest:=[.dct [],.lst [],.lst []]) (Nat.le_trans (by decide) hL) (A9 (fi:=fi) (fm:=fm) (fs:=fs) (σ:=σ) (tot:=(q:Int)) (Nat.le_trans (by decide) hL) (by omega) d l hl) (.inr hl) k 0 (by omega) hf ⟨(fun _ _ h=>nomatch h),rfl⟩ fun Z=>rfl
 have hf2:Fit (ra (bA l) []) []:=hf.app
 rw [List.append_nil] at e1 hf
 refine ⟨q,vs,τ,p,?_⟩
 have e2:aa (af (M+8)) (k+5*d+10+2) (.cls gn) [.str (bA l),.int q] σ=some (.loc σ.length,SP σ [] (bA l) q 0 [.dct [],.lst []]):=uC (ci:=mI) rfl Ia
 have e3:aa (af (M+8)) (k+5*d+10+2) cp [.loc σ.length,.str (aX fi fm fs)] (SP σ [] (bA l) q 0 [.dct [],.lst []])=some (mu (σ.length+4),SP σ (ra (bA l) []) [] q 0 (.dct []::.lst []::.lst [mu (σ.length+4)]::.lst vs::τ)) :=
  Bl (r1:=[.dct [],.lst []]) (yh (r1:=[.dct [],.lst []]) (acc:=[]) e1 hf2 rfl rfl (.inl ⟨rfl,rfl⟩))
 have hc:compLoop (fun w7=>Tx.run ((.bnd (.bnd (.b (aj .In w7 (.str (aX fi fm fs)))) fun t10=>.br t10 (.ret true) (.ret false)) fun c9=>.br c9 (.ret (some w7)) (.ret none)))) (M+8) (.items [.str [105],.str [109],.str [115],.str [120]]) (SP σ [] (bA l) q 0 [.dct [],.lst []])=some (wn fi fm fs,SP σ [] (bA l) q 0 [.dct [],.lst []]):=by
  cases fi <;> cases fm <;> cases fs <;> rfl
 have hi:ce cY (SP σ [] (bA l) q 0 [.dct [],.lst []])=some (.items [.str [105],.str [109],.str [115],.str [120]],SP σ [] (bA l) q 0 [.dct [],.lst []]):=rfl
 have hz:=tL (fi:=fi) (fm:=fm) (fs:=fs) (τ:=SP σ [] (bA l) q 0 [.dct [],.lst []])
 have hj:=q9 (fi:=fi) (fm:=fm) (fs:=fs) (c:=aa (af (M+8)) (k+5*d+10+2)) (τ:=SP σ [] (bA l) q 0 [.dct [],.lst []])
 generalize hF:SP σ (ra (bA l) []) [] q 0 (.dct []::.lst []::.lst [mu (σ.length+4)]::.lst vs::τ)=F at e3 ⊢
 have a1:aq (af (M+8)) (.loc σ.length) ba F=some (.int (bA l).length,F):=by
  rw [← hF]
  refine SP_at.trans ?_
  rw [m9]; rfl
 have hlen:=dE (w:=bA l) (τ:=F) (aO hs (by decide))
 have ql:decide (((bA l).length:Int)<(bA l).length)=false:=decide_eq_false (Int.lt_irrefl _)
 have a2:aq (af (M+8)) (.loc σ.length) lz F=some (.loc (σ.length+2),F):=hF ▸ DO
 have a3:aq (af (M+8)) (.loc σ.length) bx F=some (.int 0,F):=hF ▸ EB
 have a4:aq (af (M+8)) (.loc σ.length) iL F=some (.loc (σ.length+1),F):=hF ▸ Hd
 have hg:F[σ.length+2]?=some (.lst []):=hF ▸ o9 (r1:=[.dct []])
 have a5:ce (.loc (σ.length+2)) F=some (.lst (σ.length+2) 0,F):=by
  rw [z8,dC,hg]; rfl
 have a6:∀ ρ,cJ (hY (M+8) (k+5*d+10+2)) (dQ (M+8) (k+5*d+10+2)) (M+8) (.lst (σ.length+2) 0) ρ F=dQ (M+8) (k+5*d+10+2) ρ F:=fun ρ=>p7 hg rfl
 have a6:=a6 [(aD,some (.str (bA l))),(aw,some (.str (aX fi fm fs))),(aK,some (.loc σ.length)),(aJ,some (mu (σ.length+4))),(jD,none),(bv,none)]
 have a7:dQ (M+8) (k+5*d+10+2) [(aD,some (.str (bA l))),(aw,some (.str (aX fi fm fs))),(aK,some (.loc σ.length)),(aJ,some (mu (σ.length+4))),(jD,none),(bv,none)] F=some (.tup [mu (σ.length+4),.int 0,.loc (σ.length+1)],F):=by
  refine ar (mR ..) ?_ ?_ <;> fail "go"
 rw [a7] at a6
 refine ar (qV ..) ?_ ?_ <;> fail "go"
end
end
section
inductive lf where
 | test (i:Nat)
 | run (i c:Nat)
 | place (i:Nat)
 | split (a b:Nat)
 | jump (t:Nat)
 | zero (k p:Nat)
 | loop (k p c ag bh:Nat)
 | again (k p t:Nat)
 | fin
noncomputable def cg:Nd→Nat
 | .one _=>1
 | .place _=>1
 | .row l=>cg l
 | .branches a b=>cg a+cg b+2
 | .rounds n _=>match n with
  | .one _=>1
  | n=>cg n+4
 | .nil=>0
 | .cons h t=>cg h+cg t
noncomputable def cR:Nd→Nat
 | .row l=>cR l
 | .branches a b=>cR a+cR b
 | .rounds n _=>match n with
  | .one _=>0
  | n=>cR n+2
 | .cons h t=>cR h+cR t
 | _=>0
noncomputable def code:Nd→Nat→Nat→List lf
 | .one i,_,_=>[.test i]
 | .place i,_,_=>[.place i]
 | .row l,b,r=>code l b r
 | .branches x y,b,r=>.split (b+1) (b+cg x+2)::(code x (b+1) r++.jump (b+2+cg x+cg y)::code y (b+cg x+2) (r+cR x))
 | .rounds n c,b,r=>match n with
  | .one i=>[.run i c]
  | n=>.zero r (r+1)::.loop r (r+1) c (b+2) (b+4+cg n)::.again r (r+1) (b+3)::(code n (b+3) (r+2)++[.jump (b+1)])
 | .nil,_,_=>[]
 | .cons h t,b,r=>code h b r++code t (b+cg h) (r+cR h)
theorem dB:∀ (n:Nd) (b r:Nat),(code n b r).length=cg n
 | .one _,_,_=>rfl
 | .place _,_,_=>rfl
 | .row l,_,_=>dB l _ _
 | .branches x y,_,_=>by
  show (code x _ _++_::code y _ _).length+1=_
  rw [List.length_append,List.length_cons,dB x,dB y]; rfl
 | .rounds (.one _) _,_,_=>rfl
 | .rounds (.place _) _,_,_=>rfl
 | .rounds (.row l) _,_,_=>congrArg (·+3) ((List.length_append ..).trans (congrArg (·+1) (dB (.row l) _ _)))
 | .rounds (.branches x y) _,_,_=>congrArg (·+3) ((List.length_append ..).trans (congrArg (·+1) (dB (.branches x y) _ _)))
 | .rounds (.rounds n c) _,_,_=>congrArg (·+3) ((List.length_append ..).trans (congrArg (·+1) (dB (.rounds n c) _ _)))
 | .rounds .nil _,_,_=>rfl
 | .rounds (.cons x y) _,_,_=>congrArg (·+3) ((List.length_append ..).trans (congrArg (·+1) (dB (.cons x y) _ _)))
 | .nil,_,_=>rfl
 | .cons h t,_,_=>by
  show (code h _ _++code t _ _).length=_
  rw [List.length_append,dB h,dB t]; rfl
noncomputable def lq (fi fs:Bool) (σ:ah) (i:Nat) (v:PV):Prop:=∃ k,v=xt i fi fs k∧∀ l,rq i=[.lst l]→σ[k]?=some (.lst l)
noncomputable def Al (fi fm fs:Bool) (σ:ah) (v:PV):lf→Prop
 | .test i=>lq fi fs σ i v
 | .run i c=>∃ w,lq fi fs σ i w∧v=.tup [.str [114,117,110],w,.int (au c).least,.int (au c).most,.bool false]
 | .place i=>v=qP i fm
 | .split a b=>v=.tup [.str [115,112,108,105,116],.int a,.int b]
 | .jump t=>v=.tup [.str [106,117,109,112],.int t]
 | .zero k p=>v=.tup [.str [122,101,114,111],.int k,.int p]
 | .loop k p c ag bh=>v=.tup [.str [108,111,111,112],.int k,.int p,.int (au c).least,.int (au c).most,.bool false,.int ag,.int bh]
 | .again k p t=>v=.tup [.str [97,103,97,105,110],.int k,.int p,.int t]
 | .fin=>v=.tup [.str [101,110,100]]
inductive dX (fi fm fs:Bool) (σ:ah):List PV→List lf→Prop
 | nil:dX fi fm fs σ [] []
 | cons {v vs r rs}:Al fi fm fs σ v r→dX fi fm fs σ vs rs→dX fi fm fs σ (v::vs) (r::rs)
theorem dX.append {fi fm fs σ} {a b:List PV} {x y:List lf} (h:dX fi fm fs σ a x) (h':dX fi fm fs σ b y):dX fi fm fs σ (a++b) (x++y):=by
 induction h with
 | nil=>exact h'
 | cons h _ ih=>exact .cons h ih
theorem dX.len {fi fm fs σ} {a:List PV} {x:List lf} (h:dX fi fm fs σ a x):a.length=x.length:=by
 induction h with
 | nil=>rfl
 | cons _ _ ih=>exact congrArg (·+1) ih
noncomputable def SR (σ:ah) (rows:List PV) (reg:Nat) (rest:ah):ah:=σ++.inst dz [(cA,.loc (σ.length+1)),(aI,.int reg)]::.lst rows::rest
noncomputable def Sm (rows:List PV) (m:Nat):Prop:=rows.length+m≤100000
theorem Sm.ap {rows:List PV} {m:Nat} {c:List PV} {k:Nat} (h:Sm rows (k+m)) (e:c.length=k):Sm (rows++c) m:=by
 show (rows++c).length+m≤_
 rw [List.length_append,e,Nat.add_assoc]; exact h
theorem Sm.one {rows:List PV} {m:Nat} {v:PV} (h:Sm rows (m+1)):Sm (rows++[v]) m:=Sm.ap (k:=1) (Nat.add_comm m 1 ▸ h) rfl
theorem Sm.ble {rows:List PV} {m:Nat} (h:Sm rows m):Nat.ble rows.length lim=true:=aO (Nat.le_trans (Nat.le_add_right _ _) h) (by decide)
theorem Sm.le {rows:List PV} {m:Nat} (h:Sm rows m):rows.length≤100000:=Nat.le_trans (Nat.le_add_right _ _) h
theorem wy {τ:ah} {k:Nat} {l:List PV} (h:τ[k]?=some (.lst l)) (hl:Nat.ble l.length lim=true):bU [.loc k] τ=some (.int l.length,τ):=by
 rw [C1,dC,h]
 show guard (Nat.ble l.length lim) _ τ=_
 rw [hl]; rfl
theorem yr {τ:ah} {k:Nat} {l:List PV} (h:τ[k]?=some (.lst l)) (hl:Nat.ble l.length lim=true):ce (.loc k) τ=some (.lst k 0,τ):=by
 rw [z8,dC,h]
 show guard (Nat.ble l.length lim) _ τ=_
 rw [hl]; rfl
theorem EM {τ:ah} {k:Nat} {a b:List PV} {x v:PV} (h:τ[k]?=some (.lst (a++x::b))) (hl:(a++x::b).length≤100000):cb (.loc k) (.int a.length) v τ=some ((),τ.set k (.lst (a++v::b))):=by
 have h1:a.length<(a++x::b).length:=by rw [List.length_append]; exact Nat.lt_add_of_pos_right (Nat.succ_pos _)
 rw [rE,dC,h]
 show guard (ii (a.length:Int) && Nat.blt a.length (a++x::b).length && Nat.ble (a++x::b).length lim) (tD k (.lst ((a++x::b).set a.length v))) τ=_
 rw [qI (Nat.le_trans (Nat.le_of_lt h1) (Nat.le_trans hl (by decide))),show Nat.blt a.length (a++x::b).length=true from Nat.ble_eq_true_of_le h1,aO hl (by decide),nU]; rfl
theorem Lg {γ:Type} (a:List γ) (x y:γ) (r:List γ):(a++x::y::r)[a.length+1]?=some y:=by rw [List.getElem?_append_right (Nat.le_add_right _ 1),Nat.add_sub_cancel_left]; rfl
theorem LW {γ:Type} (a:List γ) (x y z:γ) (r:List γ):(a++x::y::r).set (a.length+1) z=a++x::z::r:=by rw [List.set_append_right (h:=Nat.le_add_right _ 1),Nat.add_sub_cancel_left]; rfl
theorem Jf {γ:Type} (a:List γ) (x y:γ) (r:List γ):a.length+2+r.length=(a++x::y::r).length:=by rw [List.length_append,List.length_cons,List.length_cons]; omega
theorem LT {γ:Type} (a:List γ) (x y z:γ) (r s:List γ):(a++x::y::(r++z::s))[a.length+2+r.length]?=some z:=by
 rw [show a++x::y::(r++z::s)=(a++x::y::r)++z::s by simp,Jf a x y r]; exact bt _ _ _
theorem LL {γ:Type} (a:List γ) (x y z w:γ) (r s:List γ):(a++x::y::(r++z::s)).set (a.length+2+r.length) w=a++x::y::(r++w::s):=by
 rw [show a++x::y::(r++z::s)=(a++x::y::r)++z::s by simp,Jf a x y r,nU]; simp
theorem Kt {B:PV→cP→Kn→Kn→Kn→Mine.M PV} {K:Kn} {N n i:Nat} {l:List PV} {v:PV} {ρ:cP} {σ:ah} (h:σ[n]?=some (.lst l)) (e:l[i]?=some v):cJ B K (N+1) (.lst n i) ρ σ=B v ρ (cJ B K N (.lst n (i+1))) K (cJ B K N (.lst n (i+1))) σ:=by
 rw [vG,gO,zv,dC,h,uB,GY,uv,e]
section
variable {σ:ah} {rows:List PV} {reg:Nat} {rest:ah} {L N:Nat}
theorem yj:(SR σ rows reg rest)[σ.length]?=some (.inst dz [(cA,.loc (σ.length+1)),(aI,.int reg)]):=bt _ _ _
theorem SR_rows:aq (af L) (.loc σ.length) cA (SR σ rows reg rest)=some (.loc (σ.length+1),SR σ rows reg rest):=cz yj rfl
theorem SR_regs:aq (af L) (.loc σ.length) aI (SR σ rows reg rest)=some (.int reg,SR σ rows reg rest):=cz yj rfl
theorem SR_up:am (af L) (.loc σ.length) aI (.int (reg+1)) (SR σ rows reg rest)=some ((),SR σ rows (reg+1) rest):=d6 rfl
theorem pU:(SR σ rows reg rest)[σ.length+1]?=some (.lst rows):=Lg _ _ _ _
theorem Cd {l:List PV}:(SR σ rows reg rest).set (σ.length+1) (.lst l)=SR σ l reg rest:=LW _ _ _ _ _
theorem mV {k:Nat} {c:dl} (h:σ[k]?=some c):(SR σ rows reg rest)[k]?=some c:=by
 unfold SR; rw [List.getElem?_append_left (List.getElem?_eq_some_iff.mp h).1]; exact h
theorem SR_addE:bw (af L) (.loc σ.length) ey (SR σ rows reg rest)=some (.fn (fk 44),SR σ rows reg rest):=BQ yj rfl
theorem SR_freshE:bw (af L) (.loc σ.length) jr (SR σ rows reg rest)=some (.fn (fk 45),SR σ rows reg rest):=BQ yj rfl
theorem Iq {a b:List PV} {x v:PV} {k:Int} (e:k=a.length) (hl:(a++x::b).length≤100000):cb (.loc (σ.length+1)) (.int k) v (SR σ (a++x::b) reg rest)=some ((),SR σ (a++v::b) reg rest) :=
 e ▸ (EM pU hl).trans (congrArg (fun x=>some ((),x)) Cd)
theorem wK {m:Nat} (h:Sm rows m):bU [.loc (σ.length+1)] (SR σ rows reg rest)=some (.int rows.length,SR σ rows reg rest):=wy pU h.ble
theorem Kp {v:PV} {c m} (h:Sm rows m):aW c (.loc (σ.length+1)) aY [v] .lst (SR σ rows reg rest)=some (.none,SR σ (rows++[v]) reg rest):=(tc pU h.ble).trans (congrArg (fun x=>some (PV.none,x)) Cd)
theorem SR_appE:bw (af L) (.loc (σ.length+1)) aY (SR σ rows reg rest)=some (.lst,SR σ rows reg rest):=nY pU rfl
theorem FK {c:dl}:bT c (SR σ rows reg rest)=some (.loc (σ.length+2+rest.length),SR σ rows reg (rest++[c])):=by
 have:=pO (σ:=σ) (c:=.inst dz [(cA,.loc (σ.length+1)),(aI,.int reg)]) (r:=.lst rows::rest) (d:=c)
 rw [List.length_cons,show σ.length+1+(rest.length+1)=σ.length+2+rest.length by omega] at this
 exact this
theorem rm {r1 r2:ah} {c:dl}:(SR σ rows reg (r1++c::r2))[σ.length+2+r1.length]?=some c:=LT _ _ _ _ _ _
theorem I4 {r1 r2:ah} {c c':dl}:(SR σ rows reg (r1++c::r2)).set (σ.length+2+r1.length) c'=SR σ rows reg (r1++c'::r2):=LL _ _ _ _ _ _ _
theorem lX {v:PV} {m:Nat} (h:Sm rows (m+1)):aW (aa (af L) (N+1)) (.loc σ.length) ey [v] (.fn (fk 44)) (SR σ rows reg rest)=some (.int rows.length,SR σ (rows++[v]) reg rest):=by
 have h1:=Kp (σ:=σ) (reg:=reg) (rest:=rest) (v:=v) (c:=aa (af L) N) h
 have h2:=wK (σ:=σ) (reg:=reg) (rest:=rest) (h.one (v:=v))
 have e:((rows++[v]).length:Int)-1=rows.length:=by rw [List.length_append]; simp
 have:=ar (σ:=SR σ rows reg rest) (a:=.int ((rows++[v]).length-1)) (σ':=SR σ (rows++[v]) reg rest) (sd L N (.loc σ.length) v) (by fail "go") (by kernel_rfl)
 rw [e] at this
 exact this
theorem zb:aW (aa (af L) (N+1)) (.loc σ.length) jr [] (.fn (fk 45)) (SR σ rows reg rest)=some (.int reg,SR σ rows (reg+1) rest):=by
 have e:(((reg+1:Nat):Int)-1)=reg:=by omega
 have:=ar (σ:=SR σ rows reg rest) (a:=.int ((reg+1:Nat)-1)) (σ':=SR σ rows (reg+1) rest) (pZ L N (.loc σ.length)) (by fail "go") (by kernel_rfl)
 rw [e] at this
 exact this
end
end
section
theorem u4.get {σ:ah} {k:Nat} {l:List PV}:u4 0 σ k l→σ[k]?=some (.lst l)
 | ⟨a,c,e,h⟩=>by rw [e,h,Nat.zero_add]; exact bt _ _ _
theorem GR (n:Nd) (d:Nat) (h:ld d n):mj n=false→1≤cg n :=
 (Nd.ind (P:=fun _ n=>mj n=false→1≤cg n) (Q:=fun Z Z=>True) (fun Z Z Z Z=>Nat.le_refl _) (fun Z Z Z Z=>Nat.le_refl _) (fun _ _ _ _ _ h=>eI h)
  (fun Z Z Z Z Z Z Z Z Z Z=>Nat.le_trans (by decide) (Nat.le_add_left 2 _)) (fun _ n c _ _ _ _=>by cases n <;> exact Nat.succ_le_succ (Nat.zero_le _)) (fun Z=>trivial) (fun Z Z Z Z Z Z Z=>trivial) n).1 d h
theorem Lu {d:Nat} {n:Nd} (h:ld d n∨okL d n) (L:Nat):cg n≤L→∃ K,L=fu n K∧L≤K+cg n:=F7 GR (fun Z=>rfl) (fun Z Z=>rfl) h L
section
variable {fi fm fs:Bool} {σ:ah} {L:Nat}
noncomputable def CU (fi fm fs:Bool) (σ:ah) (L N:Nat) (rows:List PV) (reg:Nat) (rest:ah) (v:PV) (c:List lf) (nr:Nat):Prop :=
 ∃ cv τ,dX fi fm fs σ cv c∧aa (af L) N bY [.loc σ.length,v] (SR σ rows reg rest)=some (.none,SR σ (rows++cv) (reg+nr) (rest++τ))
noncomputable def AN (fi fm fs:Bool) (σ:ah) (L d:Nat) (n:Nd):Prop:=∀ (k:Nat) (rows:List PV) (m reg:Nat) (rest:ah) (v:PV),PI fi fm fs 0 σ n [v]→Sm rows (cg n+m) →
 CU fi fm fs σ L (5*d+(k+4)) rows reg rest v (code n rows.length reg) (cR n)
noncomputable def Ed (L N:Nat) (σ:ah) (xn xw:PV) (kk i:Nat) (o:Option PV) (K:Nat):ah→Option (PV × ah) :=
 cJ (lA L N) (lW L N) K (.lst kk i) [(dD,some (.loc σ.length)),(aJ,some xn),(ue,some xw),(bJ,o),(j1,none)]
noncomputable def AL (fi fm fs:Bool) (σ:ah) (L d:Nat) (n:Nd):Prop:=∀ (k:Nat) (rows:List PV) (m reg:Nat) (rest:ah) (K kk i:Nat) (pa vs pb:List PV) (o:Option PV) (xn xw:PV),σ[kk]?=some (.lst (pa++(vs++pb)))→pa.length=i→PI fi fm fs 0 σ n vs→Sm rows (cg n+m) →
 ∃ cv τ o',dX fi fm fs σ cv (code n rows.length reg) ∧
  Ed L (5*d+(k+4)) σ xn xw kk i o (fu n K) (SR σ rows reg rest)=Ed L (5*d+(k+4)) σ xn xw kk (i+vs.length) o' K (SR σ (rows++cv) (reg+cR n) (rest++τ))
theorem AN.al {d:Nat} {n:Nd} (h:AN fi fm fs σ L d n) (hv:∀ {vs},PI fi fm fs 0 σ n vs→∃ v,vs=[v]) (hf:∀ K,fu n K=K+1):AL fi fm fs σ L d n:=by
 intro k rows m reg rest K kk i pa vs pb o xn xw hk hi hp hs
 obtain ⟨v,rfl⟩:=hv hp
 obtain ⟨cv,τ,h1,h2⟩:=h k rows m reg rest v hp hs
 rw [hf]
 have hg:=mV (rows:=rows) (reg:=reg) (rest:=rest) hk
 have hi:(pa++([v]++pb))[i]?=some v:=hi ▸ bt _ _ _
 refine ⟨cv,τ,some v,h1,?_⟩
 unfold Ed
 refine (Kt hg hi).trans ?_
 refine ig (u:=.v) (sa ..) ?_ ?_ <;> fail "go"
theorem Mq {k:Nat} {τ:ah}:aj .In (.str [115,101,113]) (.tup [(.str [115,105,103,110]),(.str [97,110,121]),(.str [115,101,116]),(.str [97,116]),(.str [98,97,99,107])]) τ=some (false,τ):=rfl
theorem yg (hL:200000≤L) {d d':Nat} {n:Nd} (hn:ld d' n∨okL d' n) (h:AL fi fm fs σ L d n) (k:Nat) (rows:List PV) (m reg:Nat) (rest:ah) (kk:Nat) (vs:List PV) (hk:u4 0 σ kk vs) (hp:PI fi fm fs 0 σ n vs) (hl:vs.length≤cg n) (hs:Sm rows (cg n+m)) :
  CU fi fm fs σ L (5*d+(k+5)) rows reg rest (mu kk) (code n rows.length reg) (cR n):=by
 have hc:cg n≤100000:=Nat.le_trans (Nat.le_trans (Nat.le_add_right _ m) (Nat.le_add_left _ rows.length)) hs
 have hg0:=hk.get
 obtain ⟨K,e,hK⟩:∃ K,L=fu n K∧L≤K+cg n:=Lu hn L (by omega)
 obtain ⟨K,rfl⟩:∃ K',K=K'+1:=⟨K-1,by omega⟩
 obtain ⟨cv,τ,o',h1,h2⟩:=h k rows m reg rest (K+1) kk 0 [] vs [] none (mu kk) (.str [115,101,113]) (by rw [List.append_nil]; exact hg0) rfl hp hs
 rw [← e,Nat.zero_add] at h2
 have hg:=mV (rows:=rows) (reg:=reg) (rest:=rest) hg0
 have hg2:=mV (rows:=rows++cv) (reg:=reg+cR n) (rest:=rest++τ) hg0
 have hend:Ed L (5*d+(k+4)) σ (mu kk) (.str [115,101,113]) kk vs.length o' (K+1) (SR σ (rows++cv) (reg+cR n) (rest++τ))=some (.none,SR σ (rows++cv) (reg+cR n) (rest++τ)):=by
  unfold Ed
  refine (p7 hg2 (List.getElem?_eq_none (Nat.le_refl _))).trans ?_
  refine ar (sJ ..) ?_ ?_ <;> fail "go"
 rw [hend] at h2
 unfold Ed at h2
 have hi:=yr hg (aO (Nat.le_trans hl hc) (by decide))
 refine ⟨cv,τ,h1,?_⟩
 refine ar (iR L (5*d+(k+4)) _ _) ?_ ?_ <;> fail "go"
noncomputable def Nh:List (List Nat):=[[115,105,103,110],[97,110,121],[115,101,116]]
theorem xv (i:Nat) (fi fs:Bool) (k:Nat):∃ tag r,xt i fi fs k=.tup (.str tag::r)∧(tag=[115,105,103,110]∨tag=[97,110,121]∨tag=[115,101,116]):=by
 unfold xt
 generalize F_.getD i (3,0)=p
 obtain ⟨t,c⟩:=p
 exact match t with
 | 0=>⟨_,_,rfl,.inl rfl⟩
 | 1=>⟨_,_,rfl,.inr (.inl rfl)⟩
 | 2=>⟨_,_,rfl,.inr (.inr rfl)⟩
 | 3=>⟨_,_,rfl,.inr (.inr rfl)⟩
 | _+4=>⟨_,_,rfl,.inr (.inr rfl)⟩
theorem yB {tag:List Nat} {tl:List PV} {N m:Nat} {rows:List PV} {reg:Nat} {rest:ah} (hq:∀ τ,aj .In (.str tag) (.tup [(.str [115,105,103,110]),(.str [97,110,121]),(.str [115,101,116]),(.str [97,116]),(.str [98,97,99,107])]) τ=some (true,τ)) (hs:Sm rows (m+1)) :
  aa (af L) (N+2) bY [.loc σ.length,.tup (.str tag::tl)] (SR σ rows reg rest)=some (.none,SR σ (rows++[.tup (.str tag::tl)]) reg rest):=by
 have hq:=hq (SR σ rows reg rest)
 have h1:=SR_addE (σ:=σ) (rows:=rows) (reg:=reg) (rest:=rest) (L:=L)
 have h2:=lX (σ:=σ) (reg:=reg) (rest:=rest) (L:=L) (N:=N) (v:=.tup (.str tag::tl)) hs
 refine ar (iR ..) ?_ ?_ <;> fail "go"
theorem G1 {d:Nat} (i:Nat):AN fi fm fs σ L d (.one i):=by
 intro k rows m reg rest v ⟨kk,e,h⟩ hs
 cases e
 obtain ⟨tag,r,e,ht⟩:=xv i fi fs kk
 refine ⟨[xt i fi fs kk],[],.cons ⟨kk,rfl,fun l hl=>(h l hl).get⟩ .nil,?_⟩
 rw [e,List.append_nil]
 exact yB (N:=5*d+(k+2)) (by rcases ht with rfl | rfl | rfl <;> exact fun Z=>rfl) (m:=m) (Nat.add_comm 1 m ▸ hs)
theorem He {d:Nat} (i:Nat):AN fi fm fs σ L d (.place i):=by
 intro k rows m reg rest v e hs
 cases e
 refine ⟨[qP i fm],[],.cons rfl .nil,?_⟩
 rw [List.append_nil]
 exact yB (N:=5*d+(k+2)) (fun Z=>rfl) (m:=m) (Nat.add_comm 1 m ▸ hs)
end
end
section
@[reducible] noncomputable def rG (a b:Int):PV:=.tup [.str [115,112,108,105,116],.int a,.int b]
@[reducible] noncomputable def jM (t:Int):PV:=.tup [.str [106,117,109,112],.int t]
theorem wP {σ:ah} {a b:List PV} {reg:Nat} {rest:ah} {x v:PV} {k:Nat} (e:k=a.length) (hl:(a++x::b).length≤100000):cb (.loc (σ.length+1)) (.int (k:Int)) v (SR σ (a++x::b) reg rest)=some ((),SR σ (a++v::b) reg rest):=Iq (congrArg Int.ofNat e) hl
theorem Ay {τ:ah} {k:Nat} {l:List PV} {lo hi:PV} {i j:Option Nat} (h:τ[k]?=some (.lst l)) (hl:Nat.ble l.length lim=true) (e:ie lo=some i) (e':ie hi=some j):aS (.loc k) lo hi τ=some (.frz (xr l i j),τ):=by
 rw [Di,e,e']
 show getL k _ τ=_
 rw [dC,h]
 show guard (Nat.ble l.length lim) _ τ=_
 rw [hl]; rfl
theorem lN {τ:ah} {k i:Nat} {l:List PV} {v:PV} (h:τ[k]?=some (.lst l)) (hi:i≤1000000000) (e:l[i]?=some v):ao (.loc k) (.int i) τ=some (v,τ):=by
 rw [GI,qI hi]
 show getL k _ τ=_
 rw [dC,h]
 show opt l[i]? ret τ=_
 rw [e]; rfl
section
variable {fi fm fs:Bool} {σ:ah} {L N:Nat}
theorem I2 {k kx ky:Nat} {rows c1 c2:List PV} {reg r1 r2:Nat} {rest τ1 τ2:ah} {s1:PV} {p:Nat}
  (hp:(rows++rG 0 0::c1).length=p)
  (hq:s1=rG (rows.length+1) ((rows++rG 0 0::(c1++[jM 0])).length:Nat))
  (hk:σ[k]?=some (.lst [mu kx,mu ky]))
  (he1:aa (af (L+2)) (N+1) bY [.loc σ.length,mu kx] (SR σ (rows++[rG 0 0]) reg (rest++[.lst []]))=some (.none,SR σ (rows++rG 0 0::c1) r1 (rest++.lst []::τ1)))
  (he2:aa (af (L+2)) (N+1) bY [.loc σ.length,mu ky] (SR σ (rows++s1::(c1++[jM 0])) r1 (rest++.lst [.int p]::τ1))=some (.none,SR σ (rows++s1::(c1++jM 0::c2)) r2 (rest++.lst [.int p]::τ2)))
  (hs:(rows++s1::(c1++jM 0::c2)).length≤100000) :
  aa (af (L+2)) (N+3) bY [.loc σ.length,Mh k] (SR σ rows reg rest)=some (.none,SR σ (rows++s1::(c1++jM ((rows++s1::(c1++jM 0::c2)).length:Nat)::c2)) r2 (rest++.lst [.int p]::τ2)):=by
 have hl:rows.length+(c1.length+(c2.length+1)+1)≤100000:=by simpa using hs
 have q0:Sm rows 1:=by unfold Sm; omega
 have q1:Sm (rows++rG 0 0::c1) 1:=by unfold Sm; simp; omega
 have q2:Sm (rows++rG 0 0::(c1++[jM 0])) 0:=by unfold Sm; simp; omega
 have a1:=FK (σ:=σ) (rows:=rows) (reg:=reg) (rest:=rest) (c:=.lst [])
 have b1:bU [.loc k] (SR σ rows reg (rest++[.lst []]))=some (.int 2,SR σ rows reg (rest++[.lst []])):=wy (mV hk) rfl
 have b2:aS (.loc k) .none (.int (2-1)) (SR σ rows reg (rest++[.lst []]))=some (.frz [mu kx],SR σ rows reg (rest++[.lst []])):=Ay (mV hk) (i:=none) (j:=some 1) rfl rfl rfl
 have c0:=SR_addE (σ:=σ) (rows:=rows) (reg:=reg) (rest:=rest++[.lst []]) (L:=L+2)
 have c1':=lX (σ:=σ) (reg:=reg) (rest:=rest++[.lst []]) (L:=L+2) (N:=N) (v:=rG 0 0) q0
 have d0:bw (af (L+2)) (.loc (σ.length+2+rest.length)) aY (SR σ (rows++rG 0 0::c1) r1 (rest++.lst []::τ1))=some (.lst,SR σ (rows++rG 0 0::c1) r1 (rest++.lst []::τ1)):=nY rm rfl
 have d1:=SR_addE (σ:=σ) (rows:=rows++rG 0 0::c1) (reg:=r1) (rest:=rest++.lst []::τ1) (L:=L+2)
 have d2:=lX (σ:=σ) (reg:=r1) (rest:=rest++.lst []::τ1) (L:=L+2) (N:=N) (v:=jM 0) q1
 rw [List.append_assoc,List.cons_append,hp] at d2
 have d3:∀ c,aW c (.loc (σ.length+2+rest.length)) aY [.int p] .lst (SR σ (rows++rG 0 0::(c1++[jM 0])) r1 (rest++.lst []::τ1))=some (.none,SR σ (rows++rG 0 0::(c1++[jM 0])) r1 (rest++.lst [.int p]::τ1)):=fun c=>(tc rm rfl).trans (congrArg (fun x=>some (PV.none,x)) I4)
 have d3:=d3 (aa (af (L+2)) (N+1))
 have d4:=wK (σ:=σ) (reg:=r1) (rest:=rest++.lst [.int p]::τ1) q2
 have d5:=wP (σ:=σ) (reg:=r1) (rest:=rest++.lst [.int p]::τ1) (v:=s1) (k:=rows.length) (x:=rG 0 0) (a:=rows) (b:=c1++[jM 0]) rfl q2.le
 rw [hq] at d5 he2 hs ⊢
 generalize ((rows++rG 0 0::(c1++[jM 0])).length:Nat)=w at d4 d5 he2 hs ⊢
 generalize hS:rG ((rows.length:Int)+1) w=s at d5 he2 hs ⊢
 have e5:(rows++s::c1).length=p:=by rw [← hp]; simp
 have f1:=wK (σ:=σ) (reg:=r2) (rest:=rest++.lst [.int p]::τ2) (rows:=rows++s::(c1++jM 0::c2)) (m:=0) hs
 have f2:=wP (σ:=σ) (reg:=r2) (rest:=rest++.lst [.int p]::τ2) (v:=jM ((rows++s::(c1++jM 0::c2)).length:Nat)) (k:=p) (x:=jM 0) (a:=rows++s::c1) (b:=c2) e5.symm (by rw [List.append_assoc]; exact hs)
 rw [List.append_assoc,List.append_assoc,List.cons_append] at f2
 generalize ((rows++s::(c1++jM 0::c2)).length:Nat)=t at f1 f2 ⊢
 have g1:cJ (fW (L+2) (N+1)) (fU (L+2) (N+1)) (L+2) (.lst (σ.length+2+rest.length) 0) [(dD,some (.loc σ.length)),(bH,some (.loc k)),(fV,some (.loc (σ.length+2+rest.length))),(bJ,some (mu kx)),(fL,some (.int rows.length)),(bv,none)] (SR σ (rows++s::(c1++jM 0::c2)) r2 (rest++.lst [.int p]::τ2))=some (.none,SR σ (rows++s::(c1++jM t::c2)) r2 (rest++.lst [.int p]::τ2)):=by
  refine (Kt rm rfl).trans ?_
  have h:=(p7 (N:=L) (B:=fW (L+2) (N+1)) (K:=fU (L+2) (N+1)) (ρ:=[(dD,some (.loc σ.length)),(bH,some (.loc k)),(fV,some (.loc (σ.length+2+rest.length))),(bJ,some (mu kx)),(fL,some (.int rows.length)),(bv,some (.int p))]) (i:=1) (rm (σ:=σ) (rows:=rows++s::(c1++jM t::c2)) (reg:=r2) (r1:=rest) (r2:=τ2) (c:=.lst [.int p])) rfl).trans (ar (a:=.none) (σ':=SR σ (rows++s::(c1++jM t::c2)) r2 (rest++.lst [.int p]::τ2)) (n9 ..) (by fail "go") (by kernel_rfl))
  refine ar (oh ..) ?_ ?_ <;> fail "go"
 have g2:ei (L+2) (N+1) [(dD,some (.loc σ.length)),(bH,some (.loc k)),(fV,some (.loc (σ.length+2+rest.length))),(bJ,some (mu kx)),(fL,some (.int rows.length)),(bv,none)] (SR σ (rows++s::(c1++[jM 0])) r1 (rest++.lst [.int p]::τ1))=some (.none,SR σ (rows++s::(c1++jM t::c2)) r2 (rest++.lst [.int p]::τ2)):=by
  have h1:bU [.loc k] (SR σ (rows++s::(c1++[jM 0])) r1 (rest++.lst [.int p]::τ1))=some (.int 2,SR σ (rows++s::(c1++[jM 0])) r1 (rest++.lst [.int p]::τ1)):=wy (mV hk) rfl
  have h2:ao (.loc k) (.int (2-1)) (SR σ (rows++s::(c1++[jM 0])) r1 (rest++.lst [.int p]::τ1))=some (mu ky,SR σ (rows++s::(c1++[jM 0])) r1 (rest++.lst [.int p]::τ1)):=lN (i:=1) (mV hk) (by decide) rfl
  have h3:ce (.loc (σ.length+2+rest.length)) (SR σ (rows++s::(c1++jM 0::c2)) r2 (rest++.lst [.int p]::τ2))=some (.lst (σ.length+2+rest.length) 0,SR σ (rows++s::(c1++jM 0::c2)) r2 (rest++.lst [.int p]::τ2)):=yr rm rfl
  refine ar (n7 ..) ?_ ?_ <;> fail "go"
 have g3:cJ (fY (L+2) (N+1)) (ei (L+2) (N+1)) (L+2) (.items [mu kx]) [(dD,some (.loc σ.length)),(bH,some (.loc k)),(fV,some (.loc (σ.length+2+rest.length))),(bJ,none),(fL,none),(bv,none)] (SR σ rows reg (rest++[.lst []]))=some (.none,SR σ (rows++s::(c1++jM t::c2)) r2 (rest++.lst [.int p]::τ2)):=by
  have h1:=(congrFun (ly (B:=fY (L+2) (N+1)) (K:=ei (L+2) (N+1)) (N:=L) (ρ:=[(dD,some (.loc σ.length)),(bH,some (.loc k)),(fV,some (.loc (σ.length+2+rest.length))),(bJ,some (mu kx)),(fL,some (.int rows.length)),(bv,none)])) _).trans g2
  refine (congrFun vf _).trans ?_
  refine ar (nZ ..) ?_ ?_ <;> fail "go"
 clear g1 g2
 have g4:aa (af (L+2)) (N+2) hZ [.loc σ.length,.loc k] (SR σ rows reg rest)=some (.none,SR σ (rows++s::(c1++jM t::c2)) r2 (rest++.lst [.int p]::τ2)):=by
  refine ar (sr ..) ?_ ?_ <;> fail "go"
 refine ar (iR ..) ?_ ?_ <;> fail "go"
end
end
section
theorem HC (n:Nd) (c:Nat):1≤cg (.rounds n c):=by cases n <;> exact Nat.succ_le_succ (Nat.zero_le _)
theorem CJ {fi fm fs b τ} {n:Nd}:∀ {vs:List PV},PI fi fm fs b τ n vs→vs.length≤cg n:=by
 induction n with
 | one i=>exact fun h=>h.elim fun k h=>h.1 ▸ Nat.le_refl 1
 | place i=>exact fun h=>(show _=[_] from h) ▸ Nat.le_refl 1
 | row l ih=>exact ih
 | branches x y _ _=>intro vs h; obtain ⟨_,_,_,_,_,rfl,_⟩:=h; exact Nat.succ_le_succ (Nat.zero_le _)
 | rounds n c _=>exact fun h=>h.elim fun v h=>h.1 ▸ HC n c
 | nil=>exact fun h=>(show _=[] from h) ▸ Nat.le_refl 0
 | cons x y hx hy=>intro vs h; obtain ⟨a,c,rfl,h⟩:=h; exact Nat.le_trans (Nat.le_of_eq List.length_append) (Nat.add_le_add (hx h.1) (hy h.2))
theorem J5 {a b:Int} {x y:Nat} (h:a=x) (h':b=y):rG a b=.tup [.str [115,112,108,105,116],.int x,.int y]:=by rw [h,h']
theorem FO {a:Int} {x:Nat} (h:a=x):jM a=.tup [.str [106,117,109,112],.int x]:=by rw [h]
section
variable {fi fm fs:Bool} {σ:ah} {L:Nat}
theorem dX.at {cv:List PV} {n:Nd} {b b' r:Nat} (h:dX fi fm fs σ cv (code n b r)) (e:b=b'):dX fi fm fs σ cv (code n b' r):=e ▸ h
theorem dX.cl {cv:List PV} {n:Nd} {b r:Nat} (h:dX fi fm fs σ cv (code n b r)):cv.length=cg n:=h.len.trans (dB n b r)
theorem zZ (hL:200000≤L) {d d':Nat} {x y:Nd} (hx:ld d' x) (hy:ld d' y) (ax:AL fi fm fs σ L d x) (ay:AL fi fm fs σ L d y):AN fi fm fs σ L (d+1) (.branches x y):=by
 intro k rows m reg rest v hv hs
 obtain ⟨kk,kx,ky,vx,vy,e,h1,h2,h3,h4,h5⟩:=hv
 cases e
 have hs:rows.length+(cg x+cg y+2+m)≤100000:=hs
 obtain ⟨L,rfl⟩:∃ L',L=L'+2:=⟨L-2,by omega⟩
 obtain ⟨c1,τ1,v1,e1⟩:=yg hL (.inl hx) ax (k+2) (rows++[rG 0 0]) 0 reg (rest++[.lst []]) kx vx h2 h4 (CJ h4) (by unfold Sm; simp; omega)
 obtain ⟨c2,τ2,v2,e2⟩:=yg hL (.inl hy) ay (k+2) (rows++rG (rows.length+1) ((rows++rG 0 0::(c1++[jM 0])).length:Nat)::(c1++[jM 0])) 0 (reg+cR x) (rest++.lst [.int (rows++rG 0 0::c1).length]::τ1) ky vy h3 h5 (CJ h5) (by have:=v1.cl; unfold Sm; simp; omega)
 have l1:=v1.cl
 have l2:=v2.cl
 rw [List.append_assoc,List.append_assoc] at e1
 rw [List.append_assoc,List.append_assoc,List.cons_append,List.append_assoc,List.cons_append] at e2
 refine ⟨rG (rows.length+1) ((rows++rG 0 0::(c1++[jM 0])).length:Nat)::(c1++jM ((rows++rG (rows.length+1) ((rows++rG 0 0::(c1++[jM 0])).length:Nat)::(c1++jM 0::c2)).length:Nat)::c2),.lst [.int (rows++rG 0 0::c1).length]::(τ1++τ2),?_,?_⟩
 ·refine .cons (J5 ?_ ?_) (dX.append (v1.at ?_) (.cons (FO ?_) (v2.at ?_)))
  all_goals simp; try omega
 ·rw [show 5*(d+1)+(k+4)=5*d+(k+9) by omega]
  exact (I2 (N:=5*d+(k+6)) rfl rfl h1.get e1 e2 (by simp; omega)).trans (by rw [Nat.add_assoc]; rfl)
end
end
section
@[reducible] noncomputable def qG (a b:Int):PV:=.tup [.str [122,101,114,111],.int a,.int b]
@[reducible] noncomputable def zO:PV:=.tup [.str [108,111,111,112]]
@[reducible] noncomputable def B0 (a b t:Int):PV:=.tup [.str [97,103,97,105,110],.int a,.int b,.int t]
@[reducible] noncomputable def Ml (a b x y t u:Int):PV:=.tup [.str [108,111,111,112],.int a,.int b,.int x,.int y,.bool false,.int t,.int u]
section
variable {fi fm fs:Bool} {σ:ah} {L N:Nat}
theorem Hp {rows cv:List PV} {reg r1:Nat} {rest τ:ah} {v:PV} {x y:Int} {p:Nat}
  (hp:(rows++[qG reg (reg+1:Nat)]).length=p)
  (he:aa (af L) (N+1) bY [.loc σ.length,v] (SR σ (rows++[qG reg (reg+1:Nat),zO,B0 reg (reg+1:Nat) (p+2)]) (reg+1+1) rest)=some (.none,SR σ (rows++qG reg (reg+1:Nat)::zO::B0 reg (reg+1:Nat) (p+2)::cv) r1 (rest++τ)))
  (hs:rows.length+cv.length+4≤100000) :
  aa (af L) (N+2) kh [.loc σ.length,v,.int x,.int y,.bool false] (SR σ rows reg rest)=some (.none,SR σ (rows++qG reg (reg+1:Nat)::Ml reg (reg+1:Nat) x y (rows++[qG reg (reg+1:Nat),zO]).length (rows++qG reg (reg+1:Nat)::zO::B0 reg (reg+1:Nat) (p+2)::(cv++[jM p])).length::B0 reg (reg+1:Nat) (p+2)::(cv++[jM p])) r1 (rest++τ)):=by
 have q0:Sm rows 1:=by unfold Sm; omega
 have q1:Sm (rows++[qG reg (reg+1:Nat)]) 1:=by unfold Sm; simp; omega
 have q2:Sm (rows++[qG reg (reg+1:Nat),zO]) 1:=by unfold Sm; simp; omega
 have q3:Sm (rows++qG reg (reg+1:Nat)::zO::B0 reg (reg+1:Nat) (p+2)::cv) 1:=by unfold Sm; simp; omega
 have q4:Sm (rows++qG reg (reg+1:Nat)::zO::B0 reg (reg+1:Nat) (p+2)::(cv++[jM p])) 0:=by unfold Sm; simp; omega
 have a1:=zb (σ:=σ) (rows:=rows) (reg:=reg) (rest:=rest) (L:=L) (N:=N)
 have a2:=zb (σ:=σ) (rows:=rows) (reg:=reg+1) (rest:=rest) (L:=L) (N:=N)
 have a3:=lX (σ:=σ) (reg:=reg+1+1) (rest:=rest) (L:=L) (N:=N) (v:=qG reg (reg+1:Nat)) q0
 have a4:=lX (σ:=σ) (reg:=reg+1+1) (rest:=rest) (L:=L) (N:=N) (v:=zO) q1
 have a5:=lX (σ:=σ) (reg:=reg+1+1) (rest:=rest) (L:=L) (N:=N) (v:=B0 reg (reg+1:Nat) (p+2)) q2
 have a6:=lX (σ:=σ) (reg:=r1) (rest:=rest++τ) (L:=L) (N:=N) (v:=jM p) q3
 rw [hp,List.append_assoc,List.cons_append,List.nil_append] at a4
 rw [List.append_assoc,List.cons_append,List.cons_append,List.nil_append] at a5
 rw [List.append_assoc,List.cons_append,List.cons_append,List.cons_append] at a6
 have d4:=wK (σ:=σ) (reg:=r1) (rest:=rest++τ) q4
 have d5:=wP (σ:=σ) (reg:=r1) (rest:=rest++τ) (v:=Ml reg (reg+1:Nat) x y (rows++[qG reg (reg+1:Nat),zO]).length (rows++qG reg (reg+1:Nat)::zO::B0 reg (reg+1:Nat) (p+2)::(cv++[jM p])).length) (k:=p) (x:=zO) (a:=rows++[qG reg (reg+1:Nat)]) (b:=B0 reg (reg+1:Nat) (p+2)::(cv++[jM p])) hp.symm (by rw [List.append_assoc]; exact q4.le)
 rw [List.append_assoc,List.append_assoc,List.cons_append,List.nil_append,List.cons_append,List.nil_append] at d5
 generalize (rows++[qG reg (reg+1:Nat),zO]).length=q at a5 d5 ⊢
 generalize (rows++qG reg (reg+1:Nat)::zO::B0 reg (reg+1:Nat) (p+2)::(cv++[jM p])).length=w at d4 d5 ⊢
 generalize (rows++qG reg (reg+1:Nat)::zO::B0 reg (reg+1:Nat) (p+2)::cv).length=u at a6
 have a3:aW (aa (af L) (N+1)) (.loc σ.length) ey [qG reg (reg+1:Nat)] (.fn (fk 44)) (SR σ rows (reg+1+1) rest)=some (.int rows.length,SR σ (rows++[qG reg (reg+1:Nat)]) (reg+1+1) rest):=a3
 refine ar (zY ..) ?_ ?_ <;> fail "go"
end
end
section
theorem HN:∀ {n:Nd} {c:Nat},(∀ i,n≠.one i)→cg (.rounds n c)=cg n+4
 | .one i,_,h=>absurd rfl (h i)
 | .place _,_,_=>rfl
 | .row _,_,_=>rfl
 | .branches _ _,_,_=>rfl
 | .rounds _ _,_,_=>rfl
 | .nil,_,_=>rfl
 | .cons _ _,_,_=>rfl
theorem Ic:∀ {n:Nd} {c:Nat},(∀ i,n≠.one i)→cR (.rounds n c)=cR n+2
 | .one i,_,h=>absurd rfl (h i)
 | .place _,_,_=>rfl
 | .row _,_,_=>rfl
 | .branches _ _,_,_=>rfl
 | .rounds _ _,_,_=>rfl
 | .nil,_,_=>rfl
 | .cons _ _,_,_=>rfl
theorem Hw:∀ {n:Nd} {c b r:Nat},(∀ i,n≠.one i)→code (.rounds n c) b r=.zero r (r+1)::.loop r (r+1) c (b+2) (b+4+cg n)::.again r (r+1) (b+3)::(code n (b+3) (r+2)++[.jump (b+1)])
 | .one i,_,_,_,h=>absurd rfl (h i)
 | .place _,_,_,_,_=>rfl
 | .row _,_,_,_,_=>rfl
 | .branches _ _,_,_,_,_=>rfl
 | .rounds _ _,_,_,_,_=>rfl
 | .nil,_,_,_,_=>rfl
 | .cons _ _,_,_,_,_=>rfl
theorem JY {a b x y t u:Int} {a' b' t' u':Nat} (h1:a=a') (h2:b=b') (h3:t=t') (h4:u=u'):Ml a b x y t u=.tup [.str [108,111,111,112],.int a',.int b',.int x,.int y,.bool false,.int t',.int u']:=by rw [h1,h2,h3,h4]
theorem KO {a b t:Int} {a' b' t':Nat} (h1:a=a') (h2:b=b') (h3:t=t'):B0 a b t=.tup [.str [97,103,97,105,110],.int a',.int b',.int t']:=by rw [h1,h2,h3]
section
variable {fi fm fs:Bool} {σ:ah} {L N:Nat}
theorem G4 {rows:List PV} {reg:Nat} {rest:ah} {tag:List Nat} {tl:List PV} {c:Nat} {τ:ah} (ht:∀ τ,aj .In (.str tag) jT τ=some (false,τ))
  (he:aa (af L) (N+2) kh [.loc σ.length,.tup (.str tag::tl),.int (au c).least,.int (au c).most,.bool false] (SR σ rows reg rest)=some (.none,τ)) :
  aa (af L) (N+4) bY [.loc σ.length,tp (.tup (.str tag::tl)) c] (SR σ rows reg rest)=some (.none,τ):=by
 have ht:=ht (SR σ rows reg rest)
 have h1:aa (af L) (N+3) gm [.loc σ.length,tp (.tup (.str tag::tl)) c] (SR σ rows reg rest)=some (.none,τ):=by
  refine ar (mL ..) ?_ ?_ <;> fail "go"
 refine ar (iR ..) ?_ ?_ <;> fail "go"
theorem Gc {rows:List PV} {reg:Nat} {rest:ah} {tag:List Nat} {tl:List PV} {c:Nat} (hs:Sm rows 1) (ht:∀ τ,aj .In (.str tag) jT τ=some (true,τ)) :
  aa (af L) (N+4) bY [.loc σ.length,tp (.tup (.str tag::tl)) c] (SR σ rows reg rest)=some (.none,SR σ (rows++[.tup [.str [114,117,110],.tup (.str tag::tl),.int (au c).least,.int (au c).most,.bool false]]) reg rest):=by
 have ht:=ht (SR σ rows reg rest)
 have h2:=lX (σ:=σ) (reg:=reg) (rest:=rest) (L:=L) (N:=N+1) (v:=.tup [.str [114,117,110],.tup (.str tag::tl),.int (au c).least,.int (au c).most,.bool false]) hs
 have h1:aa (af L) (N+3) gm [.loc σ.length,tp (.tup (.str tag::tl)) c] (SR σ rows reg rest)=some (.none,SR σ (rows++[.tup [.str [114,117,110],.tup (.str tag::tl),.int (au c).least,.int (au c).most,.bool false]]) reg rest):=by
  refine ar (mL ..) ?_ ?_ <;> fail "go"
 refine ar (iR ..) ?_ ?_ <;> fail "go"
theorem Kq {d i c:Nat}:AN fi fm fs σ L (d+1) (.rounds (.one i) c):=by
 intro k rows m reg rest v ⟨w,e,h⟩ hs
 cases e
 rw [if_pos (show eV _=true from rfl)] at h
 obtain ⟨kk,e,h⟩:=h
 cases e
 refine ⟨[.tup [.str [114,117,110],xt i fi fs kk,.int (au c).least,.int (au c).most,.bool false]],[],.cons ⟨_,⟨kk,rfl,fun l hl=>(h l hl).get⟩,rfl⟩ .nil,?_⟩
 obtain ⟨tag,r,e,ht⟩:=xv i fi fs kk
 rw [e,List.append_nil,show 5*(d+1)+(k+4)=5*d+(k+9) by omega]
 refine Gc (N:=5*d+(k+5)) (Sm.le hs |> fun Z=>?_) ?_
 ·exact Nat.le_trans (Nat.add_le_add_left (Nat.le_add_right 1 m) _) hs
 ·rcases ht with rfl | rfl | rfl <;> exact fun Z=>rfl
theorem CF {n:Nd} {c:Nat} (hne:∀ i,n≠.one i) {tag:List Nat} {tl:List PV} (ht:∀ τ,aj .In (.str tag) jT τ=some (false,τ)) {rows:List PV} {reg:Nat} {rest:ah} {m:Nat} (hs:Sm rows (cg (.rounds n c)+m))
  (h:∀ rows' reg',Sm rows' (cg n)→CU fi fm fs σ L (N+1) rows' reg' rest (.tup (.str tag::tl)) (code n rows'.length reg') (cR n)) :
  CU fi fm fs σ L (N+4) rows reg rest (tp (.tup (.str tag::tl)) c) (code (.rounds n c) rows.length reg) (cR (.rounds n c)):=by
 have hs:rows.length+(cg (.rounds n c)+m)≤100000:=hs
 rw [HN hne] at hs
 obtain ⟨cv,τ,v1,e1⟩:=h (rows++[qG reg (reg+1:Nat),zO,B0 reg (reg+1:Nat) ((rows++[qG reg (reg+1:Nat)]).length+2)]) (reg+1+1) (by unfold Sm; simp; omega)
 have l1:=v1.cl
 rw [List.append_assoc,List.cons_append,List.cons_append,List.cons_append,List.nil_append] at e1
 refine ⟨qG reg (reg+1:Nat)::Ml reg (reg+1:Nat) (au c).least (au c).most (rows++[qG reg (reg+1:Nat),zO]).length (rows++qG reg (reg+1:Nat)::zO::B0 reg (reg+1:Nat) ((rows++[qG reg (reg+1:Nat)]).length+2)::(cv++[jM (rows++[qG reg (reg+1:Nat)]).length])).length::B0 reg (reg+1:Nat) ((rows++[qG reg (reg+1:Nat)]).length+2)::(cv++[jM (rows++[qG reg (reg+1:Nat)]).length]),τ,?_,?_⟩
 ·rw [Hw hne]
  refine .cons rfl (.cons (JY rfl rfl ?_ ?_) (.cons (KO rfl rfl ?_) (dX.append (v1.at ?_) (.cons (FO ?_) .nil))))
  all_goals simp; try omega
 ·rw [Ic hne,show reg+(cR n+2)=reg+1+1+cR n by omega]
  exact G4 ht (Hp rfl e1 (by omega))
end
end
section
section
variable {fi fm fs:Bool} {σ:ah} {L:Nat}
theorem AL.nil {d:Nat}:AL fi fm fs σ L d .nil:=by
 intro k rows m reg rest K kk i pa vs pb o xn xw hk hi hp hs
 cases (show vs=[] from hp)
 refine ⟨[],[],o,.nil,?_⟩
 rw [List.append_nil,List.append_nil]; rfl
theorem AL.cons {d:Nat} {x y:Nd} (hx:AL fi fm fs σ L d x) (hy:AL fi fm fs σ L d y):AL fi fm fs σ L d (.cons x y):=by
 intro k rows m reg rest K kk i pa vs pb o xn xw hk hi hp hs
 obtain ⟨a,b,e,hp1,hp2⟩:=hp
 cases e
 have hs:rows.length+(cg x+cg y+m)≤100000:=hs
 rw [List.append_assoc] at hk
 obtain ⟨c1,τ1,o1,r1,e1⟩:=hx k rows (cg y+m) reg rest (fu y K) kk i pa a (b++pb) o xn xw hk hi hp1 (by unfold Sm; omega)
 have l1:=r1.cl
 obtain ⟨c2,τ2,o2,r2,e2⟩:=hy k (rows++c1) m (reg+cR x) (rest++τ1) K kk (i+a.length) (pa++a) b pb o1 xn xw (by rw [List.append_assoc]; exact hk) (by rw [List.length_append,hi]) hp2 (by unfold Sm; rw [List.length_append]; omega)
 refine ⟨c1++c2,τ1++τ2,o2,dX.append r1 (r2.at (by rw [List.length_append,l1])),?_⟩
 rw [List.append_assoc,List.append_assoc,Nat.add_assoc,Nat.add_assoc,← List.length_append] at e2
 exact e1.trans e2
theorem AL.row {d:Nat} {l:Nd} (h:AL fi fm fs σ L d l):AL fi fm fs σ L (d+1) (.row l):=by
 intro k
 rw [show 5*(d+1)+(k+4)=5*d+(k+5+4) by omega]
 exact h (k+5)
theorem Me {x y:Nd} {vs:List PV} (h:PI fi fm fs 0 σ (.branches x y) vs):∃ v,vs=[v]:=by obtain ⟨_,_,_,_,_,e,_⟩:=h; exact ⟨_,e⟩
theorem DT (hL:200000≤L) {d:Nat} {n:Nd} {c:Nat} (h:ld d n) (hl:AL fi fm fs σ L d n) (hb:eV n=true→AN fi fm fs σ L d n):AN fi fm fs σ L (d+1) (.rounds n c):=by
 by_cases h1:∃ i,n=.one i
 ·obtain ⟨i,rfl⟩:=h1
  exact Kq
 ·have hne:∀ i,n≠.one i:=fun i e=>h1 ⟨i,e⟩
  intro k rows m reg rest v hv hs
  obtain ⟨w,e,hw⟩:=hv
  cases e
  rw [show 5*(d+1)+(k+4)=5*d+(k+5)+4 by omega]
  cases hbb:eV n with
  | true =>
   rw [if_pos hbb] at hw
   have hb:=hb hbb
   cases n with
   | one i=>exact absurd rfl (hne i)
   | branches x y =>
    have hw':=hw
    obtain ⟨kk,_,_,_,_,e,_⟩:=hw'
    cases e
    exact CF hne (fun Z=>rfl) hs (fun rows' reg' hr'=>hb (k+2) rows' 0 reg' rest _ hw hr')
   | _=>cases hbb
  | false =>
   rw [if_neg (by rw [hbb]; exact Bool.false_ne_true)] at hw
   obtain ⟨kk,vs,e,hk,hw⟩:=hw
   cases e
   exact CF hne (fun Z=>rfl) hs (fun rows' reg' hr'=>yg hL (.inl h) hl (k+1) rows' 0 reg' rest kk vs hk hw (CJ hw) hr')
theorem Gb (hL:200000≤L) (n:Nd):(∀ d,ld d n→AL fi fm fs σ L d n∧(eV n=true→AN fi fm fs σ L d n))∧(∀ d,okL d n→AL fi fm fs σ L d n) :=
 Nd.ind (P:=fun d n=>AL fi fm fs σ L d n∧(eV n=true→AN fi fm fs σ L d n)) (Q:=fun d n=>AL fi fm fs σ L d n)
  (fun _ i _=>⟨(G1 i).al (fun h=>h.elim fun k h=>⟨_,h.1⟩) fun Z=>rfl,fun Z=>G1 i⟩) (fun _ i _=>⟨(He i).al (fun e=>⟨_,e⟩) fun Z=>rfl,fun h=>dU h⟩)
  (fun _ _ _ _ h=>⟨AL.row h,fun h=>dU h⟩)
  (fun _ x y ox oy _ _ hx hy=>have h:=zZ hL ox oy hx hy; ⟨h.al Me fun Z=>rfl,fun Z=>h⟩)
  (fun _ n c hn _ h=>⟨(DT hL hn h.1 h.2).al (fun h=>h.elim fun v h=>⟨_,h.1⟩) fun Z=>rfl,fun h=>dU h⟩)
  (fun Z=>AL.nil) (fun _ _ _ _ _ hx hy=>AL.cons hx.1 hy) n
end
end
section
theorem lq.mono {fi fs:Bool} {σ σ':ah} (hh:∀ (k:Nat) (c:dl),σ[k]?=some c→σ'[k]?=some c) {i:Nat} {v:PV} (h:lq fi fs σ i v):lq fi fs σ' i v:=h.imp fun k h=>⟨h.1,fun l hl=>hh _ _ (h.2 l hl)⟩
theorem Al.mono {fi fm fs:Bool} {σ σ':ah} (hh:∀ (k:Nat) (c:dl),σ[k]?=some c→σ'[k]?=some c) {v:PV} {r:lf} (h:Al fi fm fs σ v r):Al fi fm fs σ' v r:=by
 cases r with
 | test _=>exact lq.mono hh h
 | run _ _=>exact h.imp fun w h=>⟨h.1.mono hh,h.2⟩
 | _=>exact h
theorem dX.mono {fi fm fs:Bool} {σ σ':ah} (hh:∀ (k:Nat) (c:dl),σ[k]?=some c→σ'[k]?=some c) {vs:List PV} {rs:List lf} (h:dX fi fm fs σ vs rs):dX fi fm fs σ' vs rs:=by
 induction h with
 | nil=>exact .nil
 | cons h _ ih=>exact .cons (h.mono hh) ih
noncomputable def Hk (rl:Nat) (reg:Nat) (nm:PV):dl:=.inst dI [(cA,.loc rl),(bx,.int 0),(aI,.int reg),(iL,nm)]
section
variable {σ:ah} {L N:Nat} {fi fm fs:Bool}
theorem RM_new:aa (af L) (N+2) (.cls dz) [] σ=some (.loc σ.length,SR σ [] 0 []):=by
 have h1:bT (.lst []) (σ++[.inst dz []])=some (.loc (σ.length+1),σ++.inst dz []::[.lst []]):=pO (r:=[])
 have h2:am (af L) (.loc σ.length) cA (.loc (σ.length+1)) (σ++.inst dz []::[.lst []])=some ((),σ++.inst dz [(cA,.loc (σ.length+1))]::[.lst []]):=d6 rfl
 have h3:am (af L) (.loc σ.length) aI (.int 0) (σ++.inst dz [(cA,.loc (σ.length+1))]::[.lst []])=some ((),SR σ [] 0 []):=d6 rfl
 refine uC (ci:=rO) rfl ?_
 refine ar (qY ..) ?_ ?_ <;> fail "go"
theorem Kz {rl reg:Nat} {nm:PV}:aa (af L) (N+2) (.cls dI) [.loc rl,.int 0,.int reg,nm] σ=some (.loc σ.length,σ++[Hk rl reg nm]):=by
 have h1:am (af L) (.loc σ.length) cA (.loc rl) (σ++[.inst dI []])=some ((),σ++[.inst dI [(cA,.loc rl)]]):=d6 rfl
 have h2:am (af L) (.loc σ.length) bx (.int 0) (σ++[.inst dI [(cA,.loc rl)]])=some ((),σ++[.inst dI [(cA,.loc rl),(bx,.int 0)]]):=d6 rfl
 have h3:am (af L) (.loc σ.length) aI (.int reg) (σ++[.inst dI [(cA,.loc rl),(bx,.int 0)]])=some ((),σ++[.inst dI [(cA,.loc rl),(bx,.int 0),(aI,.int reg)]]):=d6 rfl
 have h4:am (af L) (.loc σ.length) iL nm (σ++[.inst dI [(cA,.loc rl),(bx,.int 0),(aI,.int reg)]])=some ((),σ++[Hk rl reg nm]):=d6 rfl
 refine uC (ci:=tM) rfl ?_
 refine ar (sk ..) ?_ ?_ <;> fail "go"
theorem PG_new' {rows:List PV} {reg:Nat} {rest:ah} {nm:PV}:aa (af L) (N+2) (.cls dI) [.loc (σ.length+1),.int 0,.int reg,nm] (SR σ rows reg rest)=some (.loc (σ.length+2+rest.length),SR σ rows reg (rest++[Hk (σ.length+1) reg nm])):=by
 have h:=FK (σ:=σ) (rows:=rows) (reg:=reg) (rest:=rest) (c:=Hk (σ.length+1) reg nm)
 exact Kz.trans h
theorem Eb {v nm:PV} {cv:List PV} {reg:Nat} {τ:ah} (he:aa (af L) (N+2) bY [.loc σ.length,v] (SR σ [] 0 [])=some (.none,SR σ cv reg τ)) (hs:Sm cv 1) :
  aa (af L) (N+3) g_ [v,.int 0,nm] σ=some (.loc (σ.length+2+τ.length),SR σ (cv++[.tup [.str [101,110,100]]]) reg (τ++[Hk (σ.length+1) reg nm])):=by
 have h1:=RM_new (σ:=σ) (L:=L) (N:=N)
 have h2:=lX (σ:=σ) (reg:=reg) (rest:=τ) (L:=L) (N:=N+1) (v:=.tup [.str [101,110,100]]) hs
 refine ar (r0 ..) ?_ ?_ <;> fail "go"
theorem Bu (hL:200000≤L+8) {l:Nd} {d:Nat} (k:Nat) (hl:okL d l) (hd:d<40) (hu:eG l+eO l≤100) (hs:(bA l).length≤90000) (hc:cg l≤90000) :
  ∃ (σ2:ah) (pl rl:Nat) (cv:List PV) (nm:PV),aa (af (L+8)) (k+5*d+10+4) dO [.str (bA l),.str (aX fi fm fs)] σ=some (.loc pl,σ2) ∧
   σ2[pl]?=some (Hk rl (cR l) nm)∧σ2[rl]?=some (.lst cv)∧dX fi fm fs σ2 cv (code l 0 0++[.fin]):=by
 obtain ⟨q,vs,τ,hp,e1⟩:=Dj (σ:=σ) (fi:=fi) (fm:=fm) (fs:=fs) (Nat.le_trans (by decide) hL) l d hl hd hu hs k
 generalize hσ1:SP σ (ra (bA l) []) [] q 0 (.dct []::.lst []::.lst [mu (σ.length+4)]::.lst vs::τ)=σ1 at e1
 obtain ⟨c0,hσ2⟩:∃ c0,σ1=(σ++[c0,.dct [],.lst [],.lst [mu (σ.length+4)]])++.lst vs::τ:=⟨_,by rw [← hσ1,List.append_assoc]; rfl⟩
 have hlen:(σ++[c0,dl.dct [],.lst [],.lst [mu (σ.length+4)]]).length=σ.length+4:=List.length_append
 have hk:u4 0 σ1 (σ.length+4) vs:=⟨_,_,hσ2,by rw [hlen,Nat.zero_add]⟩
 have hp1:PI fi fm fs 0 σ1 l vs:=PI.map (fun k l ⟨a,c,e,h⟩=>⟨(σ++[c0,.dct [],.lst [],.lst [mu (σ.length+4)]])++.lst vs::a,c,by rw [hσ2,e]; exact (List.append_assoc (σ++_) (dl.lst vs::a) _).symm,by rw [List.length_append,hlen,h,List.length_cons]; omega⟩) hp
 clear hσ1 hσ2 hlen hp
 obtain ⟨cv,τ2,r,e2⟩:=yg hL (.inr hl) ((Gb (fi:=fi) (fm:=fm) (fs:=fs) (σ:=σ1) hL l).2 d hl) (k+7) [] 0 0 [] (σ.length+4) vs hk hp1 (CJ hp1) (by unfold Sm; simp; omega)
 rw [show 5*d+(k+7+5)=k+5*d+10+2 by omega,Nat.zero_add,List.nil_append,List.nil_append] at e2
 have e3:=Eb (nm:=.loc (σ.length+1)) e2 (by have:=r.cl; unfold Sm; simp; omega)
 refine ⟨SR σ1 (cv++[.tup [.str [101,110,100]]]) (cR l) (τ2++[Hk (σ1.length+1) (cR l) (.loc (σ.length+1))]),σ1.length+2+τ2.length,σ1.length+1,cv++[.tup [.str [101,110,100]]],.loc (σ.length+1),?_,rm,pU,?_⟩
 ·refine ar (oN ..) ?_ ?_ <;> fail "go"
 ·exact (dX.append r (.cons (show Al fi fm fs σ1 _ .fin from rfl) .nil)).mono fun k c h=>mV h
end
end
section
section
variable {τ:ah} {l:List PV}
theorem Gx (h:l.length≤4194304):bU [.frz l] τ=some (.int l.length,τ):=by
 rw [HJ,Nat.ble_eq_true_of_le (show l.length≤lim from h)]; rfl
theorem lY {i:Nat} {v:PV} (hi:i≤1000000000) (e:l[i]?=some v):ao (.frz l) (.int i) τ=some (v,τ):=by
 rw [G7,qI hi]
 show opt l[i]? ret τ=_
 rw [e]; rfl
theorem yb {x y:Int} (h:1≤y):aZ .Mod (.int x) (.int y) τ=some (.int (x % y),τ):=by
 rw [mod_int,decide_eq_true h]; rfl
theorem tS {k:Nat} (h:k≤1000000000):fO [.int k] τ=some (.rng 0 k 1,τ):=by
 rw [J_,jE,decide_eq_true h]; rfl
theorem uq {k:Nat} (h:k≤1000000000):ce (.rng 0 k 1) τ=some (.items (steps 0 1 k),τ):=by
 rw [ud,jE,decide_eq_true h,EO,Int.sub_zero]; rfl
theorem qS (h:l.length≤4194304):hM l τ=some (.frz l,τ):=by
 show guard (Nat.ble l.length lim) _ τ=_
 rw [Nat.ble_eq_true_of_le (show l.length≤lim from h)]; rfl
theorem lv (h:l.length≤4194304):ce (.frz l) τ=some (.items l,τ):=by
 rw [G8,Nat.ble_eq_true_of_le (show l.length≤lim from h)]; rfl
theorem lk {body:PV→M (Option PV)} {N:Nat}:compLoop body (N+1) (.items []) τ=some ([],τ):=rfl
theorem jF {body:PV→M (Option PV)} {N:Nat} {v x:PV} {r xs:List PV} {τ' τ'':ah} (h:body v τ=some (some x,τ')) (h':compLoop body N (.items r) τ'=some (xs,τ'')):compLoop body (N+1) (.items (v::r)) τ=some (x::xs,τ''):=by
 rw [ou,gO,h]
 show bnd (compLoop body N (.items r)) _ τ'=_
 rw [gO,h']; rfl
theorem xe {m:PV→M PV} {N:Nat} {v x:PV} {r xs:List PV} {τ' τ'':ah} (h:m v τ=some (x,τ')) (h':compLoop (fun w=>Tx.run (.bnd (.v (m w)) fun x=>.ret (some x))) N (.items r) τ'=some (xs,τ'')):compLoop (fun w=>Tx.run (.bnd (.v (m w)) fun x=>.ret (some x))) (N+1) (.items (v::r)) τ=some (x::xs,τ''):=by
 refine jF (x:=x) ?_ h'
 show bnd (m v) (fun x=>ret (some x)) τ=_
 rw [gO,h]; rfl
end
noncomputable def co (ns:List Int) (spot:Nat) (seed:Int) (u:Nat):ah:=[.lst [.frz (ns.map .int),.int spot,.int seed,.int u]]
theorem f8 {L N:Nat} {ns:List Int} {spot:Nat} {seed:Int} {u m:Nat} (hm:1≤m) (hs:spot≤20000) (hl:ns.length≤1000) :
  ∃ k:Nat,k<m∧aa (af L) (N+1) aV [.loc 0,.int m] (co ns spot seed u)=some (.int k,co ns (spot+1) seed u):=by
 have hm1:(1:Int)≤m:=Int.ofNat_le.mpr hm
 have key:∀ x:Int,∃ k:Nat,k<m∧x % (m:Int)=k:=fun x=>by
  have h1:=Int.emod_lt_of_pos x (show (0:Int)<m from hm1)
  have h2:=Int.emod_nonneg x (show (m:Int)≠0 by omega)
  exact ⟨(x % (m:Int)).toNat,by omega,(Int.toNat_of_nonneg h2).symm⟩
 have hlen:(ns.map PV.int).length≤4194304:=by rw [List.length_map]; omega
 have hset:cb (.loc 0) (.int 1) (.int ((spot:Int)+1)) (co ns spot seed u)=some ((),co ns (spot+1) seed u):=rfl
 have h0:=Gx (τ:=co ns (spot+1) seed u) hlen
 by_cases h:spot<ns.length
 ·obtain ⟨k,hk,e⟩:=key ns[spot]
  refine ⟨k,hk,?_⟩
  have hc:decide ((spot:Int)<((ns.map PV.int).length:Nat))=true:=decide_eq_true (by rw [List.length_map]; exact Int.ofNat_lt.mpr h)
  have h1:=lY (l:=ns.map .int) (τ:=co ns (spot+1) seed u) (i:=spot) (v:=.int ns[spot]) (by omega) (by rw [List.getElem?_map,List.getElem?_eq_getElem h]; rfl)
  have h2:=yb (τ:=co ns (spot+1) seed u) (x:=ns[spot]) hm1
  rw [e] at h2
  refine ar (rA ..) ?_ ?_ <;> fail "go"
 ·obtain ⟨k,hk,e⟩:=key (seed+7*(spot:Int)+(spot:Int)*spot / 3)
  refine ⟨k,hk,?_⟩
  have hc:decide ((spot:Int)<((ns.map PV.int).length:Nat))=false:=decide_eq_false (by rw [List.length_map]; exact fun h'=>h (Int.ofNat_lt.mp h'))
  have s1:small (spot:Int)=true:=by rw [jE]; exact decide_eq_true (by omega)
  have s2:small ((spot:Int)*spot)=true:=by
   rw [← Int.natCast_mul,jE]; exact decide_eq_true (Nat.le_trans (Nat.mul_le_mul hs hs) (by decide))
  have h1:aZ .Mult (.int 7) (.int spot) (co ns (spot+1) seed u)=some (.int (7*spot),co ns (spot+1) seed u):=AI rfl s1
  have h2:=AI (τ:=co ns (spot+1) seed u) s1 s1
  have h3:aZ .FloorDiv (.int ((spot:Int)*spot)) (.int 3) (co ns (spot+1) seed u)=some (.int ((spot:Int)*spot / 3),co ns (spot+1) seed u):=by
   rw [zg,s2]; rfl
  have h4:=yb (τ:=co ns (spot+1) seed u) (x:=seed+7*(spot:Int)+(spot:Int)*spot / 3) hm1
  rw [e] at h4
  refine ar (rA ..) ?_ ?_ <;> fail "go"
end
section
noncomputable def sN:Nat→Nat
 | 0=>3
 | d+1=>4+2*(1+3*sN d)
noncomputable def sR (d:Nat):Nat:=1+3*sN d
noncomputable def v4 (d:Nat):Prop:=∀ (L N:Nat) (ns:List Int) (spot:Nat) (seed:Int) (u:Nat) (lp:Int),2000≤L→ns.length≤1000→u≤4→spot+sN d≤20000 →
 ∃ n spot',spot'≤spot+sN d∧u+units n≤4∧ld d n∧aa (af L) (N+2*d+3) cT [.loc 0,.int d,.int lp] (co ns spot seed u)=some (j0 n,co ns spot' seed (u+units n))
noncomputable def Ju (d:Nat):Prop:=∀ (L N:Nat) (ns:List Int) (spot:Nat) (seed:Int) (u:Nat) (lp:Int),2000≤L→ns.length≤1000→u≤4→spot+sR d≤20000 →
 ∃ l spot',spot'≤spot+sR d∧u+units l≤4∧okL d l∧AE l≤3∧aa (af L) (N+2*d+4) eo [.loc 0,.int d,.int lp] (co ns spot seed u)=some (j0 (.row l),co ns spot' seed (u+units l))
theorem uc (n l:Nd):units (.cons n l)=units n+units l:=by
 show eG n+eG l+2*(eO n+eO l)=eG n+2*eO n+(eG l+2*eO l)
 omega
theorem pQ:∀ n:Nd,(encs n).length=AE n
 | .cons _ t=>congrArg (·+1) (pQ t)
 | .one _=>rfl
 | .place _=>rfl
 | .row _=>rfl
 | .branches _ _=>rfl
 | .rounds _ _=>rfl
 | .nil=>rfl
theorem Aw {d:Nat} (h:v4 d) {L N:Nat} {ns:List Int} {seed lp:Int} (hL:2000≤L) (hl:ns.length≤1000):∀ (its:List PV) (L':Nat) (spot u:Nat),its.length<L'→u≤4→spot+its.length*sN d≤20000 →
   ∃ l spot',spot'≤spot+its.length*sN d∧u+units l≤4∧okL d l∧AE l=its.length ∧
    compLoop (fun w5=>Tx.run ((.bnd (.v (aa (af L) (N+2*d+3) cT [.loc 0,.int d,.int lp])) fun x7=>(.ret (some x7))))) L' (.items its) (co ns spot seed u)=some (encs l,co ns spot' seed (u+units l))
 | [],0,_,_,h,_,_=>absurd h (Nat.lt_irrefl 0)
 | [],L'+1,spot,u,_,hu,_=>⟨.nil,spot,Nat.le_add_right _ _,hu,trivial,rfl,lk⟩
 | _::_,0,_,_,h,_,_=>absurd h (Nat.not_lt_zero _)
 | v::r,L'+1,spot,u,hL',hu,hs=>by
  rw [List.length_cons,Nat.add_mul,Nat.one_mul] at hs
  obtain ⟨n,s1,h1,h2,h3,h4⟩:=h L N ns spot seed u lp hL hl hu (by omega)
  obtain ⟨l,s2,g1,g2,g3,g4,g5⟩:=Aw h hL hl r L' s1 (u+units n) (Nat.lt_of_succ_lt_succ hL') h2 (by omega)
  refine ⟨.cons n l,s2,by rw [List.length_cons,Nat.add_mul,Nat.one_mul]; omega,by rw [uc]; omega,⟨h3,g3⟩,congrArg (·+1) g4,?_⟩
  rw [uc,← Nat.add_assoc]
  exact xe (m:=fun Z=>aa (af L) (N+2*d+3) cT [.loc 0,.int d,.int lp]) h4 g5
theorem yM {d:Nat} (h:v4 d):Ju d:=by
 intro L N ns spot seed u lp hL hl hu hs
 have hs:spot+(1+3*sN d)≤20000:=hs
 obtain ⟨k,hk,e⟩:=f8 (L:=L) (N:=N+2*d+2) (spot:=spot) (seed:=seed) (u:=u) (m:=4) (by decide) (by omega) hl
 have h3:=Nat.mul_le_mul_right (sN d) (Nat.le_of_lt_succ hk)
 obtain ⟨l,s2,g1,g2,g3,g4,g5⟩:=Aw (N:=N) (seed:=seed) (lp:=lp) h hL hl (steps 0 1 k) L (spot+1) u (by rw [js]; omega) hu (by rw [js]; omega)
 rw [js] at g1 g4
 refine ⟨l,s2,by show s2≤spot+(1+3*sN d); omega,g2,g3,by omega,?_⟩
 have e':aa (af L) (N+2*d+3) aV [.loc 0,.int 4] (co ns spot seed u)=some (.int k,co ns (spot+1) seed u):=e
 have f1:=tS (τ:=co ns (spot+1) seed u) (k:=k) (by omega)
 have f2:=uq (τ:=co ns (spot+1) seed u) (k:=k) (by omega)
 have f3:=qS (τ:=co ns s2 seed (u+units l)) (l:=encs l) (by rw [pQ]; omega)
 refine ar (AS L (N+2*d+3) _ _ _) ?_ ?_ <;> fail "go"
theorem AJ:v4 0:=by
 intro L N ns spot seed u lp hL hl hu hs
 have hs:spot+3≤20000:=hs
 obtain ⟨k,hk,e⟩:=f8 (L:=L) (N:=N+1) (spot:=spot) (seed:=seed) (u:=u) (m:=8) (by decide) (by omega) hl
 obtain ⟨j,hj,e2⟩:=f8 (L:=L) (N:=N+1) (spot:=spot+1) (seed:=seed) (u:=u) (m:=20) (by decide) (by omega) hl
 refine ⟨.one j,spot+2,by show _≤spot+3; omega,hu,hj,?_⟩
 have e':aa (af L) (N+2) aV [.loc 0,.int 8] (co ns spot seed u)=some (.int k,co ns (spot+1) seed u):=e
 have e2':aa (af L) (N+2) aV [.loc 0,.int 20] (co ns (spot+1) seed u)=some (.int j,co ns (spot+2) seed u):=e2
 have f1:aa (af L) (N+2) ft [] (co ns (spot+1) seed u)=some (.frz ((List.range 20).map uh),co ns (spot+1) seed u):=congrFun (rU ..) _
 have f2:bU [.frz ((List.range 20).map uh)] (co ns (spot+1) seed u)=some (.int 20,co ns (spot+1) seed u):=rfl
 have f3:=lY (l:=(List.range 20).map uh) (τ:=co ns (spot+2) seed u) (i:=j) (v:=uh j) (by omega) (by rw [List.getElem?_map,List.getElem?_range hj]; rfl)
 have h0:decide ((0:Int)=0)=true:=rfl
 cases h3:decide ((k:Int)<3) <;> (refine ar (gC L (N+2) _ _ _) ?_ ?_ <;> fail "go")
end
section
theorem di {p:Prop} [Decidable p] (h:p):decide p=true:=decide_eq_true h
theorem dn {p:Prop} [Decidable p] (h:¬ p):decide p=false:=decide_eq_false h
section
variable {L N d:Nat} {ns:List Int} {spot u:Nat} {seed lp:Int}
theorem IL {k s1 s2:Nat} {a b:Nd} (e:aa (af (L+3)) (N+2*d+4) aV [.loc 0,.int 8] (co ns spot seed u)=some (.int k,co ns (spot+1) seed u)) (hk:k=3) (hu:u<4)
  (a5:aa (af (L+3)) (N+2*d+4) eo [.loc 0,.int d,.int lp] (co ns (spot+1) seed (u+1))=some (j0 (.row a),co ns s1 seed (u+1+units a)))
  (b5:aa (af (L+3)) (N+2*d+4) eo [.loc 0,.int d,.int lp] (co ns s1 seed (u+1+units a))=some (j0 (.row b),co ns s2 seed (u+1+units a+units b))) :
  aa (af (L+3)) (N+2*d+5) cT [.loc 0,.int (d+1:Nat),.int lp] (co ns spot seed u)=some (j0 (.branches (.row a) (.row b)),co ns s2 seed (u+1+units a+units b)):=by
 have hd:((d+1:Nat):Int)-1=d:=by omega
 rw [← hd] at a5 b5
 have q1:decide ((k:Int)<3)=false:=dn (by omega)
 have q2:decide (((d+1:Nat):Int)=0)=false:=dn (by omega)
 have q3:decide ((k:Int)=3)=true:=di (by omega)
 have q4:decide ((u:Int)<4)=true:=di (by omega)
 have g1:ao (.loc 0) (.int 3) (co ns (spot+1) seed u)=some (.int u,co ns (spot+1) seed u):=rfl
 have g2:cb (.loc 0) (.int 3) (.int ((u:Int)+1)) (co ns (spot+1) seed u)=some ((),co ns (spot+1) seed (u+1)):=rfl
 have g3:ce (.rng 0 2 1) (co ns (spot+1) seed (u+1))=some (.items [.int 0,.int 1],co ns (spot+1) seed (u+1)):=rfl
 have hc:compLoop (fun w23=>Tx.run ((.bnd (.bnd (.bnd (.bnd (.v (aZ .Sub (.int (d+1:Nat)) (.int 1))) fun a25=>.ret ([a25,(.int lp)])) fun l26=>.ret ((.loc 0)::l26)) fun l27=>(.v (aa (af (L+3)) (N+2*d+4) eo l27))) fun x28=>(.ret (some x28))))) (L+3) (.items [.int 0,.int 1]) (co ns (spot+1) seed (u+1))=some ([j0 (.row a),j0 (.row b)],co ns s2 seed (u+1+units a+units b)):=by
  refine jF (x:=j0 (.row a)) (τ':=co ns s1 seed (u+1+units a)) (ar rfl ?_ ?_) (jF (x:=j0 (.row b)) (ar rfl ?_ ?_) lk) <;> fail "go"
 refine ar (gC (L+3) (N+2*d+4) _ _ _) ?_ ?_ <;> fail "go"
theorem FT {k j:Nat} (e:aa (af L) (N+1) aV [.loc 0,.int 8] (co ns spot seed u)=some (.int k,co ns (spot+1) seed u)) (hk:decide ((k:Int)<3)=true) (hj:j<20)
  (e2:aa (af L) (N+1) aV [.loc 0,.int 20] (co ns (spot+1) seed u)=some (.int j,co ns (spot+2) seed u)) (dd:PV) :
  aa (af L) (N+2) cT [.loc 0,dd,.int lp] (co ns spot seed u)=some (j0 (.one j),co ns (spot+2) seed u):=by
 have f1:aa (af L) (N+1) ft [] (co ns (spot+1) seed u)=some (.frz ((List.range 20).map uh),co ns (spot+1) seed u):=congrFun (rU ..) _
 have f2:bU [.frz ((List.range 20).map uh)] (co ns (spot+1) seed u)=some (.int 20,co ns (spot+1) seed u):=rfl
 have f3:=lY (l:=(List.range 20).map uh) (τ:=co ns (spot+2) seed u) (i:=j) (v:=uh j) (by omega) (by rw [List.getElem?_map,List.getElem?_range hj]; rfl)
 refine ar (gC L (N+1) _ _ _) ?_ ?_ <;> fail "go"
theorem B4 {k j:Nat} (e:aa (af L) (N+1) aV [.loc 0,.int 8] (co ns spot seed u)=some (.int k,co ns (spot+1) seed u)) (hk:k=4) (hj:j<7)
  (e2:aa (af L) (N+1) aV [.loc 0,.int 7] (co ns (spot+1) seed u)=some (.int j,co ns (spot+2) seed u)) :
  aa (af L) (N+2) cT [.loc 0,.int (d+1:Nat),.int lp] (co ns spot seed u)=some (j0 (.place j),co ns (spot+2) seed u):=by
 have q1:decide ((k:Int)<3)=false:=dn (by omega)
 have q2:decide (((d+1:Nat):Int)=0)=false:=dn (by omega)
 have q3:decide ((k:Int)=3)=false:=dn (by omega)
 have q4:decide ((k:Int)=4)=true:=di (by omega)
 have f1:aa (af L) (N+1) gb [] (co ns (spot+1) seed u)=some (.frz ((List.range 7).map fun i=>.str (cQ i)),co ns (spot+1) seed u):=congrFun (uX ..) _
 have f3:=lY (l:=(List.range 7).map fun i=>.str (cQ i)) (τ:=co ns (spot+2) seed u) (i:=j) (v:=.str (cQ j)) (by omega) (by rw [List.getElem?_map,List.getElem?_range hj]; rfl)
 refine ar (gC L (N+1) _ _ _) ?_ ?_ <;> fail "go"
theorem zK {k c s1:Nat} {n:Nd} (e:aa (af L) (N+1) aV [.loc 0,.int 8] (co ns spot seed u)=some (.int k,co ns (spot+1) seed u)) (hk:¬ (k=3∧u<4)) (hk3:¬ k<3) (hk4:¬ k=4) (hk7:k<7) (hu:u<3) (hlp:0<lp) (hc:c<7)
  (e2:aa (af L) (N+1) aV [.loc 0,.int 7] (co ns (spot+1) seed (u+2))=some (.int c,co ns (spot+2) seed (u+2)))
  (e3:aa (af L) (N+1) cT [.loc 0,.int d,.int (lp-1)] (co ns (spot+2) seed (u+2))=some (j0 n,co ns s1 seed (u+2+units n))) :
  aa (af L) (N+2) cT [.loc 0,.int (d+1:Nat),.int lp] (co ns spot seed u)=some (j0 (.rounds n c),co ns s1 seed (u+2+units n)):=by
 have hd:((d+1:Nat):Int)-1=d:=by omega
 rw [← hd] at e3
 have q1:decide ((k:Int)<3)=false:=dn (by omega)
 have q2:decide (((d+1:Nat):Int)=0)=false:=dn (by omega)
 have q3:decide ((k:Int)=3)=false:=dn (by omega)
 have q4:decide ((k:Int)=4)=false:=dn (by omega)
 have q5:decide ((k:Int)<7)=true:=di (by omega)
 have q6:decide ((u:Int)<3)=true:=di (by omega)
 have q7:decide (0<lp)=true:=di hlp
 have g1:ao (.loc 0) (.int 3) (co ns (spot+1) seed u)=some (.int u,co ns (spot+1) seed u):=rfl
 have g2:cb (.loc 0) (.int 3) (.int ((u:Int)+2)) (co ns (spot+1) seed u)=some ((),co ns (spot+1) seed (u+2)):=rfl
 have f1:aa (af L) (N+1) fQ [] (co ns (spot+1) seed (u+2))=some (.frz ((List.range 7).map H2),co ns (spot+1) seed (u+2)):=congrFun (u7 ..) _
 have f3:ao (.frz ((List.range 7).map H2)) (.int c) (co ns (spot+2) seed (u+2))=some (.tup [.int (au c).least,.int (au c).most,.str (au c).mark],co ns (spot+2) seed (u+2)):=lY (v:=H2 c) (by omega) (by rw [List.getElem?_map,List.getElem?_range hc]; rfl)
 refine ar (gC L (N+1) _ _ _) ?_ ?_ <;> fail "go"
theorem Gg {k s1:Nat} {l:Nd} (e:aa (af L) (N+1) aV [.loc 0,.int 8] (co ns spot seed u)=some (.int k,co ns (spot+1) seed u)) (hk:¬ (k=3∧u<4)) (hk3:¬ k<3) (hk4:¬ k=4) (hk7:¬ (k<7∧0<lp∧u<3))
  (e3:aa (af L) (N+1) eo [.loc 0,.int d,.int lp] (co ns (spot+1) seed u)=some (j0 (.row l),co ns s1 seed (u+units l))) :
  aa (af L) (N+2) cT [.loc 0,.int (d+1:Nat),.int lp] (co ns spot seed u)=some (j0 (.row l),co ns s1 seed (u+units l)):=by
 have hd:((d+1:Nat):Int)-1=d:=by omega
 rw [← hd] at e3
 have q1:decide ((k:Int)<3)=false:=dn (by omega)
 have q2:decide (((d+1:Nat):Int)=0)=false:=dn (by omega)
 have q4:decide ((k:Int)=4)=false:=dn (by omega)
 have g1:ao (.loc 0) (.int 3) (co ns (spot+1) seed u)=some (.int u,co ns (spot+1) seed u):=rfl
 have w3:decide ((k:Int)=3)=false∨(decide ((k:Int)=3)=true∧decide ((u:Int)<4)=false):=by
  by_cases h:k=3
  ·exact .inr ⟨di (by omega),dn (by omega)⟩
  ·exact .inl (dn (by omega))
 have w7:decide ((k:Int)<7)=false∨(decide ((k:Int)<7)=true∧decide (0<lp)=false)∨(decide ((k:Int)<7)=true∧decide (0<lp)=true∧decide ((u:Int)<3)=false):=by
  by_cases h:k<7
  ·by_cases h':0<lp
   ·exact .inr (.inr ⟨di (by omega),di h',dn (by omega)⟩)
   ·exact .inr (.inl ⟨di (by omega),dn h'⟩)
  ·exact .inl (dn (by omega))
 clear hk hk3 hk4 hk7
 rcases w3 with w3 | ⟨w3,w3'⟩ <;> rcases w7 with w7 | ⟨w7,w7'⟩ | ⟨w7,w7',w7''⟩ <;> (refine ar (gC L (N+1) _ _ _) ?_ ?_ <;> fail "go")
end
end
section
theorem BL {d:Nat} (hn:v4 d):v4 (d+1):=by
 intro L N ns spot seed u lp hL hl hu hs
 have hr:=yM hn
 have hs:spot+(4+2*sR d)≤20000:=hs
 have hle:∀ s,s≤spot+(4+2*sR d)→s≤spot+sN (d+1):=fun _ h=>h
 have hR:sR d=1+3*sN d:=rfl
 obtain ⟨k,hk,e⟩:=f8 (L:=L) (N:=N+2*d+3) (spot:=spot) (seed:=seed) (u:=u) (m:=8) (by decide) (by omega) hl
 rw [show N+2*(d+1)+3=N+2*d+3+2 by omega]
 by_cases h3:k<3
 ·obtain ⟨j,hj,e2⟩:=f8 (L:=L) (N:=N+2*d+3) (spot:=spot+1) (seed:=seed) (u:=u) (m:=20) (by decide) (by omega) hl
  exact ⟨.one j,spot+2,hle _ (by omega),hu,hj,FT e (di (by omega)) hj e2 _⟩
 by_cases hb:k=3∧u<4
 ·obtain ⟨a,s1,a1,a2,a3,a4,a5⟩:=hr L N ns (spot+1) seed (u+1) lp hL hl (by omega) (by omega)
  obtain ⟨b,s2,b1,b2,b3,b4,b5⟩:=hr L N ns s1 seed (u+1+units a) lp hL hl a2 (by omega)
  have hun:u+units (.branches (.row a) (.row b))=u+1+units a+units b:=by
   show u+(eG a+eG b+1+2*(eO a+eO b))=u+1+(eG a+2*eO a)+(eG b+2*eO b)
   omega
  obtain ⟨M,rfl⟩:∃ M,L=M+3:=⟨L-3,by omega⟩
  refine ⟨.branches (.row a) (.row b),s2,hle _ (by omega),by omega,⟨⟨a3,a4⟩,⟨b3,b4⟩,rfl,rfl⟩,?_⟩
  rw [hun]
  exact IL e hb.1 hb.2 a5 b5
 by_cases h4:k=4
 ·obtain ⟨j,hj,e2⟩:=f8 (L:=L) (N:=N+2*d+3) (spot:=spot+1) (seed:=seed) (u:=u) (m:=7) (by decide) (by omega) hl
  exact ⟨.place j,spot+2,hle _ (by omega),hu,hj,B4 e h4 hj e2⟩
 by_cases hc:k<7∧0<lp∧u<3
 ·obtain ⟨c,hc7,e2⟩:=f8 (L:=L) (N:=N+2*d+3) (spot:=spot+1) (seed:=seed) (u:=u+2) (m:=7) (by decide) (by omega) hl
  obtain ⟨n,s1,n1,n2,n3,n4⟩:=hn L (N+1) ns (spot+2) seed (u+2) (lp-1) hL hl (by omega) (by omega)
  rw [show N+1+2*d+3=N+2*d+3+1 by omega] at n4
  have hun:u+units (.rounds n c)=u+2+units n:=by
   show u+(eG n+2*(eO n+1))=u+2+(eG n+2*eO n)
   omega
  refine ⟨.rounds n c,s1,hle _ (by omega),by omega,⟨n3,hc7⟩,?_⟩
  rw [hun]
  exact zK e hb h3 h4 hc.1 hc.2.2 hc.2.1 hc7 e2 n4
 ·obtain ⟨a,s1,a1,a2,a3,a4,a5⟩:=hr L N ns (spot+1) seed u lp hL hl hu (by omega)
  exact ⟨.row a,s1,hle _ (by omega),a2,⟨a3,a4⟩,Gg e hb h3 h4 hc a5⟩
theorem wc:∀ d,v4 d
 | 0=>AJ
 | d+1=>BL (wc d)
theorem Dn (d):Ju d:=yM (wc d)
end
section
noncomputable def dep:Nd→Nat
 | .one _=>1
 | .place _=>1
 | .row l=>dep l+1
 | .branches a b=>max (dep a) (dep b)+1
 | .rounds n _=>dep n+1
 | .nil=>0
 | .cons h t=>max (dep h) (dep t)
noncomputable def kY:Nd→List (List Nat)
 | .cons h t=>bA h::kY t
 | _=>[]
theorem mT:∀ (l:Nd) (d:Nat),okL d l→((kY l).flatMap fun y=>[]++y)=bA l∧((kY l).map List.length).sum=(bA l).length
 | .cons h t,d,hd=>by
  have:=mT t d hd.2
  exact ⟨congrArg (bA h++·) this.1,(congrArg ((bA h).length+·) this.2).trans List.length_append.symm⟩
 | .nil,_,_=>⟨rfl,rfl⟩
 | .one _,_,h=>h.elim
 | .place _,_,h=>h.elim
 | .row _,_,h=>h.elim
 | .branches _ _,_,h=>h.elim
 | .rounds _ _,_,h=>h.elim
theorem EF:∀ (l:Nd) (d:Nat),okL d l→jn [] (kY l)=bA l
 | .cons h t,d,hd=>congrArg (bA h++·) (mT t d hd.2).1
 | .nil,_,_=>rfl
 | .one _,_,h=>h.elim
 | .place _,_,h=>h.elim
 | .row _,_,h=>h.elim
 | .branches _ _,_,h=>h.elim
 | .rounds _ _,_,h=>h.elim
theorem oX:∀ n:Nd,(kY n).length=AE n
 | .cons _ t=>congrArg (·+1) (oX t)
 | .one _=>rfl
 | .place _=>rfl
 | .row _=>rfl
 | .branches _ _=>rfl
 | .rounds _ _=>rfl
 | .nil=>rfl
theorem nQ {x y:List Nat} (h:x.length+y.length≤4194304) {τ:ah}:aZ .Add (.str x) (.str y) τ=some (.str (x++y),τ):=by
 rw [add_str,Nat.ble_eq_true_of_le (show x.length+y.length≤lim from h)]; rfl
section
variable {L N:Nat} {σ:ah}
theorem Km {i:Nat}:aa (af L) (N+1) aU [j0 (.one i)] σ=some (.str (bA (.one i)),σ):=by
 refine ar (f_ ..) ?_ ?_ <;> fail "go"
theorem Gu {i:Nat}:aa (af L) (N+1) aU [j0 (.place i)] σ=some (.str (bA (.place i)),σ):=by
 refine ar (f_ ..) ?_ ?_ <;> fail "go"
theorem Kr {l:Nd} {d:Nat} (hd:okL d l) (h1:compLoop (fun w11=>Tx.run ((.bnd (.v (aa (af L) N aU [w11])) fun x13=>(.ret (some x13))))) L (.items (encs l)) σ=some ((kY l).map .str,σ)) (hc:AE l≤3) (hs:(bA l).length≤100000) :
  aa (af L) (N+1) aU [j0 (.row l)] σ=some (.str (bA l),σ):=by
 have h0:=lv (τ:=σ) (l:=encs l) (by rw [pQ]; omega)
 have h2:=qS (τ:=σ) (l:=(kY l).map .str) (by rw [List.length_map,oX]; omega)
 have h3:∀ c,aW c (.str []) d9 [.frz ((kY l).map .str)] .str σ=some (.str (bA l),σ):=fun c=>by
  have:=mK (σ:=σ) [] (kY l) (by rw [(mT l d hd).2,oX]; show _+AE l*0≤_; omega)
  rw [EF l d hd] at this
  exact this
 have h3:=h3 (aa (af L) N)
 refine ar (f_ ..) ?_ ?_ <;> fail "go"
theorem LC {a b:Nd} (h1:aa (af (L+3)) N aU [j0 a] σ=some (.str (bA a),σ)) (h2:aa (af (L+3)) N aU [j0 b] σ=some (.str (bA b),σ)) (hs:(bA (.branches a b)).length≤100000) :
  aa (af (L+3)) (N+1) aU [j0 (.branches a b)] σ=some (.str (bA (.branches a b)),σ):=by
 have hc:compLoop (fun w21=>Tx.run ((.bnd (.v (aa (af (L+3)) N aU [w21])) fun x23=>(.ret (some x23))))) (L+3) (.items [j0 a,j0 b]) σ=some ([.str (bA a),.str (bA b)],σ) :=
  xe (m:=fun w=>aa (af (L+3)) N aU [w]) h1 (xe (m:=fun w=>aa (af (L+3)) N aU [w]) h2 lk)
 have hl:(bA a).length+((bA b).length+1)+4≤100000:=by
  have:([40,63,58]++(bA a++124::bA b)++[41]).length≤100000:=hs
  simp at this; omega
 have hl2:(bA a++124::bA b).length+4≤100000:=by rw [List.length_append]; exact hl
 have h3:∀ c,aW c (.str [124]) d9 [.frz [.str (bA a),.str (bA b)]] .str σ=some (.str (bA a++124::bA b),σ):=fun c=>by
  have:=mK (σ:=σ) [124] [bA a,bA b] (by show (bA a).length+((bA b).length+0)+2*1≤_; omega)
  rw [show jn [124] [bA a,bA b]=bA a++124::bA b from congrArg (bA a++124::·) (List.append_nil _)] at this
  exact this
 have h3:=h3 (aa (af (L+3)) N)
 have h4:=nQ (τ:=σ) (x:=[40,63,58]) (y:=bA a++124::bA b) (by rw [show ([40,63,58]:List Nat).length=3 from rfl]; omega)
 have h5:=nQ (τ:=σ) (x:=[40,63,58]++(bA a++124::bA b)) (y:=[41]) (by rw [List.length_append,show ([40,63,58]:List Nat).length=3 from rfl,show ([41]:List Nat).length=1 from rfl]; omega)
 refine ar (f_ ..) ?_ ?_ <;> fail "go"
theorem CM {n:Nd} {c:Nat} {tag:List Nat} {tl:List PV} (hc:c<7) (et:j0 n=.tup (.str tag::tl)) (ht:∀ τ,aj .In (.str tag) (.tup [(.str [111,110,101]),(.str [98,114,97,110,99,104,101,115])]) τ=some (true,τ)) (hb:eV n=true) (h1:aa (af L) N aU [j0 n] σ=some (.str (bA n),σ)) (hs:(bA (.rounds n c)).length≤100000) :
  aa (af L) (N+1) aU [j0 (.rounds n c)] σ=some (.str (bA (.rounds n c)),σ):=by
 have e:bA (.rounds n c)=bA n++(au c).mark:=by
  show (if eV n=true then _ else _)++_=_
  rw [if_pos hb]
 have hm:=t0 c hc
 rw [e,List.length_append] at hs
 have h2:=nQ (τ:=σ) (x:=bA n) (y:=(au c).mark) (by omega)
 have ht:=ht σ
 rw [et] at h1
 rw [e]
 show aa (af L) (N+1) aU [.tup [.str [114,111,117,110,100,115],j0 n,.int (au c).least,.int (au c).most,.str (au c).mark]] σ=_
 rw [et]
 refine ar (f_ ..) ?_ ?_ <;> fail "go"
theorem xp {n:Nd} {c:Nat} {tag:List Nat} {tl:List PV} (hc:c<7) (et:j0 n=.tup (.str tag::tl)) (ht:∀ τ,aj .In (.str tag) (.tup [(.str [111,110,101]),(.str [98,114,97,110,99,104,101,115])]) τ=some (false,τ)) (hb:eV n=false) (h1:aa (af L) N aU [j0 n] σ=some (.str (bA n),σ)) (hs:(bA n).length≤100000) :
  aa (af L) (N+1) aU [j0 (.rounds n c)] σ=some (.str (bA (.rounds n c)),σ):=by
 have e:bA (.rounds n c)=[40,63,58]++bA n++[41]++(au c).mark:=by
  show (if eV n=true then _ else _)++_=_
  rw [if_neg (by rw [hb]; exact Bool.false_ne_true)]
 have hm:=t0 c hc
 have e3:([40,63,58]:List Nat).length=3:=rfl
 have e1:([41]:List Nat).length=1:=rfl
 have h2:=nQ (τ:=σ) (x:=[40,63,58]) (y:=bA n) (by omega)
 have h3:=nQ (τ:=σ) (x:=[40,63,58]++bA n) (y:=[41]) (by rw [List.length_append]; omega)
 have h4:=nQ (τ:=σ) (x:=[40,63,58]++bA n++[41]) (y:=(au c).mark) (by rw [List.length_append,List.length_append]; omega)
 have ht:=ht σ
 rw [et] at h1
 rw [e]
 show aa (af L) (N+1) aU [.tup [.str [114,111,117,110,100,115],j0 n,.int (au c).least,.int (au c).most,.str (au c).mark]] σ=_
 rw [et]
 refine ar (f_ ..) ?_ ?_ <;> fail "go"
end
theorem jQ {L:Nat} (hL:2000≤L):∀ n:Nd,(∀ d N σ,ld d n→dep n≤N→(bA n).length≤100000→aa (af L) N aU [j0 n] σ=some (.str (bA n),σ)) ∧
  (∀ d N L' σ,okL d n→dep n≤N→AE n<L'→(bA n).length≤100000→compLoop (fun w11=>Tx.run ((.bnd (.v (aa (af L) N aU [w11])) fun x13=>(.ret (some x13))))) L' (.items (encs n)) σ=some ((kY n).map .str,σ))
 | .one i=>⟨fun
  | _,N+1,σ,_,_,_=>Km
  | _,0,_,_,hN,_=>absurd hN (Nat.not_succ_le_zero _),fun _ _ _ _ h=>h.elim⟩
 | .place i=>⟨fun
  | _,N+1,σ,_,_,_=>Gu
  | _,0,_,_,hN,_=>absurd hN (Nat.not_succ_le_zero _),fun _ _ _ _ h=>h.elim⟩
 | .row l=>⟨fun
  | d+1,N+1,σ,h,hN,hs=>Kr h.1 ((jQ hL l).2 d N L σ h.1 (Nat.le_of_succ_le_succ hN) (by have:=h.2; omega) hs) h.2 hs
  | _,0,_,_,hN,_=>absurd hN (Nat.not_succ_le_zero _),fun _ _ _ _ h=>h.elim⟩
 | .branches a b=>⟨fun
  | d+1,N+1,σ,h,hN,hs=>by
   have hl:([40,63,58]++(bA a++124::bA b)++[41]).length≤100000:=hs
   have hN:max (dep a) (dep b)≤N:=Nat.le_of_succ_le_succ hN
   simp at hl
   have h1:=(jQ hL a).1 (d+1) N σ h.1 (by omega) (by omega)
   have h2:=(jQ hL b).1 (d+1) N σ h.2.1 (by omega) (by omega)
   obtain ⟨K,rfl⟩:∃ K,L=K+3:=⟨L-3,by omega⟩
   exact LC h1 h2 hs
  | _,0,_,_,hN,_=>absurd hN (Nat.not_succ_le_zero _),fun _ _ _ _ h=>h.elim⟩
 | .rounds n c=>⟨fun
  | d+1,N+1,σ,h,hN,hs=>by
   have hn:(bA n).length≤100000:=by
    refine Nat.le_trans ?_ hs
    show _≤((if eV n=true then bA n else [40,63,58]++bA n++[41])++(au c).mark).length
    split <;> simp <;> omega
   have h1:=(jQ hL n).1 d N σ h.1 (Nat.le_of_succ_le_succ hN) hn
   cases n with
   | one i=>exact CM h.2 rfl (fun Z=>rfl) rfl h1 hs
   | branches a b=>exact CM h.2 rfl (fun Z=>rfl) rfl h1 hs
   | place i=>exact xp h.2 rfl (fun Z=>rfl) rfl h1 hn
   | row l=>exact xp h.2 rfl (fun Z=>rfl) rfl h1 hn
   | rounds m c'=>exact xp h.2 rfl (fun Z=>rfl) rfl h1 hn
   | nil=>cases d <;> exact h.1.elim
   | cons x y=>cases d <;> exact h.1.elim
  | _,0,_,_,hN,_=>absurd hN (Nat.not_succ_le_zero _),fun _ _ _ _ h=>h.elim⟩
 | .nil=>⟨fun
  | 0,_,_,h=>h.elim
  | _+1,_,_,h=>h.elim,fun
  | _,_,L'+1,_,_,_,_,_=>lk
  | _,_,0,_,_,_,h,_=>absurd h (Nat.not_lt_zero _)⟩
 | .cons h t=>⟨fun
  | 0,_,_,h=>h.elim
  | _+1,_,_,h=>h.elim,fun
  | d,N,L'+1,σ,hk,hN,hL',hs=>by
   have hs:(bA h++bA t).length≤100000:=hs
   rw [List.length_append] at hs
   have hN:max (dep h) (dep t)≤N:=hN
   have h1:=(jQ hL h).1 d N σ hk.1 (by omega) (by omega)
   have h2:=(jQ hL t).2 d N L' σ hk.2 (by omega) (Nat.lt_of_succ_lt_succ hL') (by omega)
   exact xe (m:=fun w=>aa (af L) N aU [w]) h1 h2
  | _,_,0,_,_,_,h,_=>absurd h (Nat.not_lt_zero _)⟩
end
section
noncomputable def oR (o:MG) (fi fs:Bool) (c:Nat):Bool:=(decide (o.sp=[46]) && fs) || ((decide (c ∈ o.set) || (o.fold && (fi && decide (sw c ∈ o.set)))) != o.neg)
noncomputable def jc (l:List Nat):Bool:=match l with
 | []=>false
 | c::_=>decide (c ∈ [97,98,65,66,49,95])
noncomputable def mq (ahead:List Nat):Bool:=decide (ahead=[]) || decide (ahead=[10])
noncomputable def md (w:List Nat) (fm:Bool) (t:List Nat) (at':Nat):Bool :=
 if w=[94] then decide (at'=0) || (fm && (decide (at'<t.length) && decide (t[at'-1]?=some 10)))
 else if w=[36] then mq (t.drop at') || (fm && decide (t[at']?=some 10))
 else if w=[92,65] then decide (at'=0)
 else if w=[92,122] then decide (t.drop at'=[])
 else if w=[92,90] then mq (t.drop at')
 else (jc ((t.take at').drop (at'-1)) != jc (t.drop at')) == decide (w=[92,98])
noncomputable def lx (seen:List Nat):List Nat→List Nat
 | []=>[]
 | x::r=>if x ∈ seen then lx (seen++[x]) r else x::lx (seen++[x]) r
noncomputable def fN (l:List Nat):List Nat:=lx [] l
section
variable (fit std:Nat→Nat→Bool)
noncomputable def dG (least:Nat) (most:Int) (done:Nat) (last:Option Nat) (at':Nat):Bool :=
 decide (done<least) || (decide (last≠some at') && (decide (most<0) || decide ((done:Int)<most)))
noncomputable def xW (f:Nat→List Nat) (least:Nat) (most:Int):Nat→Nat→Option Nat→Nat→List Nat
 | 0,_,_,_=>[]
 | k+1,done,last,at'=>(if dG least most done last at'=true then (f at').flatMap fun e=>xW f least most k (done+1) (some at') e else [])++(if done<least then [] else [at'])
mutual
noncomputable def mw:Nd→Nat→List Nat
 | .one i,at'=>if fit i at'=true then [at'+1] else []
 | .place i,at'=>if std i at'=true then [at'] else []
 | .row l,at'=>rawL l at'
 | .branches a b,at'=>mw a at'++mw b at'
 | .rounds n c,at'=>xW (mw n) (au c).least (au c).most 12 0 none at'
 | .nil,_=>[]
 | .cons _ _,_=>[]
noncomputable def rawL:Nd→Nat→List Nat
 | .cons h t,at'=>(mw h at').flatMap (rawL t)
 | _,at'=>[at']
end
noncomputable def E0 (f:Nat→List Nat) (least:Nat) (most:Int):Nat→Nat→Option Nat→Nat→List Nat
 | 0,_,_,_=>[]
 | k+1,done,last,at'=>fN ((if dG least most done last at'=true then (f at').flatMap fun e=>E0 f least most k (done+1) (some at') e else [])++(if done<least then [] else [at']))
mutual
noncomputable def uY:Nd→Nat→List Nat
 | .one i,at'=>if fit i at'=true then [at'+1] else []
 | .place i,at'=>if std i at'=true then [at'] else []
 | .row l,at'=>lawL l [at']
 | .branches a b,at'=>fN (fN (uY a at')++uY b at')
 | .rounds n c,at'=>E0 (uY n) (au c).least (au c).most 12 0 none at'
 | .nil,_=>[]
 | .cons _ _,_=>[]
noncomputable def lawL:Nd→List Nat→List Nat
 | .cons h t,ends=>lawL t (fN (ends.flatMap (uY h)))
 | _,ends=>ends
end
noncomputable def ki (l l':List Nat):Prop:=∀ p:Nat→Bool,l.find? p=l'.find? p
theorem ki.refl (l):ki l l:=fun Z=>rfl
theorem ki.trans {a b c} (h:ki a b) (h':ki b c):ki a c:=fun p=>(h p).trans (h' p)
theorem ki.symm {a b} (h:ki a b):ki b a:=fun p=>(h p).symm
theorem ki.append {a b c d} (h:ki a b) (h':ki c d):ki (a++c) (b++d):=fun p=>by
 rw [List.find?_append,List.find?_append,h p,h' p]
theorem kZ {β:Type} (g:Nat→Option β):∀ l:List Nat,l.findSome? g=(l.find? fun x=>(g x).isSome).bind g
 | []=>rfl
 | x::r=>by
  rw [List.findSome?_cons,List.find?_cons]
  cases h:g x with
  | none=>exact kZ g r
  | some v=>exact h.symm
theorem ki.findSome {β:Type} {a b} (h:ki a b) (g:Nat→Option β):a.findSome? g=b.findSome? g:=by
 rw [kZ,kZ,h]
theorem mc (f:Nat→List Nat) (p:Nat→Bool):∀ l:List Nat,(l.flatMap f).find? p=l.findSome? fun x=>(f x).find? p
 | []=>rfl
 | x::r=>by
  rw [List.flatMap_cons,List.find?_append,List.findSome?_cons,mc f p r]
  cases (f x).find? p <;> rfl
theorem ki.flatMap {a b} {f f':Nat→List Nat} (h:ki a b) (hf:∀ x,ki (f x) (f' x)):ki (a.flatMap f) (b.flatMap f'):=fun p=>by
 rw [mc,mc,h.findSome]
 congr 1; funext x; exact hf x p
theorem y3 {P:Nat→Prop} {seen:List Nat} {x:Nat} (h:∀ y ∈ seen,P y) (hx:P x):∀ y ∈ seen++[x],P y:=fun y hy =>
 (List.mem_append.mp hy).elim (h y) fun hy=>List.mem_singleton.mp hy ▸ hx
theorem oP (p:Nat→Bool):∀ (r seen:List Nat),(∀ x ∈ seen,p x=false)→(lx seen r).find? p=r.find? p
 | [],_,_=>rfl
 | x::r,seen,h=>cn (P:=fun l:List Nat=>l.find? p=(x::r).find? p)
  (fun hx=>(oP p r _ (y3 h (h x hx))).trans (by rw [List.find?_cons,h x hx]))
  fun Z=>by
   rw [List.find?_cons,List.find?_cons]
   cases hp:p x with
   | true=>rfl
   | false=>exact oP p r _ (y3 h hp)
theorem qc (l):ki (fN l) l:=fun p=>oP p l [] fun _ h=>nomatch h
theorem ki.ite {c:Prop} [Decidable c] {a b d e:List Nat} (h:ki a b) (h':ki d e):ki (if c then a else d) (if c then b else e):=by
 by_cases q:c
 ·rw [if_pos q,if_pos q]; exact h
 ·rw [if_neg q,if_neg q]; exact h'
theorem uK {f g:Nat→List Nat} (h:∀ x,ki (f x) (g x)) (least most):∀ k done last at',ki (E0 f least most k done last at') (xW g least most k done last at')
 | 0,_,_,_=>ki.refl _
 | k+1,_,_,_=>(qc _).trans (ki.append (ki.ite (ki.flatMap (h _) fun x=>uK h least most k _ _ x) (ki.refl _)) (ki.refl _))
theorem Ds (l:List Nat):ki l (l.flatMap fun x=>[x]):=fun p=>by rw [List.flatMap_singleton']
theorem sP (n:Nd):(∀ at',ki (uY fit std n at') (mw fit std n at'))∧(∀ ends,ki (lawL fit std n ends) (ends.flatMap (rawL fit std n))):=by
 induction n with
 | one i=>exact ⟨fun Z=>ki.refl _,Ds⟩
 | place i=>exact ⟨fun Z=>ki.refl _,Ds⟩
 | row l h=>exact ⟨fun a=>(h.2 [a]).trans fun p=>by rw [List.flatMap_singleton]; rfl,Ds⟩
 | branches a b ha hb=>exact ⟨fun x=>(qc _).trans (ki.append ((qc _).trans (ha.1 x)) (hb.1 x)),Ds⟩
 | rounds n c h=>exact ⟨fun Z=>uK h.1 _ _ _ _ _ _,Ds⟩
 | nil=>exact ⟨fun Z=>ki.refl _,Ds⟩
 | cons x y hx hy=>exact ⟨fun Z=>ki.refl _,fun ends=>(hy.2 _).trans ((ki.flatMap ((qc _).trans (ki.flatMap (ki.refl _) hx.1)) fun Z=>ki.refl _).trans fun p=>congrArg (List.find? p) List.flatMap_assoc)⟩
theorem qN:∀ (r seen:List Nat) x,x ∈ lx seen r→x ∈ r
 | [],_,_,h=>h
 | y::r,seen,x,h=>cn (P:=fun l=>x ∈ l→x ∈ y::r) (fun _ h=>.tail _ (qN r _ x h)) (fun _ h=>(List.mem_cons.mp h).elim (fun e=>e ▸ .head _) fun h=>.tail _ (qN r _ x h)) h
theorem i5 {l:List Nat} {x} (h:x ∈ fN l):x ∈ l:=qN l [] x h
theorem kQ:∀ (r seen:List Nat),(lx seen r).Nodup∧∀ x ∈ lx seen r,x ∉ seen
 | [],_=>⟨List.nodup_nil,fun _ h=>nomatch h⟩
 | y::r,seen =>
  have ih:=kQ r (seen++[y])
  have h2:=fun x hx hs=>ih.2 x hx (List.mem_append_left _ hs)
  cn (P:=fun l:List Nat=>l.Nodup∧∀ x ∈ l,x ∉ seen) (fun Z=>⟨ih.1,h2⟩)
   fun hy=>⟨List.nodup_cons.mpr ⟨fun h=>ih.2 y h (List.mem_append_right _ (.head _)),ih.1⟩,fun x hx=>(List.mem_cons.mp hx).elim (fun e=>e ▸ hy) (h2 x)⟩
theorem p_:∀ (n:Nat) (l:List Nat),l.Nodup→(∀ x ∈ l,x<n)→l.length≤n
 | 0,[],_,_=>Nat.le_refl _
 | 0,x::_,_,h=>absurd (h x (.head _)) (Nat.not_lt_zero _)
 | n+1,l,hn,h=>by
  have h1:=p_ n (l.erase n) (hn.erase n) fun x hx =>
   Nat.lt_of_le_of_ne (Nat.le_of_lt_succ (h x (List.mem_of_mem_erase hx))) fun e=>List.Nodup.not_mem_erase hn (e ▸ hx)
  rw [List.length_erase] at h1
  exact cn (P:=fun m=>m≤n→l.length≤n+1) (fun _ h=>by omega) (fun _ h=>Nat.le_succ_of_le h) h1
theorem qx {l:List Nat} {n} (h:∀ x ∈ l,x<n):(fN l).length≤n:=p_ n _ (kQ l []).1 fun x hx=>h x (i5 hx)
variable {len:Nat} (hfit:∀ i a,fit i a=true→a<len)
theorem CC {a b e:Nat} (h:e=b) (q:a≤b∧b≤len):a≤e∧e≤len:=h ▸ q
theorem wE {c:Prop} [Decidable c] {x e:Nat} (h:e ∈ (if c then [x] else [])):c∧e=x :=
 cn (P:=fun l:List Nat=>e ∈ l→c∧e=x) (fun hc h=>⟨hc,List.mem_singleton.mp h⟩) (fun _ h=>(List.not_mem_nil h).elim) h
theorem s6 {f:Nat→List Nat} (h:∀ x,x≤len→∀ e ∈ f x,x≤e∧e≤len) (least most):∀ k done last at',at'≤len→∀ e ∈ E0 f least most k done last at',at'≤e∧e≤len
 | 0,_,_,_,_,e,he=>(List.not_mem_nil he).elim
 | k+1,done,last,at',ha,e,he=>(List.mem_append.mp (i5 he)).elim
  (cn (P:=fun l=>e ∈ l→at'≤e∧e≤len) (fun _ he =>
   let ⟨x,hx,hy⟩:=List.mem_flatMap.mp he
   have h1:=h at' ha x hx
   have h2:=s6 h least most k _ _ x h1.2 e hy
   ⟨Nat.le_trans h1.1 h2.1,h2.2⟩) fun _ h=>(List.not_mem_nil h).elim)
  (cn (P:=fun l=>e ∈ l→at'≤e∧e≤len) (fun _ h=>(List.not_mem_nil h).elim) fun _ h=>CC (List.mem_singleton.mp h) ⟨Nat.le_refl _,ha⟩)
include hfit
theorem xB (n:Nd):(∀ at',at'≤len→∀ e ∈ uY fit std n at',at'≤e∧e≤len)∧(∀ (ends:List Nat) (lo:Nat),(∀ e ∈ ends,lo≤e∧e≤len)→∀ e ∈ lawL fit std n ends,lo≤e∧e≤len):=by
 induction n with
 | one i=>exact ⟨fun a _ e h=>CC (wE h).2 ⟨Nat.le_succ a,hfit i a (wE h).1⟩,fun _ _ h=>h⟩
 | place i=>exact ⟨fun a ha e h=>CC (wE h).2 ⟨Nat.le_refl a,ha⟩,fun _ _ h=>h⟩
 | row l h=>exact ⟨fun a ha=>h.2 [a] a fun x hx=>CC (List.mem_singleton.mp hx) ⟨Nat.le_refl a,ha⟩,fun _ _ h=>h⟩
 | branches a b ha hb=>exact ⟨fun x hx e he=>(List.mem_append.mp (i5 he)).elim (fun he=>ha.1 x hx e (i5 he)) (hb.1 x hx e),fun _ _ h=>h⟩
 | rounds n c h=>exact ⟨s6 h.1 _ _ _ _ _,fun _ _ h=>h⟩
 | nil=>exact ⟨fun _ _ _ h=>(List.not_mem_nil h).elim,fun _ _ h=>h⟩
 | cons x y hx hy=>exact ⟨fun _ _ _ h=>(List.not_mem_nil h).elim,fun ends lo hh=>hy.2 _ lo fun z hz =>
   let ⟨w,hw,hz⟩:=List.mem_flatMap.mp (i5 hz)
   have h1:=hh w hw
   have h2:=hx.1 w h1.2 z hz
   ⟨Nat.le_trans h1.1 h2.1,h2.2⟩⟩
end
end
section
section
variable {L N:Nat} {σ:ah}
theorem mem_ok {c:Nat} {s:List Nat}:aj .In (.str [c]) (.str s) σ=some (decide (c ∈ s),σ):=by
 show some (s.contains c,σ)=_
 rw [List.contains_eq_mem]
theorem eqs_ok {a b:List Nat}:aj .Eq (.str a) (.str b) σ=some (decide (a=b),σ):=rfl
theorem neb_ok {a b:Bool}:aj .NotEq (.bool a) (.bool b) σ=some (a != b,σ):=by cases a <;> cases b <;> rfl
theorem eqb_ok {a b:Bool}:aj .Eq (.bool a) (.bool b) σ=some (a == b,σ):=by cases a <;> cases b <;> rfl
theorem BJ {c:Nat} {sp set:List Nat} {neg fold fi fm fs:Bool} (hc:c<128):aa (af L) (N+1) i0 [.tup [.str sp,.str set,.bool neg,.bool fold],.str [c],.str (aX fi fm fs)] σ=some (.bool ((decide (sp=[46]) && fs) || ((decide (c ∈ set) || (fold && (fi && decide (sw c ∈ set)))) != neg)),σ):=by
 have hsw:∀ k,aW k (.str [c]) oU [] .str σ=some (.str [sw c],σ):=fun Z=>yJ c hc
 have hsw:=hsw (aa (af L) N)
 have h0:=eqs_ok (a:=sp) (b:=[46]) (σ:=σ)
 have h1:=mem_ok (c:=c) (s:=set) (σ:=σ)
 generalize decide (sp=[46])=b1 at h0 ⊢
 generalize decide (c ∈ set)=b2 at h1 ⊢
 have w:(b1=true∧fs=true)∨b1=false∨(b1=true∧fs=false):=by cases b1 <;> cases fs <;> decide
 have x:b2=true∨(b2=false∧fold=false)∨(b2=false∧fold=true∧fi=false)∨(b2=false∧fold=true∧fi=true):=by cases b2 <;> cases fold <;> cases fi <;> decide
 rcases w with ⟨rfl,rfl⟩ | rfl | ⟨rfl,rfl⟩
 ·refine ar (qE ..) ?_ ?_ <;> fail "go"
 all_goals rcases x with rfl | ⟨rfl,rfl⟩ | ⟨rfl,rfl,rfl⟩ | ⟨rfl,rfl,rfl⟩ <;> (refine ar (qE ..) ?_ ?_ <;> fail "go")
theorem GZ {i c:Nat} {fi fm fs:Bool} (hc:c<128):aa (af L) (N+1) i0 [uh i,.str [c],.str (aX fi fm fs)] σ=some (.bool (oR (gE i) fi fs c),σ):=BJ hc
theorem rR:∀ {l:List Nat},l.length≤1→aa (af L) (N+1) gj [.str l] σ=some (.bool (jc l),σ)
 | [],_=>by refine ar (m0 ..) ?_ ?_ <;> fail "go"
 | [c],_=>by refine ar (m0 ..) ?_ ?_ <;> fail "go"
 | _::_::_,h=>absurd h (by simp)
end
end
section
section
variable {L N:Nat} {σ:ah} {t:List Nat} {at':Nat} {fi fm fs:Bool}
theorem nes_ok {a b:List Nat}:aj .NotEq (.str a) (.str b) σ=some (!decide (a=b),σ):=rfl
theorem La {a b:List Nat}:decide (a=b)=decide (b=a):=by rw [Bool.eq_iff_iff,decide_eq_true_iff,decide_eq_true_iff]; exact eq_comm
theorem in2_ok {a:List Nat}:aj .In (.str a) (.tup [(.str []),(.str [10])]) σ=some (mq a,σ):=by
 show some (decide ([]=a) || (decide ([10]=a) || false),σ)=_
 rw [Bool.or_false,La (a:=[]) (b:=a),La (a:=[10]) (b:=a)]; rfl
theorem lr (ht:t.length≤1000) (ha:at'≤t.length):aS (.str t) (.int at') .none σ=some (.str (t.drop at'),σ) :=
 eR (i:=some at') (j:=none) (aO (m:=1000) ht (by decide)) (dg at' (Nat.le_trans ha (Nat.le_trans ht (by decide)))) rfl
theorem FE (ht:t.length≤1000) (ha:at'≤t.length):aa (af L) (N+1) cX [.str [94],.str t,.int at',.str (aX fi fm fs)] σ=some (.bool (decide (at'=0) || (fm && (decide (at'<t.length) && decide (t[at'-1]?=some 10)))),σ):=by
 have h1:=lr (σ:=σ) ht ha
 by_cases h0:at'=0
 ·subst h0
  refine ar (cm ..) ?_ ?_ <;> fail "go"
 have q0:decide ((at':Int)=0)=false:=dn (by omega)
 have q0':decide (at'=0)=false:=dn h0
 rw [q0']
 cases fm with
 | false=>refine ar (cm ..) ?_ ?_ <;> fail "go"
 | true =>
  by_cases hlt:at'<t.length
  ·have hx:t[at'-1]?=some (t[at'-1]'(kG hlt)):=List.getElem?_eq_getElem (kG hlt)
   have hne:decide (t.drop at'=[])=false:=dn fun h=>Nat.not_lt.mpr (List.drop_eq_nil_iff.mp h) hlt
   have h2:=nes_ok (σ:=σ) (a:=t.drop at') (b:=[])
   rw [hne] at h2
   have h3:=dK (τ:=σ) (t:=t) (a:=at'-1) (c:=t[at'-1]'(kG hlt)) (Nat.le_trans (Nat.sub_le ..) (Nat.le_trans ha (Nat.le_trans ht (by decide)))) hx
   rw [nX (Nat.pos_of_ne_zero h0)] at h3
   have h4:aj .Eq (.str [t[at'-1]'(kG hlt)]) (.str [10]) σ=some (decide (t[at'-1]?=some 10),σ):=by
    rw [hx,eqs_ok]
    refine congrArg (fun b=>some (b,σ)) ?_
    rw [Bool.eq_iff_iff,decide_eq_true_iff,decide_eq_true_iff,Option.some.injEq,List.cons.injEq]
    exact and_iff_left rfl
   rw [show decide (at'<t.length)=true from di hlt]
   generalize decide (t[at'-1]?=some 10)=b at h4 ⊢
   refine ar (cm ..) ?_ ?_ <;> fail "go"
  ·have hne:decide (t.drop at'=[])=true:=di (List.drop_eq_nil_iff.mpr (Nat.le_of_not_lt hlt))
   have h2:=nes_ok (σ:=σ) (a:=t.drop at') (b:=[])
   rw [hne] at h2
   rw [show decide (at'<t.length)=false from dn hlt]
   refine ar (cm ..) ?_ ?_ <;> fail "go"
theorem DA (ht:t.length≤1000) (ha:at'≤t.length):aa (af L) (N+1) cX [.str [36],.str t,.int at',.str (aX fi fm fs)] σ=some (.bool (mq (t.drop at') || (fm && decide (t[at']?=some 10))),σ):=by
 have h1:=lr (σ:=σ) ht ha
 have h2:=in2_ok (σ:=σ) (a:=t.drop at')
 cases hb:mq (t.drop at') <;> rw [hb] at h2
 ·cases fm with
  | false=>refine ar (cm ..) ?_ ?_ <;> fail "go"
  | true =>
   have hlt:at'<t.length:=by
    by_cases h:at'<t.length
    ·exact h
    ·rw [show t.drop at'=[] from List.drop_eq_nil_iff.mpr (Nat.le_of_not_lt h)] at hb; cases hb
   have hx:t[at']?=some t[at']:=List.getElem?_eq_getElem hlt
   have h3:ao (.str (t.drop at')) (.int 0) σ=some (.str [t[at']],σ):=dK (a:=0) (by decide) (by rw [List.getElem?_drop]; exact hx)
   have h4:aj .Eq (.str [t[at']]) (.str [10]) σ=some (decide (t[at']?=some 10),σ):=by
    rw [hx,eqs_ok]
    refine congrArg (fun b=>some (b,σ)) ?_
    rw [Bool.eq_iff_iff,decide_eq_true_iff,decide_eq_true_iff,Option.some.injEq,List.cons.injEq]
    exact and_iff_left rfl
   generalize decide (t[at']?=some 10)=b at h4 ⊢
   refine ar (cm ..) ?_ ?_ <;> fail "go"
 ·refine ar (cm ..) ?_ ?_ <;> fail "go"
theorem MC (ht:t.length≤1000) (ha:at'≤t.length):aa (af L) (N+1) cX [.str [92,65],.str t,.int at',.str (aX fi fm fs)] σ=some (.bool (decide (at'=0)),σ):=by
 have h1:=lr (σ:=σ) ht ha
 have e:decide (at'=0)=decide ((at':Int)=0):=by rw [Bool.eq_iff_iff,decide_eq_true_iff,decide_eq_true_iff]; omega
 rw [e]
 refine ar (cm ..) ?_ ?_ <;> fail "go"
theorem MN (ht:t.length≤1000) (ha:at'≤t.length):aa (af L) (N+1) cX [.str [92,122],.str t,.int at',.str (aX fi fm fs)] σ=some (.bool (decide (t.drop at'=[])),σ):=by
 have h1:=lr (σ:=σ) ht ha
 refine ar (cm ..) ?_ ?_ <;> fail "go"
theorem MF (ht:t.length≤1000) (ha:at'≤t.length):aa (af L) (N+1) cX [.str [92,90],.str t,.int at',.str (aX fi fm fs)] σ=some (.bool (mq (t.drop at')),σ):=by
 have h1:=lr (σ:=σ) ht ha
 refine ar (cm ..) ?_ ?_ <;> fail "go"
theorem Dc {w:List Nat} (hw:w=[92,98]∨w=[92,66]) (ht:t.length≤1000) (ha:at'≤t.length):aa (af L) (N+2) cX [.str w,.str t,.int at',.str (aX fi fm fs)] σ=some (.bool ((jc ((t.take at').drop (at'-1)) != jc (t.drop at')) == decide (w=[92,98])),σ):=by
 have h1:=lr (σ:=σ) ht ha
 have hl:Nat.ble t.length lim=true:=aO (m:=1000) ht (by decide)
 have h3:zq [.int ((at':Int)-1),.int 0] σ=some (.int (at'-1:Nat),σ):=by
  show some (PV.int (if (at':Int)-1<0 then (0:Int) else (at':Int)-1),σ)=_
  rw [show (if (at':Int)-1<0 then (0:Int) else (at':Int)-1)=((at'-1:Nat):Int) by split <;> omega]
 have h4:aS (.str t) (.int (at'-1:Nat)) (.int at') σ=some (.str ((t.take at').drop (at'-1)),σ):=eR (i:=some (at'-1)) (j:=some at') hl (dg _ (Nat.le_trans (Nat.sub_le ..) (Nat.le_trans ha (Nat.le_trans ht (by decide))))) (dg _ (Nat.le_trans ha (Nat.le_trans ht (by decide))))
 have h5:aS (.str (t.drop at')) .none (.int 1) σ=some (.str ((t.drop at').take 1),σ):=eR (i:=none) (j:=some 1) (aO (m:=1000) (by rw [List.length_drop]; exact Nat.le_trans (Nat.sub_le ..) ht) (by decide)) rfl rfl
 have w1:=rR (L:=L) (N:=N) (σ:=σ) (l:=(t.take at').drop (at'-1)) (by rw [List.length_drop,List.length_take]; omega)
 have w2:=rR (L:=L) (N:=N) (σ:=σ) (l:=(t.drop at').take 1) (by rw [List.length_take]; omega)
 rw [show jc ((t.drop at').take 1)=jc (t.drop at') by cases t.drop at' <;> rfl] at w2
 rcases hw with rfl | rfl <;> (refine ar (cm ..) ?_ ?_ <;> fail "go")
theorem Ei:∀ {i:Nat},i<7→t.length≤1000→at'≤t.length→aa (af L) (N+2) cX [.str (cQ i),.str t,.int at',.str (aX fi fm fs)] σ=some (.bool (md (cQ i) fm t at'),σ)
 | 0,_,ht,ha=>FE ht ha
 | 1,_,ht,ha=>DA ht ha
 | 2,_,ht,ha=>MC ht ha
 | 3,_,ht,ha=>MN ht ha
 | 4,_,ht,ha=>MF ht ha
 | 5,_,ht,ha=>Dc (.inl rfl) ht ha
 | 6,_,ht,ha=>Dc (.inr rfl) ht ha
 | i+7,h,_,_=>absurd h (Nat.not_lt.mpr (Nat.le_add_left 7 i))
end
end
section
theorem qX {τ:ah} {body:PV→M (Option PV)} {N:Nat} {v:PV} {r xs:List PV} {τ' τ'':ah} (h:body v τ=some (none,τ')) (h':compLoop body N (.items r) τ'=some (xs,τ'')):compLoop body (N+1) (.items (v::r)) τ=some (xs,τ''):=by
 rw [ou,gO,h]
 show bnd (compLoop body N (.items r)) _ τ'=_
 rw [gO,h']; rfl
noncomputable def dR (l:List Nat):List PV:=l.map fun (e:Nat)=>.int (e:Int)
theorem ch (l:List Nat):(dR l).length=l.length:=List.length_map ..
theorem oM (a b:List Nat):dR (a++b)=dR a++dR b:=List.map_append
theorem Bz (l:List Nat):mJ (dR l)=some (l.map fun (e:Nat)=>(e:Int)):=qv (f:=K8) (g:=fun (e:Nat)=>PV.int (e:Int)) (k:=fun (e:Nat)=>(e:Int)) (fun Z=>rfl) l
theorem CR (k:Nat):∀ l:List Nat,((l.map fun (e:Nat)=>(e:Int)).any fun j=>decide (j=(k:Int)))=decide (k ∈ l)
 | []=>rfl
 | x::r=>by
  rw [List.map_cons,List.any_cons,CR k r,Bool.eq_iff_iff,Bool.or_eq_true,decide_eq_true_iff,decide_eq_true_iff,decide_eq_true_iff,List.mem_cons]
  exact or_congr_left ⟨fun h=>(Int.ofNat_inj.mp h).symm,fun h=>congrArg Int.ofNat h.symm⟩
theorem tf (seen:List Nat) (x:Nat) (r:List Nat):lx seen (x::r)=if x ∈ seen then lx (seen++[x]) r else x::lx (seen++[x]) r:=rfl
theorem wq:∀ (r seen:List Nat),(lx seen r).length≤r.length
 | [],_=>Nat.le_refl _
 | x::r,seen=>by
  have h:=wq r (seen++[x])
  rw [tf]
  split
  ·exact Nat.le_succ_of_le h
  ·exact Nat.succ_le_succ h
section
variable {L N:Nat} {σ:ah} {v:PV}
theorem H6 {x:Nat} {l:List Nat}:aj .NotIn (.int x) (.frz (dR l)) σ=some (!decide (x ∈ l),σ):=by
 rw [IK,gO,JG]
 show An _ (opt (mJ (dR l)) _ σ) _=_
 rw [Bz]
 show some (!(List.any _ _),σ)=_
 rw [CR]
theorem vV {l:List Nat} (h2:∀ k (h:k<l.length),ao v (.int (k:Nat)) σ=some (.int (l[k]:Nat),σ)) (h3:∀ k,k<l.length→aS v .none (.int (k:Nat)) σ=some (.frz (dR (l.take k)),σ)) :
  ∀ (r seen:List Nat) (L':Nat),seen++r=l→r.length<L'→compLoop (fun w5=>Tx.run ((.bnd (.bnd (.bnd (.v (ao v w5)) fun a10=>(.bnd (.v (aS v .none w5)) fun b11=>(.b (aj .NotIn a10 b11)))) fun t9=>.br t9 (.ret true) (.ret false)) fun c8=>.br c8 (.bnd (.v (ao v w5)) fun x7=>(.ret (some x7))) (.ret none)))) L' (.items (steps (seen.length:Nat) 1 r.length)) σ=some (dR (lx seen r),σ)
 | [],_,L'+1,_,_=>lk
 | _,_,0,_,h=>absurd h (Nat.not_lt_zero _)
 | x::r,seen,L'+1,he,hL=>by
  have hk:seen.length<l.length:=by rw [← he,List.length_append,List.length_cons]; omega
  have h1:l[seen.length]=x:=by
   have:=bt seen x r
   rw [he,List.getElem?_eq_getElem hk] at this
   exact Option.some.inj this
  have h4:l.take seen.length=seen:=by rw [← he]; exact List.take_left ..
  have ih:=vV h2 h3 r (seen++[x]) L' (by rw [List.append_assoc]; exact he) (Nat.lt_of_succ_lt_succ hL)
  rw [show (((seen++[x]).length:Nat):Int)=(seen.length:Int)+1 by rw [List.length_append]; rfl] at ih
  have g2:=h2 _ hk
  have g3:=h3 _ hk
  rw [h1] at g2
  rw [h4] at g3
  have g4:=H6 (σ:=σ) (x:=x) (l:=seen)
  rw [List.length_cons,B6,tf]
  by_cases hx:x ∈ seen
  ·rw [if_pos hx]
   rw [di hx] at g4
   refine qX ?_ ih
   refine ar rfl ?_ ?_ <;> fail "go"
  ·rw [if_neg hx]
   rw [dn hx] at g4
   refine jF (x:=.int x) ?_ ih
   refine ar rfl ?_ ?_ <;> fail "go"
theorem zj {l:List Nat} (hL:l.length<L) (hl:l.length≤100000)
  (h1:bU [v] σ=some (.int l.length,σ)) (h2:∀ k (h:k<l.length),ao v (.int (k:Nat)) σ=some (.int (l[k]:Nat),σ)) (h3:∀ k,k<l.length→aS v .none (.int (k:Nat)) σ=some (.frz (dR (l.take k)),σ)) :
  aa (af L) (N+1) dT [v] σ=some (.frz (dR (fN l)),σ):=by
 have hc:=vV h2 h3 l [] L rfl hL
 rw [show ((([]:List Nat).length:Nat):Int)=0 from rfl] at hc
 have f1:=tS (τ:=σ) (k:=l.length) (by omega)
 have f2:=uq (τ:=σ) (k:=l.length) (by omega)
 have f3:=qS (τ:=σ) (l:=dR (lx [] l)) (by rw [ch]; have:=wq l []; omega)
 refine ar (yz ..) ?_ ?_ <;> fail "go"
theorem zI {l:List Nat} {k:Nat}:xr (dR l) none (some k)=dR (l.take k):=(List.map_take ..).symm
theorem C6 {l:List Nat} {k:Nat} (h:k<l.length):(dR l)[k]?=some (.int (l[k]:Nat)):=by
 show (l.map _)[k]?=_
 rw [List.getElem?_map,List.getElem?_eq_getElem h]; rfl
theorem pH {l:List Nat} (hL:l.length<L) (hl:l.length≤100000):aa (af L) (N+1) dT [.frz (dR l)] σ=some (.frz (dR (fN l)),σ):=by
 refine zj hL hl ?_ (fun k h=>lY (by omega) (C6 h)) (fun k h=>?_)
 ·have:=Gx (τ:=σ) (l:=dR l) (by rw [ch]; omega)
  rw [ch] at this; exact this
 ·rw [wg,B1,dg k (by omega),← zI]
  show guard (Nat.ble (dR l).length lim) _ σ=_
  rw [ch,aO hl (by decide)]; rfl
theorem zV {l:List Nat} {k:Nat} (hk:σ[k]?=some (.lst (dR l))) (hL:l.length<L) (hl:l.length≤100000):aa (af L) (N+1) dT [.loc k] σ=some (.frz (dR (fN l)),σ):=by
 have hb:Nat.ble (dR l).length lim=true:=by rw [ch]; exact aO hl (by decide)
 refine zj hL hl ?_ (fun i h=>lN hk (by omega) (C6 h)) (fun i h=>?_)
 ·have:=wy hk hb
  rw [ch] at this; exact this
 ·rw [← zI]
  exact Ay hk hb rfl (dg i (by omega))
end
end
section
noncomputable def zl (t:List Nat) (fi fs:Bool) (i a:Nat):Bool:=match t[a]? with
 | some c=>oR (gE i) fi fs c
 | none=>false
noncomputable def M2 (t:List Nat) (fm:Bool) (i a:Nat):Bool:=md (cQ i) fm t a
theorem x9 {t fi fs}:∀ i a,zl t fi fs i a=true→a<t.length:=fun i a h=>by
 unfold zl at h
 cases hg:t[a]? with
 | none=>rw [hg] at h; cases h
 | some c=>exact (List.getElem?_eq_some_iff.mp hg).1
noncomputable def kj:Nd→Nat
 | .one _=>3
 | .place _=>3
 | .row l=>kj l+1
 | .branches a b=>max (kj a) (kj b)+3
 | .rounds n _=>kj n+16
 | .nil=>3
 | .cons h t=>max (kj h) (kj t)
theorem GC (n:Nd):3≤kj n:=by
 induction n with
 | one=>exact Nat.le_refl 3
 | place=>exact Nat.le_refl 3
 | row _ ih=>exact Nat.le_succ_of_le ih
 | branches _ _ _ _=>exact Nat.le_add_left 3 _
 | rounds _ _ ih=>exact Nat.le_trans ih (Nat.le_add_right ..)
 | nil=>exact Nat.le_refl 3
 | cons _ _ ih _=>exact Nat.le_trans ih (Nat.le_max_left ..)
noncomputable def rC:Option Nat→Int
 | none=>-1
 | some a=>a
structure Cs where
 t:List Nat
 fi:Bool
 fm:Bool
 fs:Bool
structure Cs.Ok (C:Cs):Prop where
 len:C.t.length≤4
 low:∀ c ∈ C.t,c<128
noncomputable def Cs.fit (C:Cs):Nat→Nat→Bool:=zl C.t C.fi C.fs
noncomputable def Cs.std (C:Cs):Nat→Nat→Bool:=M2 C.t C.fm
noncomputable def Cs.F (C:Cs):PV:=.str (aX C.fi C.fm C.fs)
noncomputable def Cs.E (C:Cs) (n:Nd) (a:Nat):List Nat:=uY C.fit C.std n a
noncomputable def Cs.R (C:Cs) (n:Nd) (c:Nat) (k d:Nat) (l:Option Nat) (a:Nat):List Nat:=E0 (C.E n) (au c).least (au c).most k d l a
noncomputable def Cs.Ls (C:Cs) (n:Nd) (es:List Nat):List Nat:=lawL C.fit C.std n es
theorem wt:∀ c,c<7→(au c).least≤2:=by decide
section
variable {C:Cs}
theorem vB (n:Nd) {a:Nat} (ha:a≤C.t.length):∀ e ∈ C.E n a,a≤e∧e≤C.t.length:=(xB C.fit C.std (len:=C.t.length) (fun i a h=>x9 i a h) n).1 a ha
theorem LN (hC:C.Ok) (n:Nd):∀ {es:List Nat},es.length≤5→(∀ e ∈ es,e≤C.t.length)→(C.Ls n es).length≤5:=by
 induction n with
 | cons h u _ ih =>
  intro es h1 h2
  have h3:∀ x ∈ fN (es.flatMap (uY C.fit C.std h)),x≤C.t.length:=fun x hx=>by
   obtain ⟨y,hy,hz⟩:=List.mem_flatMap.mp (i5 hx)
   exact ((vB (C:=C) h (h2 y hy)) x hz).2
  have h4:(fN (es.flatMap (uY C.fit C.std h))).length≤5:=qx (n:=5) fun x hx=>by
   obtain ⟨y,hy,hz⟩:=List.mem_flatMap.mp hx
   exact Nat.lt_succ_of_le (Nat.le_trans ((vB (C:=C) h (h2 y hy)) x hz).2 hC.len)
  exact ih h4 h3
 | _=>intro es h1 _; exact h1
theorem Au (hC:C.Ok) (n:Nd) {a:Nat} (ha:a≤C.t.length):(C.E n a).length≤5:=by
 have hlt:∀ e ∈ C.E n a,e<5:=fun e he=>Nat.lt_succ_of_le (Nat.le_trans (vB n ha e he).2 hC.len)
 cases n with
 | one i=>exact cn (P:=fun l:List Nat=>l.length≤5) (fun Z=>(by decide:1≤5)) fun Z=>Nat.zero_le 5
 | place i=>exact cn (P:=fun l:List Nat=>l.length≤5) (fun Z=>(by decide:1≤5)) fun Z=>Nat.zero_le 5
 | row l=>exact LN hC l (es:=[a]) (by decide:1≤5) (fun e he=>List.mem_singleton.mp he ▸ ha)
 | branches x y=>exact qx (n:=5) fun e he=>Nat.lt_succ_of_le (Nat.le_trans ((List.mem_append.mp he).elim (fun he=>(vB x ha e (i5 he)).2) fun he=>(vB y ha e he).2) hC.len)
 | rounds m c=>exact p_ 5 _ (show (fN _).Nodup from (kQ _ []).1) hlt
 | nil=>exact Nat.zero_le 5
 | cons _ _=>exact Nat.zero_le 5
theorem MA (n:Nd) (c k d l) {a:Nat} (ha:a≤C.t.length):∀ e ∈ C.R n c k d l a,a≤e∧e≤C.t.length:=s6 (fun x hx=>vB n hx) _ _ _ _ _ _ ha
theorem K7 (hC:C.Ok) (n:Nd) (c k d l) {a:Nat} (ha:a≤C.t.length):(C.R n c k d l a).length≤5:=by
 have hlt:∀ e ∈ C.R n c k d l a,e<5:=fun e he=>Nat.lt_succ_of_le (Nat.le_trans (MA n c k d l ha e he).2 hC.len)
 cases k with
 | zero=>exact Nat.zero_le 5
 | succ k=>exact p_ 5 _ (show (fN _).Nodup from (kQ _ []).1) hlt
variable {L:Nat}
noncomputable def ME (L:Nat) (C:Cs) (n:Nd):Prop:=∀ (d N:Nat) (σ:ah) (a:Nat),ld d n→kj n≤N→a≤C.t.length →
 ∃ τ,aa (af L) N bZ [j0 n,.str C.t,.int a,C.F] σ=some (.frz (dR (C.E n a)),σ++τ)
noncomputable def ua (t a d:Nat) (l:Option Nat) (k:Nat):Prop:=t+(if l=some a then 0 else 1)+(2-d)<k+a
theorem ua.zero {t a d l} (h:ua t a d l 0) (ha:a≤t):False :=
 Nat.not_lt.mpr (Nat.le_trans (Nat.le_trans ha (Nat.le_add_right ..)) (Nat.le_add_right ..)) (Nat.lt_of_lt_of_eq h (Nat.zero_add a))
theorem ua.start {t a} (h:t≤4):ua t a 0 none 12:=Nat.lt_of_le_of_lt (Nat.add_le_add_right (Nat.add_le_add_right h 1) 2) (Nat.lt_of_lt_of_le (by decide) (Nat.le_add_right ..))
noncomputable def Nz (L:Nat) (C:Cs) (n:Nd) (c:Nat) (k:Nat):Prop:=∀ (N:Nat) (σ:ah) (d:Nat) (l:Option Nat) (a:Nat),kj n+k+2≤N→a≤C.t.length →
 ua C.t.length a d l k →
 ∃ τ,aa (af L) N dp [j0 (.rounds n c),.str C.t,.int a,C.F,.int d,.int (rC l)] σ=some (.frz (dR (C.R n c k d l a)),σ++τ)
theorem GM {σ τ:ah} {x y:List Nat} (h:x.length+y.length≤4194304):dF .Add (.loc σ.length) (.frz (dR y)) (σ++.lst (dR x)::τ)=some (.loc σ.length,σ++.lst (dR (x++y))::τ):=by
 rw [IP,dC,bt]
 show guard (Nat.ble ((dR x).length+(dR y).length) lim) _ _=_
 rw [ch,ch,Nat.ble_eq_true_of_le (show x.length+y.length≤lim from h),oM]
 exact congrArg (fun z=>some (PV.loc σ.length,z)) (nU _ _ _ _)
theorem rI {N d:Nat} {nd t' a' f' ls:PV} {kn:Kn} {σ:ah} {g:Nat→List Nat} :
  ∀ (es:List Nat) (acc:List Nat) (τ:ah) (o:Option PV) (L':Nat),es.length<L'→(∀ e ∈ es,(g e).length≤5)→acc.length+5*es.length≤1000 →
   (∀ e ∈ es,∀ σ',∃ τ1,aa (af L) N dp [nd,t',.int (e:Nat),f',.int ((d:Int)+1),a'] σ'=some (.frz (dR (g e)),σ'++τ1)) →
   ∃ τ' o',cJ (hG L N) kn L' (.items (dR es)) [(aJ,some nd),(aD,some t'),(bv,some a'),(aw,some f'),(na,some (.int d)),(nh,some ls),(ng,some (.loc σ.length)),(dY,o)] (σ++.lst (dR acc)::τ)
   =kn [(aJ,some nd),(aD,some t'),(bv,some a'),(aw,some f'),(na,some (.int d)),(nh,some ls),(ng,some (.loc σ.length)),(dY,o')] (σ++.lst (dR (acc++es.flatMap g))::τ')
 | [],acc,τ,o,L'+1,_,_,_,_=>⟨τ,o,by rw [List.flatMap_nil,List.append_nil]; rfl⟩
 | _,_,_,_,0,h,_,_,_=>absurd h (Nat.not_lt_zero _)
 | e::r,acc,τ,o,L'+1,hL',h1,h2,h3=>by
  rw [List.length_cons] at h2
  have hg:=h1 e (.head _)
  obtain ⟨τ1,e1⟩:=h3 e (.head _) (σ++.lst (dR acc)::τ)
  obtain ⟨τ2,o2,e2⟩:=rI (kn:=kn) (ls:=ls) r (acc++g e) (τ++τ1) (some (.int (e:Nat))) L' (Nat.lt_of_succ_lt_succ hL') (fun x hx=>h1 x (.tail _ hx)) (by rw [List.length_append]; omega) (fun x hx=>h3 x (.tail _ hx))
  rw [List.append_assoc,List.cons_append] at e1
  have f1:=GM (σ:=σ) (τ:=τ++τ1) (x:=acc) (y:=g e) (by omega)
  refine ⟨τ2,o2,?_⟩
  rw [List.flatMap_cons,← List.append_assoc]
  refine (congrFun vf _).trans (Eq.trans (ig (u:=.v) (qF ..) ?_ ?_) e2) <;> fail "go"
theorem vM {N:Nat} {nd t' a' f' en:PV} {kn kb kc:Kn} {h:Nd} {σ:ah} {g:Nat→List Nat} :
  ∀ (es:List Nat) (acc:List Nat) (τ:ah) (o:Option PV) (L':Nat),es.length<L'→(∀ e ∈ es,(g e).length≤5)→acc.length+5*es.length≤1000 →
   (∀ e ∈ es,∀ σ',∃ τ1,aa (af L) N bZ [j0 h,t',.int (e:Nat),f'] σ'=some (.frz (dR (g e)),σ'++τ1)) →
   ∃ τ' o',cJ (jx L N) (fP L N kn kb kc) L' (.items (dR es)) [(aJ,some nd),(aD,some t'),(bv,some a'),(aw,some f'),(b8,some en),(bJ,some (j0 h)),(dh,some (.loc σ.length)),(dY,o)] (σ++.lst (dR acc)::τ)
   =fP L N kn kb kc [(aJ,some nd),(aD,some t'),(bv,some a'),(aw,some f'),(b8,some en),(bJ,some (j0 h)),(dh,some (.loc σ.length)),(dY,o')] (σ++.lst (dR (acc++es.flatMap g))::τ')
 | [],acc,τ,o,L'+1,_,_,_,_=>⟨τ,o,by rw [List.flatMap_nil,List.append_nil]; rfl⟩
 | _,_,_,_,0,h,_,_,_=>absurd h (Nat.not_lt_zero _)
 | e::r,acc,τ,o,L'+1,hL',h1,h2,h3=>by
  rw [List.length_cons] at h2
  have hg:=h1 e (.head _)
  obtain ⟨τ1,e1⟩:=h3 e (.head _) (σ++.lst (dR acc)::τ)
  obtain ⟨τ2,o2,e2⟩:=vM (kn:=kn) (kb:=kb) (kc:=kc) (nd:=nd) (a':=a') (en:=en) r (acc++g e) (τ++τ1) (some (.int (e:Nat))) L' (Nat.lt_of_succ_lt_succ hL') (fun x hx=>h1 x (.tail _ hx)) (by rw [List.length_append]; omega) (fun x hx=>h3 x (.tail _ hx))
  rw [List.append_assoc,List.cons_append] at e1
  have f1:=GM (σ:=σ) (τ:=τ++τ1) (x:=acc) (y:=g e) (by omega)
  refine ⟨τ2,o2,?_⟩
  rw [List.flatMap_cons,← List.append_assoc]
  refine (congrFun vf _).trans (Eq.trans (ig (u:=.v) (sH ..) ?_ ?_) e2) <;> fail "go"
end
end
section
section
variable {L N:Nat} {σ τ:ah}
theorem Fy {x y:Int}:aj .NotEq (.int x) (.int y) σ=some (!decide (x=y),σ):=rfl
theorem C3 {x y:List PV} (h:x.length+y.length≤4194304):aZ .Add (.loc σ.length) (.frz y) (σ++.lst x::τ)=some (.frz (x++y),σ++.lst x::τ):=by
 rw [Kd,dC,bt]
 exact qS (by rw [List.length_append]; exact h)
noncomputable def rK (least:Nat) (most:Int) (d:Nat) (la a:Int):Bool:=decide ((d:Int)<least) || (!decide (la=a) && (decide (most<0) || decide ((d:Int)<most)))
theorem tH {least:Nat} {most:Int} {d:Nat} {la a:Int}:(rK least most d la a=true∧(decide ((d:Int)<least)=true∨(decide ((d:Int)<least)=false∧(!decide (la=a))=true∧(decide (most<0)=true∨(decide (most<0)=false∧decide ((d:Int)<most)=true))))) ∨
  (rK least most d la a=false∧decide ((d:Int)<least)=false∧((!decide (la=a))=false∨((!decide (la=a))=true∧decide (most<0)=false∧decide ((d:Int)<most)=false))):=by
 unfold rK
 cases decide ((d:Int)<least) <;> cases decide (la=a) <;> cases decide (most<0) <;> cases decide ((d:Int)<most) <;> decide
theorem ML {nd n:PV} {mk:PV} {least:Nat} {most la a:Int} {d:Nat} {t f v:PV} {es:List PV} {S0 S:ah}
  (e0:aa (af L) (N+1) bZ [n,t,.int a,f] (σ++[.lst []])=some (.frz es,S0)) (hl:es.length≤4194304) (hnd:nd=.tup [.str [114,111,117,110,100,115],n,.int least,.int most,mk])
  (e1:cJ (hG L (N+1)) (fE L (N+1)) L (.items es) [(aJ,some nd),(aD,some t),(bv,some (.int a)),(aw,some f),(na,some (.int d)),(nh,some (.int la)),(ng,some (.loc σ.length)),(dY,none)] S0=some (v,S))
  (hg:rK least most d la a=true):aa (af L) (N+2) dp [nd,t,.int a,f,.int d,.int la] σ=some (v,S):=by
 cases hnd
 have f1:=lv (τ:=S0) hl
 have g:=Fy (σ:=σ++[.lst []]) (x:=la) (y:=a)
 rcases tH (least:=least) (most:=most) (d:=d) (la:=la) (a:=a) with ⟨_,q1 | ⟨q1,q2,q3 | ⟨q3,q4⟩⟩⟩ | ⟨h,_⟩
 ·refine ar (gh ..) ?_ ?_ <;> fail "go"
 ·rw [q2] at g
  refine ar (gh ..) ?_ ?_ <;> fail "go"
 ·rw [q2] at g
  refine ar (gh ..) ?_ ?_ <;> fail "go"
 ·rw [hg] at h; cases h
theorem JD {nd n:PV} {mk:PV} {least:Nat} {most la:Int} {a d:Nat} {t f:PV} (hL:1<L)
  (hnd:nd=.tup [.str [114,111,117,110,100,115],n,.int least,.int most,mk])
  (hg:rK least most d la a=false):aa (af L) (N+2) dp [nd,t,.int a,f,.int d,.int la] σ=some (.frz (dR (fN [a])),σ++[.lst []]):=by
 cases hnd
 have g:=Fy (σ:=σ++[.lst []]) (x:=la) (y:=a)
 have g2:aZ .Add (.loc σ.length) (.frz [.int a]) (σ++[.lst []])=some (.frz (dR [a]),σ++[.lst []]):=C3 (τ:=[]) (x:=[]) (y:=[.int a]) (show 0+1≤4194304 by decide)
 have g3:=pH (L:=L) (N:=N) (σ:=σ++[.lst []]) (l:=[a]) hL (show 1≤100000 by decide)
 rcases tH (least:=least) (most:=most) (d:=d) (la:=la) (a:=a) with ⟨h,_⟩ | ⟨_,q1,q2 | ⟨q2,q3,q4⟩⟩
 ·rw [hg] at h; cases h
 ·rw [q2] at g
  refine ar (gh ..) ?_ ?_ <;> fail "go"
 ·rw [q2] at g
  refine ar (gh ..) ?_ ?_ <;> fail "go"
theorem NA {nd n:PV} {mk:PV} {least:Nat} {most:Int} {a d:Nat} {t f la:PV} {o:Option PV} {fm:List Nat} (hL:fm.length+1<L) (hl:fm.length≤1000)
  (hnd:nd=.tup [.str [114,111,117,110,100,115],n,.int least,.int most,mk]) :
  fE L (N+1) [(aJ,some nd),(aD,some t),(bv,some (.int a)),(aw,some f),(na,some (.int d)),(nh,some la),(ng,some (.loc σ.length)),(dY,o)] (σ++.lst (dR fm)::τ)
  =some (.frz (dR (fN (fm++(if d<least then [] else [a])))),σ++.lst (dR fm)::τ):=by
 cases hnd
 by_cases h:d<least
 ·rw [if_pos h,List.append_nil]
  have q1:decide ((d:Int)<least)=true:=di (Int.ofNat_lt.mpr h)
  have g:=zV (L:=L) (N:=N) (σ:=σ++.lst (dR fm)::τ) (l:=fm) (k:=σ.length) (bt _ _ _) (by omega) (by omega)
  refine ar (km ..) ?_ ?_ <;> fail "go"
 ·rw [if_neg h]
  have q1:decide ((d:Int)<least)=false:=dn fun h'=>h (Int.ofNat_lt.mp h')
  have g1:=C3 (σ:=σ) (τ:=τ) (x:=dR fm) (y:=[.int a]) (by rw [ch]; show _+1≤_; omega)
  have g:=pH (L:=L) (N:=N) (σ:=σ++.lst (dR fm)::τ) (l:=fm++[a]) (by rw [List.length_append]; exact hL) (by rw [List.length_append]; show _+1≤_; omega)
  rw [oM] at g
  have g:aa (af L) (N+1) dT [.frz (dR fm++[.int a])] (σ++.lst (dR fm)::τ)=some (.frz (dR (fN (fm++[a]))),σ++.lst (dR fm)::τ):=g
  refine ar (km ..) ?_ ?_ <;> fail "go"
end
end
section
section
variable {C:Cs} {L:Nat}
theorem C7 {least:Nat} {most:Int} {d:Nat} {l:Option Nat} {a:Nat}:rK least most d (rC l) a=dG least most d l a:=by
 have e1:decide ((d:Int)<least)=decide (d<least):=by rw [Bool.eq_iff_iff,decide_eq_true_iff,decide_eq_true_iff]; exact Int.ofNat_lt
 have e2:(!decide (rC l=(a:Int)))=decide (l≠some a):=by
  rw [Bool.eq_iff_iff,Bool.not_eq_true',decide_eq_false_iff_not,decide_eq_true_iff]
  refine not_congr ?_
  cases l with
  | none=>exact ⟨fun h=>by have h:(-1:Int)=a:=h; omega,fun h=>nomatch h⟩
  | some b=>exact ⟨fun h=>congrArg some (Int.ofNat_inj.mp h),fun h=>congrArg Int.ofNat (Option.some.inj h)⟩
 unfold rK dG
 rw [e1,e2]
theorem BP {g:Nat→List Nat}:∀ es:List Nat,(∀ e ∈ es,(g e).length≤5)→(es.flatMap g).length≤5*es.length
 | [],_=>Nat.le_refl _
 | e::r,h=>by
  have h1:=h e (.head _)
  have h2:=BP r fun x hx=>h x (.tail _ hx)
  rw [List.flatMap_cons,List.length_append,List.length_cons]; omega
theorem Ck {l:Option Nat} {a e d k t:Nat} {least:Nat} {most:Int} (hle:least≤2) (hgo:dG least most d l a=true) (hm:ua t a d l (k+1)) (h1:a≤e):ua t e (d+1) (some a) k:=by
 have F:2-(d+1)+1≤(if l=some a then 0 else 1)+(2-d):=by
  rcases Bool.or_eq_true_iff.mp hgo with h | h
  ·exact Nat.le_trans (Nat.le_of_eq (Nat.sub_add_cancel (Nat.sub_pos_of_lt (Nat.lt_of_lt_of_le (of_decide_eq_true h) hle)))) (Nat.le_add_left ..)
  ·rw [if_neg (of_decide_eq_true (Bool.and_eq_true_iff.mp h).1),Nat.add_comm 1]
   exact Nat.succ_le_succ (Nat.sub_le_sub_left (Nat.le_succ d) 2)
 unfold ua at hm ⊢
 generalize 2-(d+1)=v at F ⊢
 generalize 2-d=u at F hm
 generalize (if l=some a then 0 else 1)=w at F hm
 rcases Nat.eq_or_lt_of_le h1 with h | h
 ·subst h
  rw [if_pos rfl]; omega
 ·rw [if_neg fun q=>Nat.ne_of_lt h (Option.some.inj q)]; omega
theorem vN (hL:2000≤L) (hC:C.Ok) {n:Nd} {dn:Nat} (hn:ld dn n) {c:Nat} (hc:c<7) (h:ME L C n):∀ k,Nz L C n c k
 | 0=>fun N σ d l a hN ha hm=>(hm.zero ha).elim
 | k+1=>fun N σ d l a hN ha hm=>by
  have ih:=vN hL hC hn hc h k
  obtain ⟨M,rfl⟩:∃ M,N=M+2:=⟨N-2,by omega⟩
  have hlen:=hC.len
  have hEl:=Au hC n ha
  have hst:C.R n c (k+1) d l a=fN ((if dG (au c).least (au c).most d l a=true then (C.E n a).flatMap fun e=>C.R n c k (d+1) (some a) e else [])++(if d<(au c).least then [] else [a])):=rfl
  have hgi:=C7 (least:=(au c).least) (most:=(au c).most) (d:=d) (l:=l) (a:=a)
  rw [hst]
  by_cases hgo:dG (au c).least (au c).most d l a=true
  ·rw [if_pos hgo]
   obtain ⟨τ0,e0⟩:=h dn (M+1) (σ++[.lst []]) a hn (by omega) ha
   rw [List.append_assoc,List.cons_append,List.nil_append] at e0
   have hg5:∀ e ∈ C.E n a,(C.R n c k (d+1) (some a) e).length≤5:=fun e he=>K7 hC n c k _ _ (vB n ha e he).2
   obtain ⟨τ1,o1,e1⟩:=rI (L:=L) (N:=M+1) (d:=d) (nd:=j0 (.rounds n c)) (kn:=fE L (M+1)) (t':=.str C.t) (a':=.int a) (f':=C.F) (ls:=.int (rC l)) (σ:=σ) (g:=fun e=>C.R n c k (d+1) (some a) e) (C.E n a) [] τ0 none L (by omega)
    hg5 (by show 0+_≤_; omega) (fun e he σ'=>by
     obtain ⟨h1,h2⟩:=vB n ha e he
     exact ih (M+1) σ' (d+1) (some a) e (by omega) h2 (Ck (wt c hc) hgo hm h1))
   have hfl:=BP (C.E n a) hg5
   rw [List.nil_append] at e1
   refine ⟨.lst (dR ((C.E n a).flatMap fun e=>C.R n c k (d+1) (some a) e))::τ1,ML e0 (by rw [ch]; omega) rfl (e1.trans (NA (by omega) (by omega) rfl)) (hgi.trans hgo)⟩
  ·rw [if_neg hgo]
   have hgf:dG (au c).least (au c).most d l a=false:=Bool.eq_false_iff.mpr hgo
   have c1:¬ d<(au c).least:=fun hh=>by
    unfold dG at hgf
    rw [di hh] at hgf; cases hgf
   rw [if_neg c1]
   exact ⟨[.lst []],JD (by omega) rfl (hgi.trans hgf)⟩
end
end
section
section
variable {L N:Nat} {σ:ah}
theorem Ch {x y:List PV} (h:x.length+y.length≤4194304):aZ .Add (.frz x) (.frz y) σ=some (.frz (x++y),σ):=by
 rw [Kg]
 exact qS (by rw [List.length_append]; exact h)
end
section
variable {C:Cs} {L N:Nat} {σ:ah} {a:Nat}
theorem Lf (hC:C.Ok) {i:Nat}:aa (af L) (N+2) bZ [j0 (.one i),.str C.t,.int a,.str (aX C.fi C.fm C.fs)] σ=some (.frz (dR (C.E (.one i) a)),σ):=by
 have hlen:=hC.len
 have h1:=dE (τ:=σ) (w:=C.t) (aO (m:=4) hlen (by decide))
 by_cases hlt:a<C.t.length
 ·have hg:C.t[a]?=some C.t[a]:=List.getElem?_eq_getElem hlt
  have ht:=GZ (L:=L) (N:=N) (i:=i) (fi:=C.fi) (fm:=C.fm) (fs:=C.fs) (σ:=σ) (hC.low _ (List.getElem_mem hlt))
  have hE:C.E (.one i) a=if oR (gE i) C.fi C.fs C.t[a]=true then [a+1] else []:=by
   show (if Cs.fit C i a=true then _ else _)=_
   unfold Cs.fit zl; rw [hg]
  rw [hE]
  have q1:decide ((a:Int)<C.t.length)=true:=di (Int.ofNat_lt.mpr hlt)
  have h2:=dK (τ:=σ) (by omega) hg
  generalize oR (gE i) C.fi C.fs C.t[a]=b at ht ⊢
  cases b <;> (refine ar (gH ..) ?_ ?_ <;> fail "go")
 ·have hg:C.t[a]?=none:=List.getElem?_eq_none (Nat.le_of_not_lt hlt)
  have hE:C.E (.one i) a=[]:=by
   show (if Cs.fit C i a=true then _ else _)=_
   unfold Cs.fit zl; rw [hg]; rfl
  rw [hE]
  have q1:decide ((a:Int)<C.t.length)=false:=dn fun h=>hlt (Int.ofNat_lt.mp h)
  refine ar (gH ..) ?_ ?_ <;> fail "go"
theorem Hr (hC:C.Ok) {i:Nat} (hi:i<7) (ha:a≤C.t.length):aa (af L) (N+3) bZ [j0 (.place i),.str C.t,.int a,.str (aX C.fi C.fm C.fs)] σ=some (.frz (dR (C.E (.place i) a)),σ):=by
 have hlen:=hC.len
 have ht:=Ei (L:=L) (N:=N) (σ:=σ) (fi:=C.fi) (fm:=C.fm) (fs:=C.fs) hi (by omega) ha
 have hE:C.E (.place i) a=if md (cQ i) C.fm C.t a=true then [a] else []:=rfl
 rw [hE]
 generalize md (cQ i) C.fm C.t a=b at ht ⊢
 cases b <;> (refine ar (gH ..) ?_ ?_ <;> fail "go")
theorem LS {x v:PV} {its:List PV} {t f:PV} {S:ah} (hx:x=.frz its) (hl:its.length≤4194304)
  (e:cJ (cW L N) (cE L N) L (.items its) [(aJ,some (.tup [.str [114,111,119],x])),(aD,some t),(bv,some (.int a)),(aw,some f),(b8,some (.frz (dR [a]))),(bJ,none),(dh,none),(dY,none)] σ=some (v,S)) :
  aa (af L) (N+1) bZ [.tup [.str [114,111,119],x],t,.int a,f] σ=some (v,S):=by
 cases hx
 have h1:=lv (τ:=σ) hl
 rw [show dR [a]=[.int (a:Int)] from rfl] at e
 refine ar (gH ..) ?_ ?_ <;> fail "go"
theorem MK {x y t f:PV} {e1 e2:List Nat} {τ1 τ2:ah} (hL:15≤L+3) (l1:e1.length≤5) (l2:e2.length≤5) (l3:(fN e1).length≤5)
  (h1:aa (af (L+3)) (N+1) bZ [x,t,.int a,f] σ=some (.frz (dR e1),σ++τ1)) (h2:aa (af (L+3)) (N+1) bZ [y,t,.int a,f] (σ++τ1)=some (.frz (dR e2),σ++(τ1++τ2))) :
  aa (af (L+3)) (N+2) bZ [.tup [.str [98,114,97,110,99,104,101,115],.frz [x,y]],t,.int a,f] σ=some (.frz (dR (fN (fN e1++e2))),σ++(τ1++τ2)):=by
 have f1:=Ch (σ:=σ++τ1) (x:=[]) (y:=dR e1) (by rw [ch]; show 0+_≤_; omega)
 rw [List.nil_append] at f1
 have f2:=pH (L:=L+3) (N:=N) (σ:=σ++τ1) (l:=e1) (by omega) (by omega)
 have f3:=Ch (σ:=σ++(τ1++τ2)) (x:=dR (fN e1)) (y:=dR e2) (by rw [ch,ch]; omega)
 rw [← oM] at f3
 have f4:=pH (L:=L+3) (N:=N) (σ:=σ++(τ1++τ2)) (l:=fN e1++e2) (by rw [List.length_append]; omega) (by rw [List.length_append]; omega)
 have g0:∀ ρ:cP,cJ (cW (L+3) (N+1)) (cE (L+3) (N+1)) (L+1) (.items []) ρ=cE (L+3) (N+1) ρ:=fun Z=>ly
 have g1:cJ (cW (L+3) (N+1)) (cE (L+3) (N+1)) (L+2) (.items [y]) [(aJ,some (.tup [.str [98,114,97,110,99,104,101,115],.frz [x,y]])),(aD,some t),(bv,some (.int a)),(aw,some f),(b8,some (.frz (dR (fN e1)))),(bJ,some x),(dh,none),(dY,none)] (σ++τ1)=some (.frz (dR (fN (fN e1++e2))),σ++(τ1++τ2)):=by
  have k:=(congrFun (g0 [(aJ,some (.tup [.str [98,114,97,110,99,104,101,115],.frz [x,y]])),(aD,some t),(bv,some (.int a)),(aw,some f),(b8,some (.frz (dR (fN (fN e1++e2))))),(bJ,some y),(dh,none),(dY,none)]) (σ++(τ1++τ2))).trans (ar (a:=.frz (dR (fN (fN e1++e2)))) (σ':=σ++(τ1++τ2)) (mr ..) (by fail "go") (by kernel_rfl))
  refine (congrFun vf _).trans (ar (jk ..) ?_ ?_) <;> fail "go"
 have g2:cJ (cW (L+3) (N+1)) (cE (L+3) (N+1)) (L+3) (.items [x,y]) [(aJ,some (.tup [.str [98,114,97,110,99,104,101,115],.frz [x,y]])),(aD,some t),(bv,some (.int a)),(aw,some f),(b8,some (.frz [])),(bJ,none),(dh,none),(dY,none)] σ=some (.frz (dR (fN (fN e1++e2))),σ++(τ1++τ2)):=by
  refine (congrFun vf _).trans (ar (jk ..) ?_ ?_) <;> fail "go"
 clear g1 g0
 refine ar (gH ..) ?_ ?_ <;> fail "go"
theorem GB {nd n mk:PV} {least:Nat} {most:Int} {t f v:PV} {S:ah} (hnd:nd=.tup [.str [114,111,117,110,100,115],n,.int least,.int most,mk])
  (h:aa (af L) N dp [nd,t,.int a,f,.int 0,.int (-1)] σ=some (v,S)):aa (af L) (N+1) bZ [nd,t,.int a,f] σ=some (v,S):=by
 cases hnd
 refine ar (gH ..) ?_ ?_ <;> fail "go"
end
end
section
section
variable {C:Cs} {L:Nat}
theorem Ks {N:Nat} {σ τ1:ah} {t a f x w:PV} {es fm:List Nat} {o1 o2 o3 o':Option PV} {kn kb kc:Kn} (hes:es.length≤100000) (hfl:fm.length≤1000) (hL:2000≤L)
  (e1:cJ (jx L (N+1)) (fP L (N+1) kn kb kc) L (.items (dR es)) [(aJ,some (.tup [.str [114,111,119],x])),(aD,some t),(bv,some a),(aw,some f),(b8,some (.frz (dR es))),(bJ,some w),(dh,some (.loc σ.length)),(dY,o3)] (σ++[.lst []])
  =fP L (N+1) kn kb kc [(aJ,some (.tup [.str [114,111,119],x])),(aD,some t),(bv,some a),(aw,some f),(b8,some (.frz (dR es))),(bJ,some w),(dh,some (.loc σ.length)),(dY,o')] (σ++.lst (dR fm)::τ1))
  {v:PV} {S:ah} (e2:kn [(aJ,some (.tup [.str [114,111,119],x])),(aD,some t),(bv,some a),(aw,some f),(b8,some (.frz (dR (fN fm)))),(bJ,some w),(dh,some (.loc σ.length)),(dY,o')] (σ++.lst (dR fm)::τ1)=some (v,S)) :
  cW L (N+1) w [(aJ,some (.tup [.str [114,111,119],x])),(aD,some t),(bv,some a),(aw,some f),(b8,some (.frz (dR es))),(bJ,o1),(dh,o2),(dY,o3)] kn kb kc σ=some (v,S):=by
 have g:=zV (L:=L) (N:=N) (σ:=σ++.lst (dR fm)::τ1) (l:=fm) (k:=σ.length) (bt _ _ _) (by omega) (by omega)
 have e3:=e1.trans (ar (a:=v) (σ':=S) (r_ ..) (by fail "go") (by kernel_rfl))
 have f1:=lv (τ:=σ++[.lst []]) (l:=dR es) (by rw [ch]; omega)
 clear e1
 refine ar (jk ..) ?_ ?_ <;> fail "go"
noncomputable def Mk (L:Nat) (C:Cs) (n:Nd):Prop:=∀ (d N:Nat) (σ:ah) (es:List Nat) (L':Nat) (x a:PV) (o1 o2 o3:Option PV),okL d n→kj n≤N→AE n<L'→es.length≤5→(∀ e ∈ es,e≤C.t.length) →
   ∃ τ,cJ (cW L N) (cE L N) L' (.items (encs n)) [(aJ,some (.tup [.str [114,111,119],x])),(aD,some (.str C.t)),(bv,some a),(aw,some C.F),(b8,some (.frz (dR es))),(bJ,o1),(dh,o2),(dY,o3)] σ
   =some (.frz (dR (C.Ls n es)),σ++τ)
theorem HE (hL:2000≤L):Mk L C .nil:=fun d N σ es L' x a o1 o2 o3 h hN hL' h1 h2=>by
 obtain ⟨M,rfl⟩:∃ M,L'=M+1:=⟨L'-1,by have:0<L':=hL'; omega⟩
 refine ⟨[],?_⟩
 rw [List.append_nil]
 refine (congrFun ly _).trans (ar (mr ..) ?_ ?_) <;> fail "go"
theorem Fu (hL:2000≤L) (hC:C.Ok) {hd u:Nd} (ih:ME L C hd) (iu:Mk L C u):Mk L C (.cons hd u):=fun d N σ es L' x a o1 o2 o3 h hN hL' h1 h2=>by
 have hN:max (kj hd) (kj u)≤N:=hN
 have hL':AE u+1<L':=hL'
 have hne:=GC hd
 obtain ⟨M,rfl⟩:∃ M,L'=M+1:=⟨L'-1,by omega⟩
 obtain ⟨M',rfl⟩:∃ M',N=M'+1:=⟨N-1,by omega⟩
 have hg5:∀ e ∈ es,(C.E hd e).length≤5:=fun e he=>Au hC hd (h2 e he)
 obtain ⟨τ1,o',e1⟩:=vM (L:=L) (N:=M'+1) (nd:=.tup [.str [114,111,119],x]) (kn:=cJ (cW L (M'+1)) (cE L (M'+1)) M (.items (encs u))) (kb:=cE L (M'+1)) (kc:=cJ (cW L (M'+1)) (cE L (M'+1)) M (.items (encs u)))
  (t':=.str C.t) (a':=a) (f':=C.F) (en:=.frz (dR es)) (h:=hd) (σ:=σ) (g:=C.E hd) es [] [] o3 L (by omega) hg5 (by show 0+_≤_; omega) (fun e he σ'=>ih d (M'+1) σ' e h.1 (by omega) (h2 e he))
 have hfl:=BP es hg5
 rw [List.nil_append] at e1
 have hin:∀ e ∈ es.flatMap (C.E hd),e≤C.t.length:=fun e he=>by
  obtain ⟨y,hy,hz⟩:=List.mem_flatMap.mp he
  exact ((vB (C:=C) hd (h2 y hy)) e hz).2
 have hlen:=hC.len
 obtain ⟨τ2,e2⟩:=iu d (M'+1) (σ++.lst (dR (es.flatMap (C.E hd)))::τ1) (fN (es.flatMap (C.E hd))) M x a (some (j0 hd)) (some (.loc σ.length)) o' h.2 (by omega) (by omega)
  (qx (n:=5) fun e he=>by have:=hin e he; omega) (fun e he=>hin e (i5 he))
 rw [List.append_assoc] at e2
 exact ⟨_,(congrFun vf _).trans (Ks (by omega) (by omega) hL e1 e2)⟩
theorem l0 (hL:2000≤L) (hC:C.Ok):∀ n:Nd,ME L C n∧Mk L C n
 | .one i=>⟨fun d N σ a h hN ha=>by
   obtain ⟨M,rfl⟩:∃ M,N=M+2:=⟨N-2,by have:3≤N:=hN; omega⟩
   exact ⟨[],by rw [List.append_nil]; exact Lf hC⟩,fun _ _ _ _ _ _ _ _ _ _ h=>h.elim⟩
 | .place i=>⟨fun d N σ a h hN ha=>by
   obtain ⟨M,rfl⟩:∃ M,N=M+3:=⟨N-3,by have:3≤N:=hN; omega⟩
   have hi:i<7:=by cases d <;> exact h
   exact ⟨[],by rw [List.append_nil]; exact Hr hC hi ha⟩,fun _ _ _ _ _ _ _ _ _ _ h=>h.elim⟩
 | .row l=>⟨fun
   | 0,_,_,_,h,_,_=>h.elim
   | d+1,N,σ,a,h,hN,ha=>by
    have hN:kj l+1≤N:=hN
    obtain ⟨M,rfl⟩:∃ M,N=M+1:=⟨N-1,by omega⟩
    have h1:AE l≤3:=h.2
    obtain ⟨τ,e⟩:=(l0 hL hC l).2 d M σ [a] L (.frz (encs l)) (.int a) none none none h.1 (by omega) (by omega) (show 1≤5 by decide) (fun e he=>by rw [List.mem_singleton.mp he]; exact ha)
    exact ⟨τ,LS rfl (by rw [pQ]; omega) e⟩,fun _ _ _ _ _ _ _ _ _ _ h=>h.elim⟩
 | .branches x y=>⟨fun
   | 0,_,_,_,h,_,_=>h.elim
   | d+1,N,σ,a,h,hN,ha=>by
    have hN:max (kj x) (kj y)+3≤N:=hN
    obtain ⟨M,rfl⟩:∃ M,N=M+2:=⟨N-2,by omega⟩
    obtain ⟨τ1,e1⟩:=(l0 hL hC x).1 (d+1) (M+1) σ a h.1 (by omega) ha
    obtain ⟨τ2,e2⟩:=(l0 hL hC y).1 (d+1) (M+1) (σ++τ1) a h.2.1 (by omega) ha
    rw [List.append_assoc] at e2
    obtain ⟨K,rfl⟩:∃ K,L=K+3:=⟨L-3,by omega⟩
    have hlen:=hC.len
    exact ⟨τ1++τ2,MK (by omega) (Au hC x ha) (Au hC y ha) (qx (n:=5) fun e he=>by have:=(vB x ha e he).2; omega) e1 e2⟩,fun _ _ _ _ _ _ _ _ _ _ h=>h.elim⟩
 | .rounds n c=>⟨fun
   | 0,_,_,_,h,_,_=>h.elim
   | d+1,N,σ,a,h,hN,ha=>by
    have hN:kj n+16≤N:=hN
    have hlen:=hC.len
    obtain ⟨M,rfl⟩:∃ M,N=M+1:=⟨N-1,by omega⟩
    obtain ⟨τ,e⟩:=vN hL hC h.1 h.2 (l0 hL hC n).1 12 M σ 0 none a (by omega) ha (ua.start hC.len)
    exact ⟨τ,GB rfl e⟩,fun _ _ _ _ _ _ _ _ _ _ h=>h.elim⟩
 | .nil=>⟨fun d N σ a h=>by cases d <;> exact h.elim,HE hL⟩
 | .cons hd u=>⟨fun d N σ a h=>by cases d <;> exact h.elim,Fu hL hC (l0 hL hC hd).1 (l0 hL hC u).2⟩
end
end
section
noncomputable def kp (c:Nat):Bool:=decide (97≤c∧c≤122) || decide (65≤c∧c≤90) || decide (48≤c∧c≤57) || decide (c=95)
noncomputable def io (c:Nat):Nat:=if 97≤c∧c≤122 then c-32 else if 65≤c∧c≤90 then c+32 else c
noncomputable def rn (k c:Nat):Bool:=match k with
 | 100=>decide (48≤c∧c≤57)
 | 119=>kp c
 | 87=>!kp c
 | 115=>decide (c ∈ [32,9,10,13,12,11])
 | _=>!decide (c ∈ [32,9,10,13,12,11])
inductive fc where
 | rg (a b:Nat)
 | kl (k:Nat)
noncomputable def fc.v:fc→PV
 | .rg a b=>Mine.rg a b
 | .kl k=>Mine.kl k
noncomputable def fc.ok:fc→Prop
 | .rg _ _=>True
 | .kl k=>k ∈ [100,119,87,115,83]
noncomputable def fc.holds (c:Nat):fc→Bool
 | .rg a b=>decide (a≤c) && decide (c≤b)
 | .kl k=>rn k c
section
variable {L N c:Nat} {σ:ah}
theorem mo {a b:Nat}:aj .LtE (.str [a]) (.str [b]) σ=some (decide (a≤b),σ):=by
 show some (!oA [b] [a],σ)=_
 rw [JP]
 refine congrArg (fun b=>some (b,σ)) ?_
 rw [Bool.eq_iff_iff,Bool.not_eq_true',decide_eq_false_iff_not,decide_eq_true_iff,Nat.not_lt]
theorem jH (p q:Bool):((p && q)=true∧p=true∧q=true)∨((p && q)=false∧p=false)∨((p && q)=false∧p=true∧q=false):=by cases p <;> cases q <;> decide
theorem E4 {x:Int} {n:Nat} (h:x=n) (hn:n<128):rS [.int x] σ=some (.str [n],σ):=by
 subst h
 rw [HL,di (show (0:Int)≤n by omega),di (show (n:Int)<128 by omega)]; rfl
theorem K0 {a b:Nat}:decide (a≤c∧c≤b)=(decide (a≤c) && decide (c≤b)):=Bool.decide_and ..
theorem yA (hc:c<128):aa (af L) (N+1) gL [.str [c]] σ=some (.str [io c],σ):=by
 have h1:=mo (σ:=σ) (a:=97) (b:=c)
 have h2:=mo (σ:=σ) (a:=c) (b:=122)
 have h3:=mo (σ:=σ) (a:=65) (b:=c)
 have h4:=mo (σ:=σ) (a:=c) (b:=90)
 rcases jH (decide (97≤c)) (decide (c≤122)) with ⟨_,p,q⟩ | w
 ·have p':=of_decide_eq_true p
  have q':=of_decide_eq_true q
  have g:=E4 (σ:=σ) (x:=(c:Int)-32) (n:=c-32) (Int.ofNat_sub (Nat.le_trans (by decide) p')).symm (Nat.lt_of_le_of_lt (Nat.sub_le ..) hc)
  rw [show io c=c-32 from if_pos ⟨p',q'⟩]
  rw [p] at h1; rw [q] at h2
  refine ar (iF ..) ?_ ?_ <;> fail "go"
 ·have n1:¬ (97≤c∧c≤122):=fun h=>by
   rcases w with ⟨w,_⟩ | ⟨w,_,_⟩ <;> (rw [← K0,di h] at w; cases w)
  have e:io c=if 65≤c∧c≤90 then c+32 else c:=if_neg n1
  rw [e]
  rcases jH (decide (65≤c)) (decide (c≤90)) with ⟨_,p,q⟩ | v
  ·have p':=of_decide_eq_true p
   have q':=of_decide_eq_true q
   have g:=E4 (σ:=σ) (x:=(c:Int)+32) (n:=c+32) (by omega) (by omega)
   rw [if_pos ⟨p',q'⟩]
   rw [p] at h3; rw [q] at h4
   rcases w with ⟨_,w⟩ | ⟨_,w,w'⟩
   ·rw [w] at h1
    refine ar (iF ..) ?_ ?_ <;> fail "go"
   ·rw [w] at h1; rw [w'] at h2
    refine ar (iF ..) ?_ ?_ <;> fail "go"
  ·have n2:¬ (65≤c∧c≤90):=fun h=>by
    rcases v with ⟨w,_⟩ | ⟨w,_,_⟩ <;> (rw [← K0,di h] at w; cases w)
   rw [if_neg n2]
   clear n1 n2 e hc
   rcases w with ⟨_,w⟩ | ⟨_,w,w'⟩ <;> rcases v with ⟨_,v⟩ | ⟨_,v,v'⟩ <;> (first | rw [w'] at h2 | skip) <;> (first | rw [v'] at h4 | skip) <;> rw [w] at h1 <;> rw [v] at h3 <;> (refine ar (iF ..) ?_ ?_ <;> fail "go")
end
end
section
section
variable {L N c:Nat} {σ:ah}
theorem xo:aa (af L) (N+1) ea [.str [c]] σ=some (.bool (kp c),σ):=by
 have h1:=mo (σ:=σ) (a:=97) (b:=c)
 have h2:=mo (σ:=σ) (a:=c) (b:=122)
 have h3:=mo (σ:=σ) (a:=65) (b:=c)
 have h4:=mo (σ:=σ) (a:=c) (b:=90)
 have h5:=mo (σ:=σ) (a:=48) (b:=c)
 have h6:=mo (σ:=σ) (a:=c) (b:=57)
 have h7:aj .Eq (.str [c]) (.str [95]) σ=some (decide (c=95),σ):=by
  rw [eqs_ok]
  refine congrArg (fun b=>some (b,σ)) ?_
  rw [Bool.eq_iff_iff,decide_eq_true_iff,decide_eq_true_iff,List.cons.injEq]
  exact and_iff_left rfl
 unfold kp
 rw [K0,K0,K0]
 generalize decide (97≤c)=a1 at h1 ⊢
 generalize decide (c≤122)=a2 at h2 ⊢
 generalize decide (65≤c)=a3 at h3 ⊢
 generalize decide (c≤90)=a4 at h4 ⊢
 generalize decide (48≤c)=a5 at h5 ⊢
 generalize decide (c≤57)=a6 at h6 ⊢
 generalize decide (c=95)=a7 at h7 ⊢
 rcases jH a1 a2 with ⟨_,rfl,rfl⟩ | ⟨_,rfl⟩ | ⟨_,rfl,rfl⟩
 ·refine ar (jb ..) ?_ ?_ <;> fail "go"
 all_goals
  rcases jH a3 a4 with ⟨_,rfl,rfl⟩ | v
  ·refine ar (jb ..) ?_ ?_ <;> fail "go"
  ·rcases v with ⟨_,rfl⟩ | ⟨_,rfl,rfl⟩ <;> rcases jH a5 a6 with ⟨_,rfl,rfl⟩ | ⟨_,rfl⟩ | ⟨_,rfl,rfl⟩ <;> (refine ar (jb ..) ?_ ?_ <;> fail "go")
theorem Lc:aj .In (.str [c]) uk σ=some (decide (c ∈ [32,9,10,13,12,11]),σ):=mem_ok
theorem Fc {k:Nat} (hk:k ∈ [100,119,87,115,83]):aa (af L) (N+2) lD [.str [k],.str [c]] σ=some (.bool (rn k c),σ):=by
 have hw:=xo (L:=L) (N:=N) (c:=c) (σ:=σ)
 have hb:=Lc (c:=c) (σ:=σ)
 rw [List.mem_cons,List.mem_cons,List.mem_cons,List.mem_cons,List.mem_singleton] at hk
 rcases hk with rfl | rfl | rfl | rfl | rfl
 ·have h5:=mo (σ:=σ) (a:=48) (b:=c)
  have h6:=mo (σ:=σ) (a:=c) (b:=57)
  show _=some (PV.bool (decide (48≤c∧c≤57)),σ)
  rw [K0]
  generalize decide (48≤c)=a5 at h5 ⊢
  generalize decide (c≤57)=a6 at h6 ⊢
  rw [show (a5 && a6)=((a5 && a6) != false) by cases a5 <;> cases a6 <;> rfl]
  rcases jH a5 a6 with ⟨_,rfl,rfl⟩ | ⟨_,rfl⟩ | ⟨_,rfl,rfl⟩ <;> (refine ar (i_ ..) ?_ ?_ <;> fail "go")
 ·rw [show rn 119 c=(kp c != false) from (Bool.bne_false _).symm]
  refine ar (i_ ..) ?_ ?_ <;> fail "go"
 ·rw [show rn 87 c=(kp c != true) from (Bool.bne_true _).symm]
  refine ar (i_ ..) ?_ ?_ <;> fail "go"
 ·rw [show rn 115 c=(decide (c ∈ [32,9,10,13,12,11]) != false) from (Bool.bne_false _).symm]
  refine ar (i_ ..) ?_ ?_ <;> fail "go"
 ·rw [show rn 83 c=(decide (c ∈ [32,9,10,13,12,11]) != true) from (Bool.bne_true _).symm]
  refine ar (i_ ..) ?_ ?_ <;> fail "go"
theorem IG:∀ {it:fc},it.ok→aa (af L) (N+3) ju [it.v,.str [c]] σ=some (.bool (it.holds c),σ)
 | .rg a b,_=>by
  have q1:decide ((a:Int)≤c)=decide (a≤c):=by rw [Bool.eq_iff_iff,decide_eq_true_iff,decide_eq_true_iff]; exact Int.ofNat_le
  have q2:decide ((c:Int)≤b)=decide (c≤b):=by rw [Bool.eq_iff_iff,decide_eq_true_iff,decide_eq_true_iff]; exact Int.ofNat_le
  show _=some (PV.bool (decide (a≤c) && decide (c≤b)),σ)
  rw [← q1,← q2]
  cases hb:decide ((a:Int)≤c) <;> (refine ar (oz L (N+2) (.tup [.str [114,97,110,103,101],.int a,.int b]) _) ?_ ?_ <;> fail "go")
 | .kl k,hi=>by
  have h:=Fc (L:=L) (N:=N) (c:=c) (σ:=σ) hi
  refine ar (oz L (N+2) (.tup [.str [99,108,97,115,115],.str [k]]) _) ?_ ?_ <;> fail "go"
end
end
section
noncomputable def yo (σ:ah) (v:PV) (its:List fc):Prop:=v=.frz (its.map fc.v)∨∃ k,v=.loc k∧σ[k]?=some (.lst (its.map fc.v))
section
variable {L N c:Nat} {σ:ah}
theorem Cq {it:fc} {xi:PV} {o:Option PV} {kn kb kc:Kn} {b:Bool} (hi:it.ok) (h2:it.holds c=false→kn [(eC,some xi),(g7,some (.str [c])),(m5,some it.v)] σ=some (.bool b,σ)) :
  fy L (N+3) it.v [(eC,some xi),(g7,some (.str [c])),(m5,o)] kn kb kc σ=some (.bool (it.holds c || b),σ):=by
 have h1:=IG (L:=L) (N:=N) (c:=c) (σ:=σ) hi
 cases hv:it.holds c <;> rw [hv] at h1
 ·have h2:=h2 hv
  refine ar (kJ ..) ?_ ?_ <;> fail "go"
 ·clear h2
  refine ar (kJ ..) ?_ ?_ <;> fail "go"
theorem vI:∀ (its:List fc) (L':Nat) (xi:PV) (o:Option PV),its.length<L'→(∀ it ∈ its,it.ok) →
  cJ (fy L (N+3)) (gT L (N+3)) L' (.items (its.map fc.v)) [(eC,some xi),(g7,some (.str [c])),(m5,o)] σ=some (.bool (its.any (fc.holds c)),σ)
 | _,0,_,_,h,_=>absurd h (Nat.not_lt_zero _)
 | [],M+1,xi,o,_,_=>by
  refine (congrFun ly _).trans (ar (kC ..) ?_ ?_) <;> fail "go"
 | it::r,M+1,xi,o,h,hi=>(congrFun vf _).trans (Cq (hi it (.head _)) fun Z=>vI r M xi (some it.v) (Nat.lt_of_succ_lt_succ h) fun x hx=>hi x (.tail _ hx))
theorem vR {k:Nat}:∀ (its:List fc) (pre:List PV) (L' i:Nat) (xi:PV) (o:Option PV),σ[k]?=some (.lst (pre++its.map fc.v))→pre.length=i→its.length<L'→(∀ it ∈ its,it.ok) →
  cJ (fy L (N+3)) (gT L (N+3)) L' (.lst k i) [(eC,some xi),(g7,some (.str [c])),(m5,o)] σ=some (.bool (its.any (fc.holds c)),σ)
 | _,_,0,_,_,_,_,_,h,_=>absurd h (Nat.not_lt_zero _)
 | [],pre,M+1,i,xi,o,hk,he,_,_=>by
  refine (p7 hk (List.getElem?_eq_none (by rw [← he]; simp))).trans (ar (kC ..) ?_ ?_) <;> fail "go"
 | it::r,pre,M+1,i,xi,o,hk,he,h,hi =>
  (Kt hk (he ▸ bt _ _ _)).trans (Cq (hi it (.head _)) fun Z=>vR r (pre++[it.v]) M (i+1) xi (some it.v) (by rw [List.append_assoc]; exact hk) (by rw [List.length_append,he]; rfl) (Nat.lt_of_succ_lt_succ h) fun x hx=>hi x (.tail _ hx))
theorem y7 {v:PV} {its:List fc} (h:yo σ v its) (hl:its.length≤100) (hL:200≤L) (hi:∀ it ∈ its,it.ok):aa (af L) (N+4) f9 [v,.str [c]] σ=some (.bool (its.any (fc.holds c)),σ):=by
 have hl':(its.map fc.v).length≤100:=by rw [List.length_map]; exact hl
 rcases h with rfl | ⟨k,rfl,hk⟩
 ·have h1:=lv (τ:=σ) (Nat.le_trans hl' (by decide))
  have h2:=vI (L:=L) (N:=N) (c:=c) (σ:=σ) its L (.frz (its.map fc.v)) none (by omega) hi
  refine ar (oE ..) ?_ ?_ <;> fail "go"
 ·have h1:=yr hk (aO hl' (by decide))
  have h2:=vR (L:=L) (N:=N) (c:=c) its [] L 0 (.loc k) none hk rfl (by omega) hi
  refine ar (oE ..) ?_ ?_ <;> fail "go"
theorem Kw {v:PV} {its:List fc} {neg fo:Bool} (h:yo σ v its) (hl:its.length≤100) (hL:200≤L) (hi:∀ it ∈ its,it.ok) (hc:c<128) :
  aa (af L) (N+5) kH [v,.bool neg,.bool fo,.str [c]] σ=some (.bool ((its.any (fc.holds c) || (fo && its.any (fc.holds (io c)))) != neg),σ):=by
 have h1:=y7 (L:=L) (N:=N) (c:=c) h hl hL hi
 have h2:=y7 (L:=L) (N:=N) (c:=io c) h hl hL hi
 have h3:=yA (L:=L) (N:=N+3) (c:=c) (σ:=σ) hc
 generalize its.any (fc.holds c)=b1 at h1 ⊢
 generalize its.any (fc.holds (io c))=b2 at h2 ⊢
 cases b1 <;> cases fo <;> (refine ar (xP ..) ?_ ?_ <;> fail "go")
theorem HG {a:Nat} {fo:Bool} (ha:a<128):aa (af L) (N+2) kS [.str [c],.str [a],.bool fo] σ=some (.bool (decide (c=a) || (fo && decide (c=io a))),σ):=by
 have h3:=yA (L:=L) (N:=N) (c:=a) (σ:=σ) ha
 have key:∀ b,aj .Eq (.str [c]) (.str [b]) σ=some (decide (c=b),σ):=fun b=>by
  rw [eqs_ok]
  refine congrArg (fun b=>some (b,σ)) ?_
  rw [Bool.eq_iff_iff,decide_eq_true_iff,decide_eq_true_iff,List.cons.injEq]
  exact and_iff_left rfl
 have h1:=key a
 have h2:=key (io a)
 clear key
 generalize decide (c=a)=b1 at h1 ⊢
 generalize decide (c=io a)=b2 at h2 ⊢
 cases b1 <;> cases fo <;> (refine ar (w_ ..) ?_ ?_ <;> fail "go")
theorem lZ {a:Nat} {fo:Bool} (ha:a<128):aa (af L) (N+6) dt [KZ a fo,.str [c]] σ=some (.bool (decide (c=a) || (fo && decide (c=io a))),σ):=by
 have h:=HG (L:=L) (N:=N+3) (c:=c) (σ:=σ) (fo:=fo) ha
 refine ar (mi ..) ?_ ?_ <;> fail "go"
theorem EW {fs:Bool}:aa (af L) (N+6) dt [JM fs,.str [c]] σ=some (.bool (fs || !decide (c=10)),σ):=by
 have h1:aj .NotEq (.str [c]) (.str [10]) σ=some (!decide (c=10),σ):=by
  rw [nes_ok]
  refine congrArg (fun b=>some (!b,σ)) ?_
  rw [Bool.eq_iff_iff,decide_eq_true_iff,decide_eq_true_iff,List.cons.injEq]
  exact and_iff_left rfl
 cases fs <;> (refine ar (mi ..) ?_ ?_ <;> fail "go")
theorem yO {v:PV} {its:List fc} {neg fo:Bool} (h:yo σ v its) (hl:its.length≤100) (hL:200≤L) (hi:∀ it ∈ its,it.ok) (hc:c<128) :
  aa (af L) (N+6) dt [.tup [.str [115,101,116],v,.bool neg,.bool fo],.str [c]] σ=some (.bool ((its.any (fc.holds c) || (fo && its.any (fc.holds (io c)))) != neg),σ):=by
 have h:=Kw (L:=L) (N:=N) (neg:=neg) (fo:=fo) h hl hL hi hc
 refine ar (mi ..) ?_ ?_ <;> fail "go"
end
end
section
noncomputable def I8 (i:Nat) (fi fs:Bool) (c:Nat):Bool:=
 let sg (a:Nat):=decide (c=a) || (fi && decide (c=io a))
 let st (its:List fc) (neg fo:Bool):=(its.any (fc.holds c) || (fo && its.any (fc.holds (io c)))) != neg
 match i with
 | 0=>sg 97 | 1=>sg 98 | 2=>sg 65 | 3=>fs || !decide (c=10) | 4=>st [.kl 100] false false | 5=>st [.kl 119] false false | 6=>st [.rg 97 97,.rg 98 98] false fi | 7=>sg 10
 | 8=>st [.rg 97 97,.rg 66 66] true fi | 9=>st [.rg 65 66,.rg 97 97] false fi | 10=>st [.kl 100,.rg 95 95,.rg 45 45] false fi | 11=>st [.kl 115] false false | 12=>st [.kl 115] true fi | 13=>sg 97
 | 14=>st [.rg 65 90] false fi | 15=>sg 65 | 16=>st [.kl 87] false false | 17=>sg 49 | 18=>st [.kl 83] false false | _=>st [.rg 93 93,.rg 98 98] false fi
noncomputable def kq:List Nat:=[97,98,65,49,32,10,95,66,45]
theorem Bk:∀ i,i<20→∀ c ∈ kq,∀ fi fs:Bool,I8 i fi fs c=oR (gE i) fi fs c:=by decide +kernel
section
variable {L N c:Nat} {σ:ah}
theorem wa {c:Nat} (h:c ∈ kq):c<128:=(show ∀ c ∈ kq,c<128 by decide) c h
theorem Nu {ks:List fc} (h:ks.all (fun | .rg _ _=>true | .kl k=>[100,119,87,115,83].contains k)=true):∀ it ∈ ks,it.ok:=fun it hi=>by
 have:=List.all_eq_true.mp h it hi
 cases it with
 | rg _ _=>trivial
 | kl k=>exact List.contains_iff_mem.mp this
theorem IS (hL:200≤L) {i:Nat} (hi:i<20) {fi fs:Bool} {v:PV} (hv:lq fi fs σ i v) (hc:c ∈ kq):aa (af L) (N+6) dt [v,.str [c]] σ=some (.bool (oR (gE i) fi fs c),σ):=by
 rw [← Bk i hi c hc fi fs]
 have hc':=wa hc
 obtain ⟨k,rfl,hk⟩:=hv
 have fz (its:List fc) (neg fo:Bool) (hl:Nat.ble its.length 100=true) (hi:its.all (fun | .rg _ _=>true | .kl k=>[100,119,87,115,83].contains k)=true):=yO (L:=L) (N:=N) (σ:=σ) (neg:=neg) (fo:=fo) (its:=its) (.inl rfl) (Nat.le_of_ble_eq_true hl) hL (Nu hi) hc'
 have st (its:List fc) (neg fo:Bool) (h:σ[k]?=some (.lst (its.map fc.v))) (hl:Nat.ble its.length 100=true) (hi:its.all (fun | .rg _ _=>true | .kl k=>[100,119,87,115,83].contains k)=true):=yO (L:=L) (N:=N) (σ:=σ) (neg:=neg) (fo:=fo) (its:=its) (.inr ⟨k,rfl,h⟩) (Nat.le_of_ble_eq_true hl) hL (Nu hi) hc'
 exact uu.get (n:=20) (P:=fun i=>(∀ l,rq i=[.lst l]→σ[k]?=some (.lst l))→aa (af L) (N+6) dt [xt i fi fs k,.str [c]] σ=some (.bool (I8 i fi fs c),σ))
  ⟨⟨⟨⟨⟨⟨⟨⟨⟨⟨⟨⟨⟨⟨⟨⟨⟨⟨⟨⟨trivial,fun hk=>lZ (by decide)⟩,fun hk=>lZ (by decide)⟩,fun hk=>lZ (by decide)⟩,fun hk=>EW⟩,fun hk=>fz [.kl 100] false false rfl rfl⟩,fun hk=>fz [.kl 119] false false rfl rfl⟩,fun hk=>st [.rg 97 97,.rg 98 98] false fi (hk _ rfl) rfl rfl⟩,fun hk=>lZ (by decide)⟩,fun hk=>st [.rg 97 97,.rg 66 66] true fi (hk _ rfl) rfl rfl⟩,fun hk=>st [.rg 65 66,.rg 97 97] false fi (hk _ rfl) rfl rfl⟩,fun hk=>st [.kl 100,.rg 95 95,.rg 45 45] false fi (hk _ rfl) rfl rfl⟩,fun hk=>fz [.kl 115] false false rfl rfl⟩,fun hk=>st [.kl 115] true fi (hk _ rfl) rfl rfl⟩,fun hk=>lZ (by decide)⟩,fun hk=>st [.rg 65 90] false fi (hk _ rfl) rfl rfl⟩,fun hk=>lZ (by decide)⟩,fun hk=>fz [.kl 87] false false rfl rfl⟩,fun hk=>lZ (by decide)⟩,fun hk=>fz [.kl 83] false false rfl rfl⟩,fun hk=>st [.rg 93 93,.rg 98 98] false fi (hk _ rfl) rfl rfl⟩ hi hk
end
end
section
inductive wo where
 | tr (pc a:Nat)
 | less (pc low e:Nat)
 | reg (k:Nat) (old:Int)
structure DP where
 pc:Nat
 a:Nat
 regs:List Int
 pile:List wo
inductive sM where
 | cont (c:DP)
 | acc (e:Nat)
 | fail
 | stuck
noncomputable def bk:List wo→List Int→sM
 | [],_=>.fail
 | .tr pc a::p,rs=>.cont ⟨pc,a,rs,p⟩
 | .less pc low e::p,rs=>.cont ⟨pc,e-1,rs,if low<e-1 then .less pc low (e-1)::p else p⟩
 | .reg k old::p,rs=>if k<rs.length then bk p (rs.set k old) else .stuck
noncomputable def gY (fit:Nat→Nat→Bool) (i:Nat) (most:Int):Nat→Nat→Nat→Nat
 | 0,_,a=>a
 | f+1,d,a=>if (most<0∨(d:Int)<most)∧fit i a=true then gY fit i most f (d+1) (a+1) else a
noncomputable def E3 (x:Option Int) (y:Int→Option Int) (f:Int→Int→sM):sM:=x.rec .stuck fun u=>(y u).rec .stuck (f u)
theorem wU {x:Option Int} {y:Int→Option Int} {f:Int→Int→sM} {u v} (hu:x=some u) (hv:y u=some v):E3 x y f=f u v:=by
 subst hu
 exact congrArg (fun z:Option Int=>(z.rec .stuck (f u):sM)) hv
section
variable (prog:List lf) (fit std:Nat→Nat→Bool) (len mn:Nat)
noncomputable def Ab (c:DP):lf→sM:=lf.rec
 (fun i=>if fit i c.a=true then .cont ⟨c.pc+1,c.a+1,c.regs,c.pile⟩ else bk c.pile c.regs)
 (fun i n=>if gY fit i (au n).most 12 0 c.a<c.a+(au n).least then bk c.pile c.regs else .cont ⟨c.pc+1,gY fit i (au n).most 12 0 c.a,c.regs,if c.a+(au n).least<gY fit i (au n).most 12 0 c.a then .less (c.pc+1) (c.a+(au n).least) (gY fit i (au n).most 12 0 c.a)::c.pile else c.pile⟩)
 (fun i=>if std i c.a=true then .cont ⟨c.pc+1,c.a,c.regs,c.pile⟩ else bk c.pile c.regs)
 (fun x y=>.cont ⟨x,c.a,c.regs,.tr y c.a::c.pile⟩)
 (fun t=>.cont ⟨t,c.a,c.regs,c.pile⟩)
 (fun k p=>E3 c.regs[k]? (fun Z=>(c.regs.set k 0)[p]?) fun u v=>.cont ⟨c.pc+1,c.a,(c.regs.set k 0).set p (-1),.reg p v::.reg k u::c.pile⟩)
 (fun k p n ag bh=>E3 c.regs[k]? (fun Z=>c.regs[p]?) fun r pl=>if r<(au n).least then .cont ⟨ag,c.a,c.regs,c.pile⟩
  else if pl=(c.a:Int)∨(0≤(au n).most∧(au n).most≤r) then .cont ⟨bh,c.a,c.regs,c.pile⟩
  else .cont ⟨ag,c.a,c.regs,.tr bh c.a::c.pile⟩)
 (fun k p t=>E3 c.regs[k]? (fun u=>(c.regs.set k (u+1))[p]?) fun u v=>.cont ⟨t,c.a,(c.regs.set k (u+1)).set p (c.a:Int),.reg p v::.reg k u::c.pile⟩)
 (if mn≤c.a then .acc c.a else bk c.pile c.regs)
noncomputable def step (c:DP):sM:=if len<c.a then .stuck else prog[c.pc]?.rec .stuck (Ab fit std mn c)
noncomputable def go:Nat→sM→sM:=Nat.rec (fun r=>r) fun _ f r=>r.rec (fun c=>f (step prog fit std len mn c)) .acc .fail .stuck
theorem Ge (e):∀ j,go prog fit std len mn j (.acc e)=.acc e:=fun j=>by cases j <;> rfl
theorem B9:∀ j,go prog fit std len mn j .fail=.fail:=fun j=>by cases j <;> rfl
theorem yV:∀ j,go prog fit std len mn j .stuck=.stuck:=fun j=>by cases j <;> rfl
theorem Bv (i j:Nat) (r:sM):go prog fit std len mn (i+j) r=go prog fit std len mn j (go prog fit std len mn i r):=by
 induction i generalizing r with
 | zero=>rw [Nat.zero_add]; rfl
 | succ i ih =>
  rw [Nat.succ_add]
  cases r with
  | cont c=>exact ih _
  | acc e=>exact (Ge ..).symm
  | fail=>exact (B9 ..).symm
  | stuck=>exact (yV ..).symm
noncomputable def fin (pile:List wo) (rs:List Int):Option Nat→sM
 | some e=>.acc e
 | none=>bk pile rs
noncomputable def jj (pc a:Nat) (rs:List Int) (k:Nat) (r:Option Nat):Prop:=∀ pile,∃ j,j≤k∧go prog fit std len mn j (.cont ⟨pc,a,rs,pile⟩)=fin pile rs r
variable {prog fit std len mn}
theorem iM {pc a rs pile row} (ha:a≤len) (h:prog[pc]?=some row):step prog fit std len mn ⟨pc,a,rs,pile⟩=Ab fit std mn ⟨pc,a,rs,pile⟩ row :=
 (if_neg (Nat.not_lt.mpr ha)).trans (congrArg (fun z:Option lf=>(z.rec .stuck (Ab fit std mn ⟨pc,a,rs,pile⟩):sM)) h)
theorem ta {c j x} (h:step prog fit std len mn c=x):go prog fit std len mn (1+j) (.cont c)=go prog fit std len mn j x:=by
 rw [Bv,← h]; rfl
theorem jj.le {pc a rs k k' r} (h:jj prog fit std len mn pc a rs k r) (hk:k≤k'):jj prog fit std len mn pc a rs k' r:=fun pile =>
 let ⟨j,h⟩:=h pile
 ⟨j,Nat.le_trans h.1 hk,h.2⟩
theorem jj.step {pc a rs k r pc' a'} (hs:∀ pile,step prog fit std len mn ⟨pc,a,rs,pile⟩=.cont ⟨pc',a',rs,pile⟩) (h:jj prog fit std len mn pc' a' rs k r):jj prog fit std len mn pc a rs (1+k) r:=fun pile =>
 let ⟨j,h⟩:=h pile
 ⟨1+j,Nat.add_le_add_left h.1 1,(ta (hs pile)).trans h.2⟩
theorem jj.dead {pc a rs} (hs:∀ pile,Mine.step prog fit std len mn ⟨pc,a,rs,pile⟩=bk pile rs):jj prog fit std len mn pc a rs 1 none:=fun pile=>⟨1,Nat.le_refl _,hs pile⟩
theorem jj.orElse {pc a rs k1 k2 r1 r2 x y} (hs:∀ pile,Mine.step prog fit std len mn ⟨pc,a,rs,pile⟩=.cont ⟨x,a,rs,.tr y a::pile⟩) (h1:jj prog fit std len mn x a rs k1 r1) (h2:jj prog fit std len mn y a rs k2 r2) :
  jj prog fit std len mn pc a rs (1+k1+k2) (r1.or r2):=fun pile=>by
 obtain ⟨j,g1,g2⟩:=h1 (.tr y a::pile)
 have e:=(ta (hs pile)).trans g2
 have q:=Nat.add_le_add_left g1 1
 cases r1 with
 | some e=>exact ⟨1+j,Nat.le_trans q (Nat.le_add_right ..),‹_›⟩
 | none =>
  obtain ⟨j',f1,f2⟩:=h2 pile
  exact ⟨1+j+j',Nat.add_le_add q f1,(Bv ..).trans ((congrArg _ e).trans f2)⟩
theorem im {β:Type} (f:Nat→List Nat) (g:Nat→Option β):∀ l:List Nat,(l.flatMap f).findSome? g=l.findSome? fun x=>(f x).findSome? g
 | []=>rfl
 | x::r=>by
  rw [List.flatMap_cons,List.findSome?_append,List.findSome?_cons,im f g r]
  cases (f x).findSome? g <;> rfl
end
noncomputable def ew (r m:Nat) (rs rs':List Int):Prop:=rs'.length=rs.length∧∀ k,k<r∨r+m≤k→rs'[k]?=rs[k]?
theorem ew.refl (r m rs):ew r m rs rs:=⟨rfl,fun Z Z=>rfl⟩
theorem ew.trans {r m a b c} (h:ew r m a b) (h':ew r m b c):ew r m a c:=⟨h'.1.trans h.1,fun k hk=>(h'.2 k hk).trans (h.2 k hk)⟩
theorem ew.wider {r m r' m' a b} (h:ew r' m' a b) (h1:r≤r') (h2:r'+m'≤r+m):ew r m a b:=⟨h.1,fun k hk=>h.2 k (by omega)⟩
theorem ew.set {r m} {a:List Int} {k:Nat} {v:Int} (h1:r≤k) (h2:k<r+m):ew r m a (a.set k v):=⟨by simp,fun j hj=>by rw [List.getElem?_set_ne]; omega⟩
noncomputable def ol (prog:List lf) (b:Nat) (c:List lf):Prop:=∀ i,i<c.length→prog[b+i]?=c[i]?
theorem ol.left {prog b c d} (h:ol prog b (c++d)):ol prog b c:=fun i hi=>by
 rw [h i (by simp; omega),List.getElem?_append_left hi]
theorem ol.right {prog b c d} (h:ol prog b (c++d)):ol prog (b+c.length) d:=fun i hi=>by
 rw [Nat.add_assoc,h (c.length+i) (by simp; omega),List.getElem?_append_right (by omega)]; congr 1; omega
theorem ol.head {prog b r d} (h:ol prog b (r::d)):prog[b]?=some r:=by
 have:=h 0 (by simp); simpa using this
theorem ol.tail {prog b r d} (h:ol prog b (r::d)):ol prog (b+1) d:=fun i hi=>by
 have:=h (i+1) (by simp; omega)
 rw [show b+1+i=b+(i+1) by omega,this]; rfl
section
variable (fit std:Nat→Nat→Bool)
noncomputable def jU (C:Nat→(Nat→Nat)→Nat) (least:Nat) (most:Int) (κ:Nat→Nat):Nat→Nat→Option Nat→Nat→Nat
 | 0,_,_,_=>0
 | k+1,d,l,a=>1+(if dG least most d l a=true then 1+C a (fun e=>1+jU C least most κ k (d+1) (some a) e) else 0)+(if d<least then 0 else κ a)
noncomputable def i6:Nd→Nat→(Nat→Nat)→Nat
 | .one i,a,κ=>if fit i a=true then 1+κ (a+1) else 1
 | .place i,a,κ=>if std i a=true then 1+κ a else 1
 | .row l,a,κ=>i6 l a κ
 | .branches x y,a,κ=>1+i6 x a (fun e=>1+κ e)+i6 y a κ
 | .rounds n c,a,κ=>match n with
  | .one i=>1+((mw fit std (.rounds (.one i) c) a).map κ).sum
  | n=>1+jU (i6 n) (au c).least (au c).most κ 12 0 none a
 | .nil,a,κ=>κ a
 | .cons h t,a,κ=>i6 h a (fun e=>i6 t e κ)
end
end
section
theorem wf {β:Type} (res:Nat→Option β) (a:Nat) (l:List Nat):(a::l).findSome? res=(res a).or (l.findSome? res):=by
 rw [List.findSome?_cons]; cases res a <;> rfl
theorem qu {β:Type} (res:Nat→Option β) (a:Nat):[a].findSome? res=res a:=(wf res a []).trans Option.or_none
noncomputable def lh (lo:Nat):Nat→List Nat:=Nat.rec [] fun m r=>(lo+m)::r
theorem BM (lo m:Nat):lh (lo+1) m++[lo]=lh lo (m+1):=by
 induction m with
 | zero=>rfl
 | succ m ih=>exact (congrArg (_::·) ih).trans (congrArg (·::_) (Nat.add_right_comm lo 1 m))
theorem CB (fit:Nat→Nat→Bool) (i:Nat) (most:Int):∀ f d a,a≤gY fit i most f d a
 | 0,_,a=>Nat.le_refl a
 | f+1,d,a=>cn (P:=(a≤·)) (fun Z=>Nat.le_of_succ_le (CB fit i most f (d+1) (a+1))) fun Z=>Nat.le_refl a
theorem C_ (fit:Nat→Nat→Bool) {len:Nat} (hfit:∀ i a,fit i a=true→a<len) (i:Nat) (most:Int):∀ f d a,a≤len→gY fit i most f d a≤len
 | 0,_,a,h=>h
 | f+1,d,a,h=>cn (P:=(·≤len)) (fun hc=>C_ fit hfit i most f (d+1) (a+1) (hfit i a hc.2)) fun Z=>h
theorem Fo {least:Nat} {most:Int} {d:Nat} {l:Option Nat} {a:Nat} (hl:l≠some a) (h:most<0∨(d:Int)<most):dG least most d l a=true :=
 Bool.or_eq_true_iff.mpr (.inr (Bool.and_eq_true_iff.mpr ⟨di hl,Bool.or_eq_true_iff.mpr (h.imp di di)⟩))
theorem DY {least:Nat} {most:Int} {d:Nat} {l:Option Nat} {a:Nat} (hlm:most<0∨(least:Int)≤most) (h:dG least most d l a=true):most<0∨(d:Int)<most :=
 (Bool.or_eq_true_iff.mp h).elim (fun h=>hlm.imp_right (Int.lt_of_lt_of_le (Int.ofNat_lt.mpr (of_decide_eq_true h)))) fun h=>(Bool.or_eq_true_iff.mp (Bool.and_eq_true_iff.mp h).2).imp of_decide_eq_true of_decide_eq_true
theorem JL {a d n:Nat} (h:d<n):a+1+(n-(d+1))=a+(n-d):=(Nat.add_right_comm a 1 _).trans (congrArg (a+·) (Nat.sub_add_cancel (Nat.sub_pos_of_lt h)))
theorem xJ (fit std:Nat→Nat→Bool) {len:Nat} (hfit:∀ i a,fit i a=true→a<len) (i least:Nat) (most:Int) (hlm:most<0∨(least:Int)≤most):∀ (k d:Nat) (l:Option Nat) (a:Nat),l≠some a→a≤len→len<k+a →
  xW (mw fit std (.one i)) least most k d l a=lh (a+(least-d)) (gY fit i most k d a+1-(a+(least-d)))
 | 0,d,l,a,hl,ha,hk=>absurd (Nat.lt_of_lt_of_eq hk (Nat.zero_add a)) (Nat.not_lt.mpr ha)
 | k+1,d,l,a,hl,ha,hk=>by
  show (if dG least most d l a=true then (mw fit std (.one i) a).flatMap (xW (mw fit std (.one i)) least most k (d+1) (some a)) else [])++_=_
  by_cases hc:(most<0∨(d:Int)<most)∧fit i a=true
  ·rw [if_pos (Fo hl hc.1),show mw fit std (.one i) a=[a+1] from if_pos hc.2,List.flatMap_singleton,show gY fit i most (k+1) d a=gY fit i most k (d+1) (a+1) from if_pos hc,
    xJ fit std hfit i least most hlm k (d+1) (some a) (a+1) (fun h=>Nat.succ_ne_self a (Option.some.inj h).symm) (hfit i a hc.2) (Nat.lt_of_lt_of_eq hk (Nat.succ_add_eq_add_succ k a))]
   have hge:=CB fit i most k (d+1) (a+1)
   generalize gY fit i most k (d+1) (a+1)=e at hge ⊢
   by_cases hd:d<least
   ·rw [if_pos hd,List.append_nil,JL hd]
   ·rw [if_neg hd,Nat.sub_eq_zero_of_le (Nat.le_of_not_lt hd),Nat.sub_eq_zero_of_le (Nat.le_succ_of_le (Nat.le_of_not_lt hd))]
    show lh (a+1) (e+1-(a+1))++[a]=lh a (e+1-a)
    rw [Nat.add_sub_add_right,BM,Nat.sub_add_comm (Nat.le_of_succ_le hge)]
  ·rw [show gY fit i most (k+1) d a=a from if_neg hc,
    show (if dG least most d l a=true then (mw fit std (.one i) a).flatMap (xW (mw fit std (.one i)) least most k (d+1) (some a)) else [])=[] from
     cn (P:=(·=[])) (fun hgo=>(congrArg (List.flatMap _) (if_neg fun hf=>hc ⟨DY hlm hgo,hf⟩)).trans List.flatMap_nil) fun Z=>rfl,List.nil_append]
   by_cases hd:d<least
   ·rw [if_pos hd,Nat.sub_eq_zero_of_le (Nat.add_le_add_left (Nat.sub_pos_of_lt hd) a)]; rfl
   ·rw [if_neg hd,Nat.sub_eq_zero_of_le (Nat.le_of_not_lt hd),Nat.add_zero,Nat.add_sub_cancel_left]; rfl
theorem F0:∀ c,c<7→(au c).most<0∨((au c).least:Int)≤(au c).most:=by decide
theorem ki.mem {l l':List Nat} (h:ki l l') {x:Nat} (hx:x ∈ l):x ∈ l':=by
 have h1:=h (fun y=>decide (y=x))
 have h2:(l.find? fun y=>decide (y=x)).isSome=true:=by
  rw [List.find?_isSome]; exact ⟨x,hx,by simp⟩
 rw [h1] at h2
 rw [List.find?_isSome] at h2
 obtain ⟨y,hy,he⟩:=h2
 have:y=x:=by simpa using he
 exact this ▸ hy
section
variable {prog:List lf} {fit std:Nat→Nat→Bool} {len mn:Nat} (hfit:∀ i a,fit i a=true→a<len)
include hfit
theorem xH (n:Nd) {a:Nat} (ha:a≤len) {e:Nat} (he:e ∈ mw fit std n a):a≤e∧e≤len :=
 (xB fit std hfit n).1 a ha e (((sP fit std n).1 a).symm.mem he)
theorem I6 (n:Nd) {a:Nat} (ha:a≤len) {e:Nat} (he:e ∈ rawL fit std n a):a≤e∧e≤len:=by
 have h1:=((sP fit std n).2 [a]).symm.mem (x:=e) (by simpa using he)
 exact (xB fit std hfit n).2 [a] a (fun x hx=>by rw [List.mem_singleton.mp hx]; omega) e h1
theorem Mn (n:Nd) (least:Nat) (most:Int) (k d:Nat) (l:Option Nat) {a:Nat} (ha:a≤len) {e:Nat} (he:e ∈ xW (mw fit std n) least most k d l a):a≤e∧e≤len :=
 s6 (len:=len) (f:=uY fit std n) (fun x hx e he=>(xB fit std hfit n).1 x hx e he) least most k d l a ha e ((uK (fun x=>(sP fit std n).1 x) least most k d l a).symm.mem he)
omit hfit in
theorem vX {pc:Nat} {rs:List Int} {κ:Nat→Nat} {res:Nat→Option Nat} (lo:Nat):∀ m,(∀ i,i≤m→jj prog fit std len mn pc (lo+i) rs (κ (lo+i)) (res (lo+i)))→∀ pile,
  ∃ j,j≤((lh lo (m+1)).map κ).sum∧go prog fit std len mn j (.cont ⟨pc,lo+m,rs,if lo<lo+m then .less pc lo (lo+m)::pile else pile⟩)=fin pile rs ((lh lo (m+1)).findSome? res)
 | 0,h,pile=>by
  obtain ⟨j,h1,h2⟩:=h 0 (Nat.le_refl _) pile
  rw [if_neg (show ¬ lo<lo+0 from Nat.lt_irrefl lo)]
  exact ⟨j,h1,h2.trans (congrArg _ (qu res lo).symm)⟩
 | m+1,h,pile=>by
  obtain ⟨j,h1,h2⟩:=h (m+1) (Nat.le_refl _) (.less pc lo (lo+(m+1))::pile)
  rw [if_pos (Nat.lt_add_of_pos_right (Nat.succ_pos m)),show lh lo (m+1+1)=(lo+(m+1))::lh lo (m+1) from rfl,wf]
  cases hr:res (lo+(m+1)) with
  | some e=>exact ⟨j,Nat.le_trans h1 (Nat.le_add_right ..),h2.trans (congrArg (fin _ rs) hr)⟩
  | none =>
   obtain ⟨j',f1,f2⟩:=vX lo m (fun i g=>h i (Nat.le_succ_of_le g)) pile
   exact ⟨j+j',Nat.add_le_add h1 f1,(Bv ..).trans ((congrArg (go prog fit std len mn j') (h2.trans (congrArg (fin _ rs) hr))).trans f2)⟩
omit hfit in
theorem FG (rs:List Int) (k p:Nat) (x y u v:Int) (hu:rs[k]?=some u) (hv:(rs.set k x)[p]?=some v):(((rs.set k x).set p y).set p v).set k u=rs:=by
 have h1:((rs.set k x).set p y).set p v=rs.set k x:=by
  rw [List.set_set]
  exact List.ext_getElem? fun i=>by
   by_cases hi:i=p
   ·subst hi
    rw [hv,List.getElem?_set_self (List.getElem?_eq_some_iff.mp hv).1]
   ·rw [List.getElem?_set_ne (Ne.symm hi)]
 rw [h1,List.set_set]
 exact List.ext_getElem? fun i=>by
  by_cases hi:i=k
  ·subst hi
   rw [hu,List.getElem?_set_self (List.getElem?_eq_some_iff.mp hu).1]
  ·rw [List.getElem?_set_ne (Ne.symm hi)]
omit hfit in
theorem xT (k:Nat) (old:Int) (p:List wo) (rs:List Int):bk (.reg k old::p) rs=if k<rs.length then bk p (rs.set k old) else .stuck:=rfl
omit hfit in
theorem jj.save {pc a:Nat} {rs rs2:List Int} {k p pc':Nat} {u v x y:Int} {c:Nat} {r:Option Nat} (hu:rs[k]?=some u) (hv:(rs.set k x)[p]?=some v) (h2:rs2=(rs.set k x).set p y)
  (hs:∀ pile,Mine.step prog fit std len mn ⟨pc,a,rs,pile⟩=.cont ⟨pc',a,rs2,.reg p v::.reg k u::pile⟩) (h:jj prog fit std len mn pc' a rs2 c r):jj prog fit std len mn pc a rs (1+c) r:=fun pile=>by
 obtain ⟨j,h1,h3⟩:=h (.reg p v::.reg k u::pile)
 refine ⟨1+j,Nat.add_le_add_left h1 1,(ta (hs pile)).trans (h3.trans ?_)⟩
 cases r with
 | some e=>rfl
 | none =>
  have hp:p<rs2.length:=by rw [h2,List.length_set]; exact (List.getElem?_eq_some_iff.mp hv).1
  have hk:k<(rs2.set p v).length:=by rw [h2,List.length_set,List.length_set,List.length_set]; exact (List.getElem?_eq_some_iff.mp hu).1
  show bk (.reg p v::.reg k u::pile) rs2=bk pile rs
  rw [xT,if_pos hp,xT,if_pos hk,h2,FG rs k p x y u v hu hv]
noncomputable def kU (prog:List lf) (fit std:Nat→Nat→Bool) (len mn:Nat) (n:Nd) (R:Nat→List Nat):Prop:=∀ (b reg a:Nat) (rs:List Int) (res:Nat→Option Nat) (κ:Nat→Nat),ol prog b (code n b reg)→a≤len→reg+cR n≤rs.length →
 (∀ e,e ∈ R a→∀ rs',ew reg (cR n) rs rs'→jj prog fit std len mn (b+cg n) e rs' (κ e) (res e))→jj prog fit std len mn b a rs (i6 fit std n a κ) ((R a).findSome? res)
omit hfit in
theorem qM {least:Nat} {most:Int} {d:Nat} {l:Option Nat} {a:Nat} (h:d<least):dG least most d l a=true:=Bool.or_eq_true_iff.mpr (.inl (di h))
omit hfit in
theorem zJ {least:Nat} {most:Int} {d:Nat} {l:Option Nat} {a:Nat} (h:¬ d<least):dG least most d l a=true↔¬ (rC l=(a:Int)∨(0≤most∧most≤(d:Int))):=by
 rw [← C7]
 unfold rK
 rw [dn (fun q=>h (Int.ofNat_lt.mp q)),Bool.false_or,Bool.and_eq_true_iff,Bool.not_eq_true',decide_eq_false_iff_not,Bool.or_eq_true_iff,decide_eq_true_iff,decide_eq_true_iff,not_or]
 exact and_congr_right' (by omega)
omit hfit in
theorem D7 {pc ag bh a c d N K:Nat} {l:Option Nat} {rs:List Int} {L:List Nat} {res:Nat→Option Nat}
  (hs:∀ pile,Mine.step prog fit std len mn ⟨pc,a,rs,pile⟩=if (d:Int)<(au c).least then .cont ⟨ag,a,rs,pile⟩ else if rC l=(a:Int)∨(0≤(au c).most∧(au c).most≤(d:Int)) then .cont ⟨bh,a,rs,pile⟩ else .cont ⟨ag,a,rs,.tr bh a::pile⟩)
  (hA:dG (au c).least (au c).most d l a=true→jj prog fit std len mn ag a rs N (L.findSome? res)) (hB:¬ d<(au c).least→jj prog fit std len mn bh a rs K (res a)) :
  jj prog fit std len mn pc a rs (1+(if dG (au c).least (au c).most d l a=true then N else 0)+if d<(au c).least then 0 else K)
   (((if dG (au c).least (au c).most d l a=true then L else [])++if d<(au c).least then [] else [a]).findSome? res):=by
 by_cases c1:d<(au c).least
 ·rw [if_pos c1,if_pos c1,if_pos (qM c1),if_pos (qM c1),List.append_nil]
  exact jj.step (fun pile=>(hs pile).trans (if_pos (Int.ofNat_lt.mpr c1))) (hA (qM c1))
 ·have c2:¬ (d:Int)<((au c).least:Int):=fun q=>c1 (Int.ofNat_lt.mp q)
  rw [if_neg c1,if_neg c1,List.findSome?_append,qu]
  by_cases hgo:dG (au c).least (au c).most d l a=true
  ·rw [if_pos hgo,if_pos hgo]
   exact jj.orElse (fun pile=>(hs pile).trans ((if_neg c2).trans (if_neg ((zJ c1).mp hgo)))) (hA hgo) (hB c1)
  ·rw [if_neg hgo,if_neg hgo]
   exact jj.step (fun pile=>(hs pile).trans ((if_neg c2).trans (if_pos (Decidable.not_not.mp fun q=>hgo ((zJ c1).mpr q))))) (hB c1)
theorem tQ (n:Nd) (hC:kU prog fit std len mn n (mw fit std n)) (c:Nat) (hc:c<7) (b reg:Nat) (κ:Nat→Nat) (res:Nat→Option Nat)
  (h1:prog[b+1]?=some (.loop reg (reg+1) c (b+2) (b+4+cg n))) (h2:prog[b+2]?=some (.again reg (reg+1) (b+3))) (h3:ol prog (b+3) (code n (b+3) (reg+2))) (h4:prog[b+3+cg n]?=some (.jump (b+1))) :
  ∀ (k d:Nat) (l:Option Nat) (a:Nat) (rs:List Int),ua len a d l k→a≤len→rs[reg]?=some (d:Int)→rs[reg+1]?=some (rC l)→reg+2+cR n≤rs.length →
   (∀ e,e ∈ xW (mw fit std n) (au c).least (au c).most k d l a→∀ rs',ew reg (cR n+2) rs rs'→jj prog fit std len mn (b+4+cg n) e rs' (κ e) (res e)) →
   jj prog fit std len mn (b+1) a rs (jU (i6 fit std n) (au c).least (au c).most κ k d l a) ((xW (mw fit std n) (au c).least (au c).most k d l a).findSome? res)
 | 0,d,l,a,rs,hm,ha,_,_,_,_=>(hm.zero ha).elim
 | k+1,d,l,a,rs,hm,ha,g1,g2,g3,hK=>by
  refine D7 (bh:=b+4+cg n) (fun pile=>(iM ha h1).trans (wU g1 g2)) (fun hgo=>?_) fun hd=>hK a (List.mem_append_right _ ((if_neg hd).symm ▸ .head _)) rs (ew.refl _ _ _)
  have hv:(rs.set reg ((d:Int)+1))[reg+1]?=some (rC l):=(List.getElem?_set_ne (Nat.succ_ne_self reg).symm).trans g2
  refine jj.save g1 hv rfl (fun pile=>(iM ha h2).trans (wU (y:=fun u=>(rs.set reg (u+1))[reg+1]?) (f:=fun u v=>.cont ⟨b+3,a,(rs.set reg (u+1)).set (reg+1) (a:Int),.reg (reg+1) v::.reg reg u::pile⟩) g1 hv)) ?_
  rw [im]
  have hag:ew reg (cR n+2) rs ((rs.set reg ((d:Int)+1)).set (reg+1) (a:Int)):=(ew.set (Nat.le_refl _) (by omega)).trans (ew.set (Nat.le_succ _) (by omega))
  have hl:reg+1<rs.length:=by omega
  refine hC (b+3) (reg+2) a _ _ _ h3 ha (by rw [hag.1]; exact g3) (fun e he rs' hA=>?_)
  have hin:=xH (std:=std) hfit n ha he
  have hA':=hag.trans (hA.wider (r:=reg) (m:=cR n+2) (Nat.le_add_right ..) (by omega))
  refine jj.step (fun pile=>iM hin.2 h4) ?_
  refine tQ n hC c hc b reg κ res h1 h2 h3 h4 k (d+1) (some a) e rs' (Ck (wt c hc) hgo hm hin.1) hin.2 ?_ ?_ (hA'.1.symm ▸ g3)
   fun e' he' rs'' hA''=>hK e' (List.mem_append_left _ ((if_pos hgo).symm ▸ List.mem_flatMap.mpr ⟨e,he,he'⟩)) rs'' (hA'.trans hA'')
  ·exact (hA.2 reg (.inl (Nat.lt_add_of_pos_right (Nat.succ_pos 1)))).trans ((List.getElem?_set_ne (Nat.succ_ne_self reg)).trans (List.getElem?_set_self (Nat.lt_of_succ_lt hl)))
  ·exact (hA.2 (reg+1) (.inl (Nat.lt_succ_self _))).trans (List.getElem?_set_self (by rw [List.length_set]; exact hl))
end
end
section
section
variable {prog:List lf} {fit std:Nat→Nat→Bool} {len mn:Nat} (hfit:∀ i a,fit i a=true→a<len) (hlen:len≤4)
theorem jj.test {C:Prop} [Decidable C] {pc a pc' a' k:Nat} {rs:List Int} {res:Nat→Option Nat} (hs:∀ pile,Mine.step prog fit std len mn ⟨pc,a,rs,pile⟩=if C then .cont ⟨pc',a',rs,pile⟩ else bk pile rs)
  (h:a' ∈ (if C then [a'] else [])→jj prog fit std len mn pc' a' rs k (res a')):jj prog fit std len mn pc a rs (if C then 1+k else 1) ((if C then [a'] else []).findSome? res):=by
 by_cases c:C
 ·rw [if_pos c] at h
  rw [if_pos c,if_pos c,qu]
  exact jj.step (fun p=>(hs p).trans (if_pos c)) (h (.head _))
 ·rw [if_neg c,if_neg c]
  exact jj.dead fun p=>(hs p).trans (if_neg c)
theorem D0 {lo x m:Nat} (h:x<m):lo+x ∈ lh lo m:=by
 induction m with
 | zero=>exact absurd h (Nat.not_lt_zero _)
 | succ m ih =>
  rcases Nat.eq_or_lt_of_le (Nat.le_of_lt_succ h) with e | h
  ·exact e ▸ .head _
  ·exact .tail _ (ih h)
theorem NB (b x y:Nat):b+(x+y+2)=b+2+x+y:=by rw [Nat.add_right_comm b 2 x,Nat.add_right_comm (b+x) 2 y,Nat.add_assoc b x y]; rfl
theorem Ny (b x y:Nat):b+(x+y+2)=b+x+2+y:=by rw [Nat.add_right_comm (b+x) 2 y,Nat.add_assoc b x y]; rfl
theorem Hb (n:Nd):(∃ i,n=.one i)∨∀ c,(∀ b r,code (.rounds n c) b r=.zero r (r+1)::.loop r (r+1) c (b+2) (b+4+cg n)::.again r (r+1) (b+3)::(code n (b+3) (r+2)++[.jump (b+1)]))∧cR (.rounds n c)=cR n+2∧cg (.rounds n c)=cg n+4 ∧
  ∀ fit std a κ,i6 fit std (.rounds n c) a κ=1+jU (i6 fit std n) (au c).least (au c).most κ 12 0 none a:=by
 cases n with
 | one i=>exact .inl ⟨i,rfl⟩
 | _=>exact .inr fun c=>⟨fun Z Z=>rfl,rfl,rfl,fun Z Z Z Z=>rfl⟩
include hfit
theorem Fk (x y:Nd) (cx:kU prog fit std len mn x (mw fit std x)) (cy:kU prog fit std len mn y (mw fit std y)):kU prog fit std len mn (.branches x y) (mw fit std (.branches x y)):=fun b reg a rs res κ hl ha hr hK=>by
 have hl:ol prog b (.split (b+1) (b+cg x+2)::(code x (b+1) reg++.jump (b+2+cg x+cg y)::code y (b+cg x+2) (reg+cR x))):=hl
 have hr:reg+(cR x+cR y)≤rs.length:=hr
 have hlj:=hl.tail.right
 rw [dB] at hlj
 have hK:∀ e,e ∈ mw fit std x a++mw fit std y a→∀ rs',ew reg (cR x+cR y) rs rs'→jj prog fit std len mn (b+(cg x+cg y+2)) e rs' (κ e) (res e):=hK
 show jj prog fit std len mn b a rs (1+i6 fit std x a (fun e=>1+κ e)+i6 fit std y a κ) ((mw fit std x a++mw fit std y a).findSome? res)
 rw [List.findSome?_append]
 refine jj.orElse (fun pile=>iM ha hl.head) (cx (b+1) reg a rs res _ hl.tail.left ha (Nat.le_trans (Nat.add_le_add_left (Nat.le_add_right ..) reg) hr) fun e he rs' hA=>?_)
  (cy (b+cg x+2) (reg+cR x) a rs res κ ((show b+1+cg x+1=b+cg x+2 from congrArg (·+1) (Nat.add_right_comm b 1 (cg x))) ▸ hlj.tail) ha (Nat.add_assoc .. ▸ hr) fun e he rs' hA=>?_)
 ·exact jj.step (fun pile=>iM (xH (std:=std) hfit x ha he).2 hlj.head) (NB .. ▸ hK e (List.mem_append_left _ he) rs' (hA.wider (Nat.le_refl _) (Nat.add_le_add_left (Nat.le_add_right ..) reg)))
 ·exact Ny .. ▸ hK e (List.mem_append_right _ he) rs' (hA.wider (Nat.le_add_right ..) (Nat.le_of_eq (Nat.add_assoc ..)))
theorem B7 (x y:Nd) (cx:kU prog fit std len mn x (mw fit std x)) (cy:kU prog fit std len mn y (rawL fit std y)):kU prog fit std len mn (.cons x y) (rawL fit std (.cons x y)):=fun b reg a rs res κ hl ha hr hK=>by
 have hl:ol prog b (code x b reg++code y (b+cg x) (reg+cR x)):=hl
 have hr:reg+(cR x+cR y)≤rs.length:=hr
 have hly:=hl.right
 rw [dB] at hly
 have hK:∀ e,e ∈ (mw fit std x a).flatMap (rawL fit std y)→∀ rs',ew reg (cR x+cR y) rs rs'→jj prog fit std len mn (b+(cg x+cg y)) e rs' (κ e) (res e):=hK
 show jj prog fit std len mn b a rs (i6 fit std x a fun e=>i6 fit std y e κ) (((mw fit std x a).flatMap (rawL fit std y)).findSome? res)
 rw [im]
 refine cx b reg a rs _ _ hl.left ha (Nat.le_trans (Nat.add_le_add_left (Nat.le_add_right ..) reg) hr) fun e he rs' hA=>cy (b+cg x) (reg+cR x) e rs' res κ hly (xH (std:=std) hfit x ha he).2 (by rw [hA.1,Nat.add_assoc]; exact hr) fun e' he' rs'' hA'=>?_
 exact Nat.add_assoc .. ▸ hK e' (List.mem_flatMap.mpr ⟨e,he,he'⟩) rs'' ((hA.wider (Nat.le_refl _) (Nat.add_le_add_left (Nat.le_add_right ..) reg)).trans (hA'.wider (Nat.le_add_right ..) (Nat.le_of_eq (Nat.add_assoc ..))))
include hlen
theorem D2 (i c:Nat) (hc:c<7):kU prog fit std len mn (.rounds (.one i) c) (mw fit std (.rounds (.one i) c)):=fun b reg a rs res κ hl ha hr hK=>by
 have hR:mw fit std (.rounds (.one i) c) a=lh (a+(au c).least) (gY fit i (au c).most 12 0 a+1-(a+(au c).least)):=xJ fit std hfit i (au c).least (au c).most (F0 c hc) 12 0 none a (fun h=>nomatch h) ha (by omega)
 show jj prog fit std len mn b a rs (1+((mw fit std (.rounds (.one i) c) a).map κ).sum) _
 rw [hR] at hK ⊢
 have hs:∀ pile,Mine.step prog fit std len mn ⟨b,a,rs,pile⟩=if gY fit i (au c).most 12 0 a<a+(au c).least then bk pile rs else .cont ⟨b+1,gY fit i (au c).most 12 0 a,rs,if a+(au c).least<gY fit i (au c).most 12 0 a then .less (b+1) (a+(au c).least) (gY fit i (au c).most 12 0 a)::pile else pile⟩:=fun pile=>iM ha hl.head
 generalize gY fit i (au c).most 12 0 a=e at hK hs ⊢
 generalize a+(au c).least=lo at hK hs ⊢
 by_cases he:e<lo
 ·rw [Nat.sub_eq_zero_of_le he]
  exact jj.dead fun pile=>(hs pile).trans (if_pos he)
 ·obtain ⟨m,rfl⟩:=Nat.exists_eq_add_of_le (Nat.le_of_not_lt he)
  rw [Nat.add_assoc lo m 1,Nat.add_sub_cancel_left] at hK ⊢
  intro pile
  obtain ⟨j,f1,f2⟩:=vX lo m (fun x hx=>hK _ (D0 (Nat.lt_succ_of_le hx)) rs (ew.refl ..)) pile
  exact ⟨1+j,Nat.add_le_add_left f1 1,(ta ((hs pile).trans (if_neg he))).trans f2⟩
theorem wG (n:Nd) (c:Nat) (hc:c<7) (h:kU prog fit std len mn n (mw fit std n)):kU prog fit std len mn (.rounds n c) (mw fit std (.rounds n c)):=by
 rcases Hb n with ⟨i,rfl⟩ | hn
 ·exact D2 hfit hlen i c hc
 obtain ⟨e1,e2,e3,e4⟩:=hn c
 intro b reg a rs res κ hl ha hr hK
 rw [e1] at hl
 rw [e2] at hr hK
 rw [e3] at hK
 rw [e4]
 have g4:=hl.tail.tail.tail.right.head
 rw [dB] at g4
 have hlt:reg+1<rs.length:=by omega
 have hu:rs[reg]?=some rs[reg]:=List.getElem?_eq_getElem (Nat.lt_of_succ_lt hlt)
 have hv:(rs.set reg 0)[reg+1]?=some rs[reg+1]:=(List.getElem?_set_ne (Nat.succ_ne_self reg).symm).trans (List.getElem?_eq_getElem hlt)
 have hag:ew reg (cR n+2) rs ((rs.set reg 0).set (reg+1) (-1)):=(ew.set (Nat.le_refl _) (by omega)).trans (ew.set (Nat.le_succ _) (by omega))
 refine jj.save hu hv rfl (pc':=b+1) (y:=-1) (fun pile=>(iM ha hl.head).trans (wU (y:=fun Z=>(rs.set reg 0)[reg+1]?) (f:=fun u v=>.cont ⟨b+1,a,(rs.set reg 0).set (reg+1) (-1),.reg (reg+1) v::.reg reg u::pile⟩) hu hv)) ?_
 refine tQ hfit n h c hc b reg κ res hl.tail.head hl.tail.tail.head hl.tail.tail.tail.left g4 12 0 none a _ (ua.start hlen) ha ?_ ?_ (by rw [hag.1,Nat.add_assoc,Nat.add_comm 2]; exact hr) fun e he rs' hA=>?_
 ·exact (List.getElem?_set_ne (Nat.succ_ne_self reg)).trans (List.getElem?_set_self (Nat.lt_of_succ_lt hlt))
 ·exact List.getElem?_set_self (by rw [List.length_set]; exact hlt)
 ·rw [Nat.add_assoc b,Nat.add_comm 4]; exact hK e he rs' (hag.trans hA)
theorem EC (n:Nd):(∀ d,ld d n→kU prog fit std len mn n (mw fit std n))∧(∀ d,okL d n→kU prog fit std len mn n (rawL fit std n)) :=
 Nd.ind (P:=fun _ n=>kU prog fit std len mn n (mw fit std n)) (Q:=fun _ n=>kU prog fit std len mn n (rawL fit std n))
  (fun _ _ _ _ _ _ _ _ _ hl ha _ hK=>jj.test (fun Z=>iM ha hl.head) fun h=>hK _ h _ (ew.refl ..))
  (fun _ _ _ _ _ _ _ _ _ hl ha _ hK=>jj.test (fun Z=>iM ha hl.head) fun h=>hK _ h _ (ew.refl ..))
  (fun _ _ _ _ h=>h) (fun _ x y _ _ _ _ hx hy=>Fk hfit (.row x) (.row y) hx hy) (fun _ n c _ hc h=>wG hfit hlen n c hc h)
  (fun _ _ _ a rs res _ _ _ _ hK=>(qu res a).symm ▸ hK a (.head _) rs (ew.refl ..)) (fun _ x y _ _ hx hy=>B7 hfit x y hx hy) n
theorem G2 (l:Nd) (d:Nat) (hl:okL d l) (hprog:prog=code l 0 0++[.fin]) (a:Nat) (ha:a≤len) (rs:List Int) (hr:cR l≤rs.length) :
  jj prog fit std len mn 0 a rs (i6 fit std l a fun Z=>1) ((rawL fit std l a).find? fun e=>decide (mn≤e)):=by
 have hf:∀ ls:List Nat,(ls.find? fun e=>decide (mn≤e))=ls.findSome? fun e=>if mn≤e then some e else none:=by
  intro ls
  induction ls with
  | nil=>rfl
  | cons x r ih=>rw [List.find?_cons,List.findSome?_cons]; by_cases h:mn≤x <;> simp [h,ih]
 have hp:ol prog 0 (code l 0 0++[.fin]):=fun i _=>by rw [hprog,Nat.zero_add]
 have hq:=hp.right.head
 rw [dB] at hq
 rw [hf]
 refine (EC hfit hlen l).2 d hl 0 0 a rs _ _ hp.left ha (by rw [Nat.zero_add]; exact hr) fun e he rs' _ pile=>⟨1,Nat.le_refl _,(iM (I6 (std:=std) hfit l ha he).2 hq).trans ?_⟩
 show (if mn≤e then sM.acc e else bk pile rs')=fin pile rs' (if mn≤e then some e else none)
 by_cases h:mn≤e
 ·rw [if_pos h,if_pos h]; rfl
 ·rw [if_neg h,if_neg h]; rfl
end
end
section
noncomputable def eT (b l r:Nat):Nat:=match b,l with
 | 0,0=>1
 | 1,0=>2
 | 2,0=>4
 | 3,0=>8
 | 4,0=>16
 | 0,1=>r+2
 | 1,1=>[4,7,15,31,63].getD r 0
 | 2,1=>[16,21,85,341,1365].getD r 0
 | 0,2=>[4,10,41,206,1237].getD r 0
 | _,_=>0
noncomputable def aT (b l r:Nat):Nat:=match b,l with
 | 0,0=>1
 | 1,0=>2
 | 2,0=>4
 | 3,0=>8
 | 4,0=>16
 | 0,1=>r+2
 | 1,1=>[6,7,15,31,63].getD r 0
 | 2,1=>[20,21,85,341,1365].getD r 0
 | 0,2=>[6,12,41,206,1237].getD r 0
 | _,_=>0
noncomputable def Ji (b l:Nat) (p:Nat→Nat→Bool):Bool:=(List.range b).all fun x=>(List.range l).all (p x)
theorem pt {b l:Nat} {p:Nat→Nat→Bool} (h:Ji b l p=true) {x y:Nat} (hx:x<b) (hy:y<l):p x y=true :=
 List.all_eq_true.mp (List.all_eq_true.mp h x (List.mem_range.mpr hx)) y (List.mem_range.mpr hy)
theorem Jn {b l:Nat} (h:b+2*l≤4):b<5∧l<3:=by omega
theorem x3 {b l r q:Nat} (h:b+2*l≤4) (hr:r≤4) (hq:q≤r):eT b l q≤eT b l r∧aT b l q≤aT b l r∧1≤eT b l r∧1≤aT b l r :=
 of_decide_eq_true (pt (pt (show Ji 5 3 (fun b l=>Ji 5 5 fun r q=>decide (b+2*l≤4→q≤r→eT b l q≤eT b l r∧aT b l q≤aT b l r∧1≤eT b l r∧1≤aT b l r))=true by decide +kernel) (Jn h).1 (Jn h).2)
  (Nat.lt_succ_of_le hr) (Nat.lt_succ_of_le (Nat.le_trans hq hr))) h hq
theorem L8 {b l b' l' r:Nat} (h:b+b'+2*(l+l')≤4) (hr:r≤4):aT b l r≤aT (b+b') (l+l') r∧eT b l r*aT b' l' r≤aT (b+b') (l+l') r∧eT b l r*eT b' l' r≤eT (b+b') (l+l') r :=
 of_decide_eq_true (pt (List.all_eq_true.mp (pt (show Ji 5 3 (fun b l=>(List.range 5).all fun r=>Ji 5 3 fun b' l'=>decide (b+b'+2*(l+l')≤4→aT b l r≤aT (b+b') (l+l') r∧eT b l r*aT b' l' r≤aT (b+b') (l+l') r∧eT b l r*eT b' l' r≤eT (b+b') (l+l') r))=true by decide +kernel)
  (by omega) (by omega)) r (List.mem_range.mpr (Nat.lt_succ_of_le hr))) (by omega) (by omega)) h
theorem Mt {b l b' l' r:Nat} (h:b+b'+1+2*(l+l')≤4) (hr:r≤4):aT b l r≤aT (b+b'+1) (l+l') r∧aT b' l' r≤aT (b+b'+1) (l+l') r∧eT b l r+eT b' l' r≤eT (b+b'+1) (l+l') r∧1+eT b l r≤2*aT (b+b'+1) (l+l') r :=
 of_decide_eq_true (pt (List.all_eq_true.mp (pt (show Ji 5 3 (fun b l=>(List.range 5).all fun r=>Ji 5 3 fun b' l'=>decide (b+b'+1+2*(l+l')≤4→aT b l r≤aT (b+b'+1) (l+l') r∧aT b' l' r≤aT (b+b'+1) (l+l') r∧eT b l r+eT b' l' r≤eT (b+b'+1) (l+l') r∧1+eT b l r≤2*aT (b+b'+1) (l+l') r))=true by decide +kernel)
  (by omega) (by omega)) r (List.mem_range.mpr (Nat.lt_succ_of_le hr))) (by omega) (by omega)) h
noncomputable def xS (E:Nat→Nat):Nat→Nat:=Nat.rec (1+E 0) fun r x=>1+E (r+1)*x
noncomputable def bS (A E:Nat→Nat):Nat→Nat:=Nat.rec (A 0) fun r x=>A (r+1)+E (r+1)*x
theorem Bg {b l r:Nat} (h:b+2*(l+1)≤4) (hr:r≤4):xS (eT b l) r≤eT b (l+1) r∧bS (aT b l) (eT b l) r+1≤aT b (l+1) r∧eT b l r*eT b l r≤eT b (l+1) r∧aT b l r*(1+eT b l r)≤aT b (l+1) r ∧
  3+3*eT b l r+2*(eT b l r*eT b l r)≤4*aT b (l+1) r∧r+1≤eT b (l+1) r∧2+2*eT b l r≤4*aT b l r :=
 of_decide_eq_true (List.all_eq_true.mp (pt (show Ji 5 3 (fun b l=>(List.range 5).all fun r=>decide (b+2*(l+1)≤4→xS (eT b l) r≤eT b (l+1) r∧bS (aT b l) (eT b l) r+1≤aT b (l+1) r∧eT b l r*eT b l r≤eT b (l+1) r∧aT b l r*(1+eT b l r)≤aT b (l+1) r ∧
  3+3*eT b l r+2*(eT b l r*eT b l r)≤4*aT b (l+1) r∧r+1≤eT b (l+1) r∧2+2*eT b l r≤4*aT b l r))=true by decide +kernel) (by omega) (by omega)) r (List.mem_range.mpr (Nat.lt_succ_of_le hr))) h
noncomputable def sz (n:Nd):Nat:=cN n+2*eG n+4*eO n
theorem Dv:∀ c,c<7→c≠3→(au c).least≤1:=by decide
noncomputable def W (A E:Nat→Nat) (s K:Nat):Nat→Nat:=Nat.rec (2+(A 0*s+E 0*(2+K))+K) fun r w=>2+(A (r+1)*s+E (r+1)*(1+w))+K
section
variable {A E:Nat→Nat} {s K:Nat}
theorem LD:∀ r,1+K≤W A E s K r
 | 0=>Nat.add_le_add_right (Nat.le_trans (by decide:1≤2) (Nat.le_add_right ..)) K
 | _+1=>Nat.add_le_add_right (Nat.le_trans (by decide:1≤2) (Nat.le_add_right ..)) K
theorem JN (hE:∀ r,r≤4→1≤E r) {q r:Nat} (h:q≤r) (hr:r≤4):W A E s K q≤W A E s K r:=by
 induction h with
 | refl=>exact Nat.le_refl _
 | @step r _ ih=>exact Nat.le_trans (ih (Nat.le_of_succ_le hr)) (Nat.le_trans (Nat.le_trans (Nat.le_trans (Nat.le_add_left _ 1) (Nat.le_mul_of_pos_left _ (hE _ hr))) (Nat.le_add_left _ (A (r+1)*s))) (Nat.le_trans (Nat.le_add_left _ 2) (Nat.le_add_right _ K)))
theorem J8 {A E:Nat} (q:2+2*E≤4*A):2+(A*s+E*(2+K))+K≤A*(s+4)+(1+E)*K:=by
 rw [Nat.mul_add E,Nat.mul_add A,Nat.add_mul,Nat.one_mul]
 generalize A*s=x
 generalize E*K=y
 omega
theorem JJ {A E B X w:Nat} (q:2+2*E≤4*A) (h:w≤B*(s+4)+X*K):2+(A*s+E*(1+w))+K≤(A+E*B)*(s+4)+(1+E*X)*K:=by
 have m:=Nat.mul_le_mul_left E h
 rw [Nat.mul_add,← Nat.mul_assoc,← Nat.mul_assoc] at m
 rw [Nat.mul_add E,Nat.mul_one,Nat.add_mul A,Nat.add_mul 1,Nat.one_mul,Nat.mul_add A]
 generalize E*w=u at m ⊢
 generalize E*B*(s+4)=v at m ⊢
 generalize E*X*K=z at m ⊢
 generalize A*s=x
 omega
theorem LG (q:∀ r,r≤4→2+2*E r≤4*A r):∀ r,r≤4→W A E s K r≤bS A E r*(s+4)+xS E r*K
 | 0,h=>J8 (q 0 h)
 | r+1,h=>JJ (q (r+1) h) (LG q r (Nat.le_of_succ_le h))
section
variable {C:Nat→(Nat→Nat)→Nat} {least:Nat} {most:Int} {κ:Nat→Nat} {len:Nat}
theorem tn {k d l a} (hκ:(if d<least then 0 else κ a)≤K):jU C least most κ (k+1) d l a≤2+C a (fun e=>1+jU C least most κ k (d+1) (some a) e)+K :=
 Nat.add_le_add (Nat.le_trans (Nat.add_le_add_left (cn (P:=(·≤1+C a fun e=>1+jU C least most κ k (d+1) (some a) e)) (fun Z=>Nat.le_refl _) fun Z=>Nat.zero_le _) 1) (Nat.le_of_eq (Nat.add_assoc 1 1 _).symm)) hκ
theorem As {k d l a} (hκ:(if d<least then 0 else κ a)≤K) (hgo:¬ dG least most d l a=true):jU C least most κ (k+1) d l a≤1+K :=
 Nat.add_le_add (Nat.le_of_eq (congrArg (1+·) (if_neg hgo))) hκ
theorem vJ (hlen:len≤4) (hE:∀ r,r≤4→1≤E r) (hC:∀ a κ K,a≤len→(∀ e,a≤e→e≤len→κ e≤K)→C a κ≤A (len-a)*s+E (len-a)*K) (hc:least≤1) :
  ∀ (k d:Nat) (l:Option Nat) (a:Nat),a≤len→(∀ e,a≤e→e≤len→κ e≤K)→jU C least most κ k d l a≤if l=some a∧1≤d then 1+K else W A E s K (len-a)
 | 0,d,l,a,ha,hκ=>Nat.zero_le _
 | k+1,d,l,a,ha,hκ=>by
  have hκa:(if d<least then 0 else κ a)≤K:=cn (P:=(·≤K)) (fun Z=>Nat.zero_le _) fun Z=>hκ a (Nat.le_refl _) ha
  by_cases hst:l=some a∧1≤d
  ·rw [if_pos hst]
   exact As hκa fun h=>(Bool.or_eq_true_iff.mp h).elim (fun h=>Nat.not_lt.mpr (Nat.le_trans hc hst.2) (of_decide_eq_true h)) fun h=>of_decide_eq_true (Bool.and_eq_true_iff.mp h).1 hst.1
  ·rw [if_neg hst]
   refine Nat.le_trans (tn hκa) ?_
   have ih:=fun e (h1:a≤e) (h2:e≤len)=>vJ hlen hE hC hc k (d+1) (some a) e h2 fun x g1 g2=>hκ x (Nat.le_trans h1 g1) g2
   have hK:∀ {K'},(∀ e,a≤e→e≤len→1+jU C least most κ k (d+1) (some a) e≤K')→2+C a (fun e=>1+jU C least most κ k (d+1) (some a) e)+K≤2+(A (len-a)*s+E (len-a)*K')+K:=fun h=>Nat.add_le_add_right (Nat.add_le_add_left (hC a _ _ ha h) 2) K
   have hs:1+jU C least most κ k (d+1) (some a) a≤1+(1+K):=Nat.add_le_add_left (Nat.le_trans (ih a (Nat.le_refl _) ha) (Nat.le_of_eq (if_pos ⟨rfl,Nat.succ_pos d⟩))) 1
   generalize hr:len-a=r at hK
   have hrl:r≤4:=hr ▸ Nat.le_trans (Nat.sub_le ..) hlen
   cases r with
   | zero=>exact hK fun e h1 h2=>Nat.le_antisymm h1 (Nat.le_trans h2 (Nat.sub_eq_zero_iff_le.mp hr)) ▸ Nat.le_trans hs (Nat.le_of_eq (Nat.add_assoc 1 1 K).symm)
   | succ r =>
    refine hK fun e h1 h2=>?_
    rcases Nat.eq_or_lt_of_le h1 with h | h
    ·exact h ▸ Nat.le_trans hs (Nat.add_le_add_left (LD r) 1)
    ·refine Nat.add_le_add_left (Nat.le_trans (ih e h1 h2) ?_) 1
     rw [if_neg fun q=>Nat.ne_of_lt h (Option.some.inj q.1)]
     exact JN hE (Nat.le_of_lt_succ (Nat.lt_of_lt_of_eq (Nat.sub_lt_sub_left (Nat.lt_of_lt_of_le h h2) h) hr)) (Nat.le_of_succ_le hrl)
end
end
noncomputable def iq (fit std:Nat→Nat→Bool) (len:Nat) (n:Nd):Prop:=∀ (a:Nat) (κ:Nat→Nat) (K:Nat),a≤len→(∀ e,a≤e→e≤len→κ e≤K) →
 i6 fit std n a κ≤aT (eG n) (eO n) (len-a)*sz n+eT (eG n) (eO n) (len-a)*K
end
section
section
theorem LU {x y A A1 A2 E E1 E2 s t K:Nat} (h1:x≤A1*s+E1*(1+K)) (h2:y≤A2*t+E2*K) (a1:A1≤A) (a2:A2≤A) (e:E1+E2≤E) (q:1+E1≤2*A):1+x+y≤A*(s+t+2)+E*K:=by
 have m1:=Nat.le_trans h1 (Nat.add_le_add_right (Nat.mul_le_mul_right s a1) _)
 have m2:=Nat.le_trans h2 (Nat.add_le_add_right (Nat.mul_le_mul_right t a2) _)
 have m3:=Nat.mul_le_mul_right K e
 rw [Nat.mul_add,Nat.mul_one] at m1
 rw [Nat.add_mul] at m3
 rw [Nat.mul_add,Nat.mul_add]
 clear h1 h2 a1 a2 e
 generalize A*s=u at *
 generalize A*t=v at *
 generalize E1*K=w1 at *
 generalize E2*K=w2 at *
 generalize E*K=w at *
 omega
theorem J3 {x A A1 A2 E E1 E2 s t K:Nat} (h1:x≤A1*s+E1*(A2*t+E2*K)) (a1:A1≤A) (a2:E1*A2≤A) (e:E1*E2≤E):x≤A*(s+t)+E*K:=by
 rw [Nat.mul_add,← Nat.mul_assoc,← Nat.mul_assoc,← Nat.add_assoc] at h1
 rw [Nat.mul_add]
 exact Nat.le_trans h1 (Nat.add_le_add (Nat.add_le_add (Nat.mul_le_mul_right s a1) (Nat.mul_le_mul_right t a2)) (Nat.mul_le_mul_right K e))
theorem KM {x A A' E E' s K:Nat} (h:x≤2+(A*s+E*(1+(2+(A*s+E*(1+(1+K)))))) ) (a:A*(1+E)≤A') (e:E*E≤E') (q:3+3*E+2*(E*E)≤4*A'):1+x≤A'*(s+4)+E'*K:=by
 have m1:=Nat.mul_le_mul_right s a
 have m2:=Nat.mul_le_mul_right K e
 rw [Nat.mul_add,Nat.mul_one,Nat.add_mul,Nat.mul_comm A E,Nat.mul_assoc] at m1
 rw [Nat.mul_add E 1 (2+(A*s+E*(1+(1+K)))),Nat.mul_add E 2,Nat.mul_add E (A*s),Nat.mul_add E 1 (1+K),Nat.mul_add E 1 K,Nat.mul_one,Nat.mul_add E E,Nat.mul_add E E,← Nat.mul_assoc E E K] at h
 rw [Nat.mul_add]
 clear a e
 generalize E*(A*s)=u at *
 generalize A*s=v at *
 generalize A'*s=z at *
 generalize E*E*K=w at *
 generalize E'*K=y at *
 generalize E*E=g at *
 omega
theorem EQ (κ:Nat→Nat) (K:Nat):∀ l:List Nat,(∀ e ∈ l,κ e≤K)→(l.map κ).sum≤l.length*K
 | [],_=>Nat.zero_le _
 | x::r,h=>Nat.le_trans (Nat.add_le_add (h x (.head _)) (EQ κ K r fun e he=>h e (.tail _ he))) (Nat.le_of_eq ((Nat.add_comm ..).trans (Nat.succ_mul r.length K).symm))
theorem Dz (lo m:Nat):(lh lo m).length=m:=by
 induction m with
 | zero=>rfl
 | succ m ih=>exact congrArg (·+1) ih
end
section
variable {fit std:Nat→Nat→Bool} {len:Nat} (hfit:∀ i a,fit i a=true→a<len) (hlen:len≤4)
include hlen
theorem HQ (x y:Nd) (hx:eG x+2*eO x≤4→iq fit std len x) (hy:eG y+2*eO y≤4→iq fit std len y) (hu:eG x+eG y+1+2*(eO x+eO y)≤4):iq fit std len (.branches x y):=fun a κ K ha hκ=>by
 have f:=Mt hu (Nat.le_trans (Nat.sub_le len a) hlen)
 have h:=LU (hx (by omega) a (fun e=>1+κ e) (1+K) ha fun e g1 g2=>Nat.add_le_add_left (hκ e g1 g2) 1) (hy (by omega) a κ K ha hκ) f.1 f.2.1 f.2.2.1 f.2.2.2
 rw [show sz x+sz y+2=sz (.branches x y) by show _=cN x+cN y+2*(eG x+eG y+1)+4*(eO x+eO y); unfold sz; omega] at h
 exact h
theorem DD (x y:Nd) (hx:eG x+2*eO x≤4→iq fit std len x) (hy:eG y+2*eO y≤4→iq fit std len y) (hu:eG x+eG y+2*(eO x+eO y)≤4):iq fit std len (.cons x y):=fun a κ K ha hκ=>by
 have hl:=Nat.le_trans (Nat.sub_le len a) hlen
 have f:=L8 hu hl
 have hu2:eG y+2*eO y≤4:=by omega
 have h:=J3 (hx (by omega) a (fun e=>i6 fit std y e κ) (aT (eG y) (eO y) (len-a)*sz y+eT (eG y) (eO y) (len-a)*K) ha fun e g1 g2=>by
  have m:=x3 hu2 hl (Nat.sub_le_sub_left g1 len)
  exact Nat.le_trans (hy hu2 e κ K g2 fun e' q1 q2=>hκ e' (Nat.le_trans g1 q1) q2) (Nat.add_le_add (Nat.mul_le_mul_right _ m.2.1) (Nat.mul_le_mul_right _ m.1))) f.1 f.2.1 f.2.2
 rw [show sz x+sz y=sz (.cons x y) by show _=cN x+cN y+2*(eG x+eG y)+4*(eO x+eO y); unfold sz; omega] at h
 exact h
theorem Aa (n:Nd) (c:Nat) (hc:c<7) (hn:∀ c,i6 fit std (.rounds n c)=fun a κ=>1+jU (i6 fit std n) (au c).least (au c).most κ 12 0 none a) (hu:eG n+2*(eO n+1)≤4) (hC:iq fit std len n):iq fit std len (.rounds n c):=fun a κ K ha hκ=>by
 have hl:=Nat.le_trans (Nat.sub_le len a) hlen
 have hu2:eG n+2*eO n≤4:=by omega
 have f:=Bg hu hl
 rw [hn]
 show _≤aT (eG n) (eO n+1) (len-a)*(sz n+4)+eT (eG n) (eO n+1) (len-a)*K
 by_cases h3:c=3
 ·subst h3
  have c2:∀ l e,a≤e→e≤len→jU (i6 fit std n) 2 2 κ 10 2 l e≤1+K:=fun l e g1 g2=>As (hκ e g1 g2) (by unfold dG; rw [show decide ((2:Nat)<2)=false from rfl,show (decide ((2:Int)<0) || decide (((2:Nat):Int)<2))=false from rfl,Bool.and_false]; exact Bool.false_ne_true)
  have c1:∀ l e,a≤e→e≤len→jU (i6 fit std n) 2 2 κ 11 1 l e≤2+(aT (eG n) (eO n) (len-a)*sz n+eT (eG n) (eO n) (len-a)*(1+(1+K))):=fun l e g1 g2=>by
   have m:=x3 hu2 hl (Nat.sub_le_sub_left g1 len)
   exact Nat.le_trans (tn (K:=0) (Nat.le_refl _)) (Nat.add_le_add_left (Nat.le_trans (hC e _ _ g2 fun e' q1 q2=>Nat.add_le_add_left (c2 _ e' (Nat.le_trans g1 q1) q2) 1) (Nat.add_le_add (Nat.mul_le_mul_right _ m.2.1) (Nat.mul_le_mul_right _ m.1))) 2)
  exact KM (Nat.le_trans (tn (K:=0) (Nat.le_refl _)) (Nat.add_le_add_left (hC a _ _ ha fun e g1 g2=>Nat.add_le_add_left (c1 _ e g1 g2) 1) 2)) f.2.2.2.1 f.2.2.1 f.2.2.2.2.1
 ·have hL:=vJ (K:=K) (κ:=κ) (most:=(au c).most) hlen (fun r hr=>(x3 hu2 hr (Nat.le_refl r)).2.2.1) hC (Dv c hc h3) 12 0 none a ha hκ
  rw [if_neg fun h=>nomatch h.1] at hL
  refine Nat.le_trans (Nat.add_le_add_left (Nat.le_trans hL (LG (fun r hr=>(Bg hu hr).2.2.2.2.2.2) _ hl)) 1) ?_
  have m1:=Nat.mul_le_mul_right (sz n+4) f.2.1
  have m2:=Nat.mul_le_mul_right K f.1
  rw [Nat.add_mul,Nat.one_mul] at m1
  refine Nat.le_trans ?_ (Nat.add_le_add m1 m2)
  rw [← Nat.add_assoc,Nat.add_comm 1]
  exact Nat.add_le_add_right (Nat.add_le_add_left (Nat.le_add_left 1 _) _) _
include hfit
theorem G9 (i c:Nat) (hc:c<7):iq fit std len (.rounds (.one i) c):=fun a κ K ha hκ=>by
 have hl:=Nat.le_trans (Nat.sub_le len a) hlen
 have f:=Bg (b:=0) (l:=0) (by decide) hl
 have hR:(mw fit std (.rounds (.one i) c) a).length≤len-a+1:=by
  rw [show mw fit std (.rounds (.one i) c) a=lh (a+(au c).least) (gY fit i (au c).most 12 0 a+1-(a+(au c).least)) from xJ fit std hfit i (au c).least (au c).most (F0 c hc) 12 0 none a (fun h=>nomatch h) ha (by omega),Dz]
  exact Nat.le_trans (Nat.sub_le_sub_left (Nat.le_add_right ..) _) (Nat.le_trans (Nat.sub_le_sub_right (Nat.succ_le_succ (C_ fit hfit i (au c).most 12 0 a ha)) a) (Nat.le_of_eq (Nat.succ_sub ha)))
 have hs:=EQ κ K (mw fit std (.rounds (.one i) c) a) fun e he =>
  have h:=xH (std:=std) hfit (.rounds (.one i) c) ha he
  hκ e h.1 h.2
 exact Nat.add_le_add (Nat.mul_le_mul (x3 (b:=0) (l:=1) (by decide) hl (Nat.le_refl _)).2.2.2 (show 1≤5 by decide)) (Nat.le_trans hs (Nat.mul_le_mul_right K (Nat.le_trans hR f.2.2.2.2.2.1)))
theorem Fd (n:Nd):(∀ d,ld d n→eG n+2*eO n≤4→iq fit std len n)∧(∀ d,okL d n→eG n+2*eO n≤4→iq fit std len n) :=
 Nd.ind (P:=fun _ n=>eG n+2*eO n≤4→iq fit std len n) (Q:=fun _ n=>eG n+2*eO n≤4→iq fit std len n)
  (fun _ i _ _ a κ K ha hκ=>by
   show _≤1*1+1*K
   rw [Nat.one_mul,Nat.one_mul]
   exact cn (P:=(·≤1+K)) (fun h=>Nat.add_le_add_left (hκ _ (Nat.le_succ a) (hfit i a h)) 1) fun Z=>Nat.le_add_right 1 K)
  (fun _ i _ _ a κ K ha hκ=>by
   show _≤1*1+1*K
   rw [Nat.one_mul,Nat.one_mul]
   exact cn (P:=(·≤1+K)) (fun h=>Nat.add_le_add_left (hκ _ (Nat.le_refl a) ha) 1) fun Z=>Nat.le_add_right 1 K)
  (fun _ _ _ _ h=>h) (fun _ x y _ _ _ _=>HQ hlen (.row x) (.row y))
  (fun _ n c _ hc h hu=>(Hb n).elim (fun ⟨i,e⟩=>e ▸ G9 hfit hlen i c hc) fun hn=>Aa hlen n c hc (fun c=>funext fun a=>funext ((hn c).2.2.2 fit std a)) hu (h (Nat.le_trans (Nat.add_le_add_left (Nat.mul_le_mul_left 2 (Nat.le_succ _)) _) hu)))
  (fun _ _ a κ K ha hκ=>by show κ a≤1*0+1*K; rw [Nat.mul_zero,Nat.zero_add,Nat.one_mul]; exact hκ a (Nat.le_refl _) ha) (fun _ x y _ _=>DD hlen x y) n
end
end
section
structure gZ where
 base:ah
 mid:ah
 pl:Nat
 t:List Nat
 bg:Int
 mn:Int
 most:Int
noncomputable def Nf (R:gZ) (st a pc:Int) (p:Nat):dl:=.inst iw [(ga,.loc R.pl),(cj,.str R.t),(qt,.int R.bg),(gG,.int R.mn),(re,.int R.most),(dZ,.int st),(ba,.int a),(fw,.int pc),(bx,.loc (p+1)),(aI,.loc (p+2)),(gg,.loc p)]
noncomputable def gZ.p (R:gZ):Nat:=R.base.length+1+R.mid.length
noncomputable def SM (R:gZ) (st a pc:Int) (pile groups regs:List PV):ah:=R.base++Nf R st a pc R.p::(R.mid++[.lst pile,.lst groups,.lst regs])
theorem Hc {γ:Type} (a:List γ) (x:γ) (r s:List γ) (i:Nat):(a++x::(r++s))[a.length+1+r.length+i]?=s[i]?:=by
 rw [Nat.add_assoc,Nat.add_assoc,List.getElem?_append_right (Nat.le_add_right ..),Nat.add_sub_cancel_left,Nat.add_comm 1,List.getElem?_cons_succ,List.getElem?_append_right (Nat.le_add_right ..),Nat.add_sub_cancel_left]
theorem GS {γ:Type} (a:List γ) (x w:γ) (r s:List γ) (i:Nat):(a++x::(r++s)).set (a.length+1+r.length+i) w=a++x::(r++s.set i w):=by
 rw [Nat.add_assoc,Nat.add_assoc,List.set_append_right (h:=Nat.le_add_right ..),Nat.add_sub_cancel_left,Nat.add_comm 1,List.set_cons_succ,List.set_append_right (h:=Nat.le_add_right ..),Nat.add_sub_cancel_left]
section
variable {R:gZ} {st a pc:Int} {pile groups regs:List PV} {L N:Nat}
theorem lb:(SM R st a pc pile groups regs)[R.base.length]?=some (Nf R st a pc R.p):=bt _ _ _
theorem SM_program:aq (af L) (.loc R.base.length) ga (SM R st a pc pile groups regs)=some (.loc R.pl,SM R st a pc pile groups regs):=cz lb rfl
theorem SM_text:aq (af L) (.loc R.base.length) cj (SM R st a pc pile groups regs)=some (.str R.t,SM R st a pc pile groups regs):=cz lb rfl
theorem SM_least:aq (af L) (.loc R.base.length) gG (SM R st a pc pile groups regs)=some (.int R.mn,SM R st a pc pile groups regs):=cz lb rfl
theorem SM_most:aq (af L) (.loc R.base.length) re (SM R st a pc pile groups regs)=some (.int R.most,SM R st a pc pile groups regs):=cz lb rfl
theorem SM_steps:aq (af L) (.loc R.base.length) dZ (SM R st a pc pile groups regs)=some (.int st,SM R st a pc pile groups regs):=cz lb rfl
theorem SM_at:aq (af L) (.loc R.base.length) ba (SM R st a pc pile groups regs)=some (.int a,SM R st a pc pile groups regs):=cz lb rfl
theorem SM_row:aq (af L) (.loc R.base.length) fw (SM R st a pc pile groups regs)=some (.int pc,SM R st a pc pile groups regs):=cz lb rfl
theorem SM_groups:aq (af L) (.loc R.base.length) bx (SM R st a pc pile groups regs)=some (.loc (R.p+1),SM R st a pc pile groups regs):=cz lb rfl
theorem SM_regs:aq (af L) (.loc R.base.length) aI (SM R st a pc pile groups regs)=some (.loc (R.p+2),SM R st a pc pile groups regs):=cz lb rfl
theorem SM_pile:aq (af L) (.loc R.base.length) gg (SM R st a pc pile groups regs)=some (.loc R.p,SM R st a pc pile groups regs):=cz lb rfl
theorem SM_setat {i:Int}:am (af L) (.loc R.base.length) ba (.int i) (SM R st a pc pile groups regs)=some ((),SM R st i pc pile groups regs):=d6 rfl
theorem SM_setrow {i:Int}:am (af L) (.loc R.base.length) fw (.int i) (SM R st a pc pile groups regs)=some ((),SM R st a i pile groups regs):=d6 rfl
theorem SM_setsteps {i:Int}:am (af L) (.loc R.base.length) dZ (.int i) (SM R st a pc pile groups regs)=some ((),SM R i a pc pile groups regs):=d6 rfl
theorem rY:(SM R st a pc pile groups regs)[R.p]?=some (.lst pile):=Hc _ _ _ _ 0
theorem F2:(SM R st a pc pile groups regs)[R.p+1]?=some (.lst groups):=Hc _ _ _ _ 1
theorem we:(SM R st a pc pile groups regs)[R.p+2]?=some (.lst regs):=Hc _ _ _ _ 2
theorem Jh {l:List PV}:(SM R st a pc pile groups regs).set R.p (.lst l)=SM R st a pc l groups regs:=GS _ _ _ _ _ 0
theorem K9 {l:List PV}:(SM R st a pc pile groups regs).set (R.p+1) (.lst l)=SM R st a pc pile l regs:=GS _ _ _ _ _ 1
theorem Jz {l:List PV}:(SM R st a pc pile groups regs).set (R.p+2) (.lst l)=SM R st a pc pile groups l:=GS _ _ _ _ _ 2
theorem SM_appendE:bw (af L) (.loc R.p) aY (SM R st a pc pile groups regs)=some (.lst,SM R st a pc pile groups regs):=nY rY rfl
theorem SM_popE:bw (af L) (.loc R.p) wk (SM R st a pc pile groups regs)=some (.lst,SM R st a pc pile groups regs):=nY rY rfl
theorem AR {k:Nat} {c:dl} (h:R.base[k]?=some c):(SM R st a pc pile groups regs)[k]?=some c:=by
 unfold SM; rw [List.getElem?_append_left (List.getElem?_eq_some_iff.mp h).1]; exact h
theorem JS {k:Nat} {c:dl} (h:R.mid[k]?=some c):(SM R st a pc pile groups regs)[R.base.length+1+k]?=some c:=by
 unfold SM
 rw [Nat.add_assoc,List.getElem?_append_right (Nat.le_add_right ..),Nat.add_sub_cancel_left,Nat.add_comm 1,List.getElem?_cons_succ,List.getElem?_append_left (List.getElem?_eq_some_iff.mp h).1]; exact h
theorem ub {v:PV} {c} (h:pile.length≤4194304):aW c (.loc R.p) aY [v] .lst (SM R st a pc pile groups regs)=some (.none,SM R st a pc (pile++[v]) groups regs):=(tc rY (Nat.ble_eq_true_of_le h)).trans (congrArg (fun x=>some (PV.none,x)) Jh)
end
noncomputable def lQ:wo→PV
 | .tr pc a=>.tup [.str [116,114,121],.int pc,.int a]
 | .less pc low e=>.tup [.str [108,101,115,115],.int pc,.int low,.int e]
 | .reg k old=>.tup [.str [114,101,103,105,115,116,101,114],.int k,.int old]
noncomputable def aQ (p:List wo):List PV:=(p.map lQ).reverse
noncomputable def bu (r:List Int):List PV:=r.map .int
theorem gF (p:List wo):(aQ p).length=p.length:=by unfold aQ; rw [List.length_reverse,List.length_map]
theorem fq (e:wo) (p:List wo):aQ (e::p)=aQ p++[lQ e]:=List.reverse_cons
theorem AA (p:List Int):(bu p).length=p.length:=List.length_map ..
theorem mF (r:List Int) (k:Nat):(bu r)[k]?=r[k]?.map .int:=List.getElem?_map ..
theorem zu (r:List Int) (k:Nat) (v:Int):(bu r).set k (.int v)=bu (r.set k v):=by unfold bu; rw [List.map_set]
noncomputable def SC (R:gZ) (groups:List PV) (st:Int) (c:DP):ah:=SM R st c.a c.pc (aQ c.pile) groups (bu c.regs)
end
section
theorem HS {c:PV→List PV→M PV} {σ:ah} {n:Nat} {l:List PV} {v:PV} (h:σ[n]?=some (.lst (l++[v]))) (hl:l.length+1≤4194304):aW c (.loc n) wk [] .lst σ=some (v,σ.set n (.lst l)):=by
 rw [tU,Gz,dC,h]
 rw [uB,J2,List.length_append,show Nat.ble (l.length+[v].length) lim=true from Nat.ble_eq_true_of_le hl,List.getLast?_concat,List.dropLast_concat]; rfl
theorem KG {k:Nat} {τ:ah} (h:τ[k]?=some (.lst [])):aj .NotEq (.loc k) (.frz []) τ=some (false,τ):=by
 rw [wI,gO,Jx,dC,h]; rfl
theorem Fb {k:Nat} {τ:ah} {l:List PV} {v:PV} (h:τ[k]?=some (.lst (l++[v]))):aj .NotEq (.loc k) (.frz []) τ=some (true,τ):=by
 cases l <;> simp [h,Mo]
section
variable {R:gZ} {st a pc:Int} {groups:List PV} {L N:Nat}
theorem AG {pile regs:List PV} {v:PV} {c} (h:pile.length+1≤4194304):aW c (.loc R.p) wk [] .lst (SM R st a pc (pile++[v]) groups regs)=some (v,SM R st a pc pile groups regs):=(HS rY h).trans (congrArg (fun x=>some (v,x)) Jh)
theorem Mw {l:List PV} {k:Nat} {v:PV} (h:l[k]?=some v):l=l.take k++v::l.drop (k+1)∧(l.take k).length=k:=by
 obtain ⟨hk,e⟩:=List.getElem?_eq_some_iff.mp h
 refine ⟨?_,List.length_take_of_le (Nat.le_of_lt hk)⟩
 rw [← e,← List.drop_eq_getElem_cons hk,List.take_append_drop]
theorem C0 {τ:ah} {n k:Nat} {l:List PV} {x v:PV} (h:τ[n]?=some (.lst l)) (e:l[k]?=some x) (hl:l.length≤1000000):cb (.loc n) (.int k) v τ=some ((),τ.set n (.lst (l.set k v))):=by
 have hk:=(List.getElem?_eq_some_iff.mp e).1
 rw [rE,dC,h]
 show guard (ii (k:Int) && Nat.blt k l.length && Nat.ble l.length lim) (tD n (.lst (l.set k v))) τ=_
 rw [qI (by omega),show Nat.blt k l.length=true from Nat.ble_eq_true_of_le hk,aO hl (by decide)]; rfl
theorem lJ {pile:List wo} {rs:List Int} {k:Nat} {v u:Int} (hu:rs[k]?=some u) (hk:rs.length≤1000000) (hp:pile.length≤4194304) :
  aa (af L) (N+1) dy [.loc R.base.length,.int k,.int v] (SM R st a pc (aQ pile) groups (bu rs))=some (.none,SM R st a pc (aQ (.reg k u::pile)) groups (bu (rs.set k v))):=by
 have hlt:=(List.getElem?_eq_some_iff.mp hu).1
 have hg:(bu rs)[k]?=some (.int u):=by rw [mF,hu]; rfl
 have h1:=lN (we (R:=R) (st:=st) (a:=a) (pc:=pc) (pile:=aQ pile) (groups:=groups) (regs:=bu rs)) (by omega) hg
 have h2:=ub (R:=R) (st:=st) (a:=a) (pc:=pc) (groups:=groups) (regs:=bu rs) (v:=lQ (.reg k u)) (c:=aa (af L) N) (by rw [gF]; exact hp)
 have h3:=(C0 (v:=.int v) (we (R:=R) (st:=st) (a:=a) (pc:=pc) (pile:=aQ pile++[lQ (.reg k u)]) (groups:=groups) (regs:=bu rs)) hg (by rw [AA]; exact hk)).trans (congrArg (fun x=>some ((),x)) Jz)
 rw [zu] at h3
 rw [fq]
 have h2:aW (aa (af L) N) (.loc R.p) aY [.tup [.str [114,101,103,105,115,116,101,114],.int k,.int u]] .lst (SM R st a pc (aQ pile) groups (bu rs))=_:=h2
 refine ar (r8 ..) ?_ ?_ <;> fail "go"
theorem go_on_ok {pile regs:List PV}:aa (af L) (N+1) nN [.loc R.base.length] (SM R st a pc pile groups regs)=some (.bool true,SM R st a (pc+1) pile groups regs):=by
 refine ar (F1 ..) ?_ ?_ <;> fail "go"
theorem Iz {pile:List PV} {rs:List Int} {k:Nat} {old:Int} (hk:k<rs.length) (hl:rs.length≤1000000) :
  aa (af L) (N+1) hV [.loc R.base.length,.tup [.str [114,101,103,105,115,116,101,114],.int k,.int old]] (SM R st a pc pile groups (bu rs))=some (.none,SM R st a pc pile groups (bu (rs.set k old))):=by
 have hg:(bu rs)[k]?=some (.int rs[k]):=by rw [mF,List.getElem?_eq_getElem hk]; rfl
 have h3:=(C0 (v:=.int old) (we (R:=R) (st:=st) (a:=a) (pc:=pc) (pile:=pile) (groups:=groups) (regs:=bu rs)) hg (by rw [AA]; exact hl)).trans (congrArg (fun x=>some ((),x)) Jz)
 rw [zu] at h3
 refine ar (vr ..) ?_ ?_ <;> fail "go"
end
end
section
section
variable {R:gZ} {groups:List PV} {L N:Nat}
noncomputable def LZ (R:gZ) (groups:List PV) (st:Int) (a pc:Int):sM→Option (PV × ah)→Prop
 | .cont c,o=>o=some (.bool true,SC R groups st c)
 | .fail,o=>∃ rs,o=some (.bool false,SM R st a pc [] groups (bu rs))
 | _,_=>True
theorem v9 {st a pc:Int}:∀ (pile:List wo) (rs:List Int) (L':Nat) (o:Option PV),pile.length<L'→pile.length≤4194304→rs.length≤1000000→(∀ pc low e,.less pc low e ∈ pile→1≤e) →
  LZ R groups st a pc (bk pile rs) (bc (iQ L (N+1)) (i8 L (N+1)) (iX L (N+1)) L' [(da,some (.loc R.base.length)),(jA,o)] (SM R st a pc (aQ pile) groups (bu rs)))
 | _,_,0,_,h,_,_,_=>absurd h (Nat.not_lt_zero _)
 | [],rs,M+1,o,_,_,_,_=>by
  refine ⟨rs,?_⟩
  have h:=KG (rY (R:=R) (st:=st) (a:=a) (pc:=pc) (pile:=[]) (groups:=groups) (regs:=bu rs))
  refine ar (σ:=SM R st a pc [] groups (bu rs)) (bp (fg ..) (fK ..) (fj ..)) ?_ ?_ <;> fail "go"
 | .tr pc' a'::p,rs,M+1,o,hL,hp,hr,hle=>by
  have h1:p.length+1≤4194304:=hp
  have g1:=Fb (rY (R:=R) (st:=st) (a:=a) (pc:=pc) (pile:=aQ p++[lQ (.tr pc' a')]) (groups:=groups) (regs:=bu rs))
  have g2:=AG (R:=R) (st:=st) (a:=a) (pc:=pc) (groups:=groups) (regs:=bu rs) (pile:=aQ p) (v:=lQ (.tr pc' a')) (c:=aa (af L) (N+1)) (by rw [gF]; exact h1)
  rw [fq]
  show _=_
  refine ar (bp (fg ..) (fK ..) (fj ..)) ?_ ?_ <;> fail "go"
 | .less pc' low e::p,rs,M+1,o,hL,hp,hr,hle=>by
  have h1:p.length+1≤4194304:=hp
  have he:=hle pc' low e (.head _)
  have g1:=Fb (rY (R:=R) (st:=st) (a:=a) (pc:=pc) (pile:=aQ p++[lQ (.less pc' low e)]) (groups:=groups) (regs:=bu rs))
  have g2:=AG (R:=R) (st:=st) (a:=a) (pc:=pc) (groups:=groups) (regs:=bu rs) (pile:=aQ p) (v:=lQ (.less pc' low e)) (c:=aa (af L) (N+1)) (by rw [gF]; exact h1)
  have e1:((e:Int)-1)=((e-1:Nat):Int):=by omega
  rw [fq]
  show _=some (PV.bool true,SM R st (e-1:Nat) pc' (aQ (if low<e-1 then .less pc' low (e-1)::p else p)) groups (bu rs))
  rw [← e1]
  by_cases hlt:low<e-1
  ·have q:decide ((low:Int)<(e:Int)-1)=true:=di (by omega)
   have g3:=ub (R:=R) (st:=st) (a:=(e:Int)-1) (pc:=pc') (groups:=groups) (regs:=bu rs) (pile:=aQ p) (v:=lQ (.less pc' low (e-1))) (c:=aa (af L) (N+1)) (by rw [gF]; omega)
   rw [if_pos hlt,fq]
   have g3:aW (aa (af L) (N+1)) (.loc R.p) aY [.tup [.str [108,101,115,115],.int pc',.int low,.int ((e:Int)-1)]] .lst (SM R st ((e:Int)-1) pc' (aQ p) groups (bu rs))=some (.none,SM R st ((e:Int)-1) pc' (aQ p++[lQ (.less pc' low (e-1))]) groups (bu rs)):=by rw [e1] at g3 ⊢; exact g3
   refine ar (bp (fg ..) (fK ..) (fj ..)) ?_ ?_ <;> fail "go"
  ·have q:decide ((low:Int)<(e:Int)-1)=false:=dn (by omega)
   rw [if_neg hlt]
   refine ar (bp (fg ..) (fK ..) (fj ..)) ?_ ?_ <;> fail "go"
 | .reg k old::p,rs,M+1,o,hL,hp,hr,hle=>by
  have h1:p.length+1≤4194304:=hp
  have hL:p.length+1<M+1:=hL
  rw [xT]
  by_cases hk:k<rs.length
  ·rw [if_pos hk]
   have ih:=v9 (st:=st) (a:=a) (pc:=pc) p (rs.set k old) M (some (lQ (.reg k old))) (by omega) (by omega) (by rw [List.length_set]; exact hr) (fun x y z h=>hle x y z (.tail _ h))
   have hu:aa (af L) (N+1) hV [.loc R.base.length,lQ (.reg k old)] (SM R st a pc (aQ p) groups (bu rs))=some (.none,SM R st a pc (aQ p) groups (bu (rs.set k old))):=Iz (R:=R) (L:=L) (N:=N) (st:=st) (a:=a) (pc:=pc) (groups:=groups) (pile:=aQ p) (old:=old) hk hr
   have g1:=Fb (rY (R:=R) (st:=st) (a:=a) (pc:=pc) (pile:=aQ p++[lQ (.reg k old)]) (groups:=groups) (regs:=bu rs))
   have g2:=AG (R:=R) (st:=st) (a:=a) (pc:=pc) (groups:=groups) (regs:=bu rs) (pile:=aQ p) (v:=lQ (.reg k old)) (c:=aa (af L) (N+1)) (by rw [gF]; exact h1)
   rw [fq]
   have h:bc (iQ L (N+1)) (i8 L (N+1)) (iX L (N+1)) (M+1) [(da,some (.loc R.base.length)),(jA,o)] (SM R st a pc (aQ p++[lQ (.reg k old)]) groups (bu rs))
   =bc (iQ L (N+1)) (i8 L (N+1)) (iX L (N+1)) M [(da,some (.loc R.base.length)),(jA,some (lQ (.reg k old)))] (SM R st a pc (aQ p) groups (bu (rs.set k old))):=by
    clear ih
    refine ig (u:=.v) (bp (fg ..) (fK ..) (fj ..)) ?_ ?_ <;> fail "go"
   rw [h]; exact ih
  ·rw [if_neg hk]; trivial
theorem Co (hL:4200000≤L) {st a pc:Int} {pile:List wo} {rs:List Int} (hp:pile.length≤4194304) (hr:rs.length≤1000000) (hle:∀ pc low e,.less pc low e ∈ pile→1≤e) :
  LZ R groups st a pc (bk pile rs) (aa (af L) (N+2) ip [.loc R.base.length] (SM R st a pc (aQ pile) groups (bu rs))):=by
 rw [Bs]
 exact v9 pile rs L none (by omega) hp hr hle
end
end
section
theorem Hf {t:List Nat} {a:Nat} (h:a<t.length):mq (t.drop a)=(decide ((a:Int)=(t.length:Int)-1) && decide (t[a]=10)):=by
 unfold mq
 rw [List.drop_eq_getElem_cons h,Bool.eq_iff_iff,Bool.or_eq_true,Bool.and_eq_true,decide_eq_true_iff,decide_eq_true_iff,decide_eq_true_iff,decide_eq_true_iff,List.cons.injEq,List.drop_eq_nil_iff]
 constructor
 ·rintro (h1 | ⟨h1,h2⟩)
  ·cases h1
  ·exact ⟨by omega,h1⟩
 ·exact fun ⟨h1,h2⟩=>.inr ⟨h2,by omega⟩
theorem CO {t:List Nat} {a:Nat} (h:t.length≤a):mq (t.drop a)=true:=by rw [List.drop_eq_nil_of_le h]; rfl
section
variable {R:gZ} {L N:Nat} {st pc:Int} {a:Nat} {pile groups regs:List PV} {fm:Bool} {σ:ah}
theorem xE {x y:Int}:aj .Eq (.int x) (.int y) σ=some (decide (x=y),σ):=rfl
theorem B2 {x y:Int}:aj .Lt (.int x) (.int y) σ=some (decide (x<y),σ):=rfl
theorem eq1_ok {x y:Nat}:aj .Eq (.str [x]) (.str [y]) σ=some (decide (x=y),σ):=by
 rw [eqs_ok]
 refine congrArg (fun b=>some (b,σ)) ?_
 rw [Bool.eq_iff_iff,decide_eq_true_iff,decide_eq_true_iff,List.cons.injEq]
 exact and_iff_left rfl
local macro_rules | `(tactic| fail "act")=>`(tactic| with_reducible first | assumption | exact SM_at | exact SM_text | exact neb_ok | exact eqb_ok | exact eq1_ok)
noncomputable def E8 (R:gZ) (L N:Nat) (w:List Nat) (S:ah) (b:Bool):Prop:=aa (af L) (N+2) gi [.loc R.base.length,.str w] S=some (.bool b,S)
theorem Mb:E8 R L N [65] (SM R st a pc pile groups regs) (decide ((a:Int)=0)):=by
 refine ar (bE ..) ?_ ?_ <;> fail "go"
theorem MY (ht:R.t.length≤1000):E8 R L N [122] (SM R st a pc pile groups regs) (decide ((a:Int)=R.t.length)):=by
 have h1:=dE (τ:=SM R st a pc pile groups regs) (w:=R.t) (aO ht (by decide))
 refine ar (bE ..) ?_ ?_ <;> fail "go"
theorem Lp (ht:R.t.length≤1000) (ha:a≤R.t.length):E8 R L N [90] (SM R st a pc pile groups regs) (mq (R.t.drop a)):=by
 have h1:=dE (τ:=SM R st a pc pile groups regs) (w:=R.t) (aO ht (by decide))
 have g1:=xE (σ:=SM R st a pc pile groups regs) (x:=a) (y:=R.t.length)
 have g2:=xE (σ:=SM R st a pc pile groups regs) (x:=a) (y:=(R.t.length:Int)-1)
 by_cases hlt:a<R.t.length
 ·have h2:=dK (τ:=SM R st a pc pile groups regs) (by omega) (List.getElem?_eq_getElem hlt)
  rw [dn (show ¬ ((a:Int)=R.t.length) by omega)] at g1
  rw [Hf hlt]
  cases hb:decide ((a:Int)=(R.t.length:Int)-1) <;> rw [hb] at g2 <;> (refine ar (bE ..) ?_ ?_ <;> fail "go")
 ·rw [di (show (a:Int)=R.t.length by omega)] at g1
  rw [CO (Nat.le_of_not_lt hlt)]
  refine ar (bE ..) ?_ ?_ <;> fail "go"
theorem LI (ht:R.t.length≤1000) (ha:a≤R.t.length):E8 R L N [36,109] (SM R st a pc pile groups regs) (mq (R.t.drop a) || decide (R.t[a]?=some 10)):=by
 have h1:=dE (τ:=SM R st a pc pile groups regs) (w:=R.t) (aO ht (by decide))
 have g1:=xE (σ:=SM R st a pc pile groups regs) (x:=a) (y:=R.t.length)
 by_cases hlt:a<R.t.length
 ·have h2:=dK (τ:=SM R st a pc pile groups regs) (by omega) (List.getElem?_eq_getElem hlt)
  rw [dn (show ¬ ((a:Int)=R.t.length) by omega)] at g1
  have e:(mq (R.t.drop a) || decide (R.t[a]?=some 10))=decide (R.t[a]=10):=by
   rw [Hf hlt,List.getElem?_eq_getElem hlt,show decide (some R.t[a]=some 10)=decide (R.t[a]=10) from by rw [Bool.eq_iff_iff,decide_eq_true_iff,decide_eq_true_iff,Option.some.injEq]]
   cases decide ((a:Int)=(R.t.length:Int)-1) <;> cases decide (R.t[a]=10) <;> rfl
  rw [e]
  refine ar (bE ..) ?_ ?_ <;> fail "go"
 ·rw [di (show (a:Int)=R.t.length by omega)] at g1
  rw [CO (Nat.le_of_not_lt hlt)]
  refine ar (bE ..) ?_ ?_ <;> fail "go"
theorem LM (ht:R.t.length≤1000) (ha:a≤R.t.length):E8 R L N [94,109] (SM R st a pc pile groups regs) (decide (a=0) || (decide (a<R.t.length) && decide (R.t[a-1]?=some 10))):=by
 have h1:=dE (τ:=SM R st a pc pile groups regs) (w:=R.t) (aO ht (by decide))
 have g1:=xE (σ:=SM R st a pc pile groups regs) (x:=a) (y:=0)
 by_cases h0:a=0
 ·rw [di (show (a:Int)=0 by omega)] at g1
  rw [di h0]
  refine ar (bE ..) ?_ ?_ <;> fail "go"
 ·rw [dn (show ¬ (a:Int)=0 by omega)] at g1
  rw [dn h0]
  by_cases hlt:a<R.t.length
  ·have q:=B2 (σ:=SM R st a pc pile groups regs) (x:=a) (y:=R.t.length)
   rw [di (show (a:Int)<R.t.length by omega)] at q
   rw [di hlt]
   have hx:R.t[a-1]?=some (R.t[a-1]'(kG hlt)):=List.getElem?_eq_getElem (kG hlt)
   have h2:=dK (τ:=SM R st a pc pile groups regs) (a:=a-1) (Nat.le_trans (Nat.sub_le ..) (Nat.le_trans ha (Nat.le_trans ht (by decide)))) hx
   rw [nX (Nat.pos_of_ne_zero h0)] at h2
   rw [hx,show decide (some (R.t[a-1]'(kG hlt))=some 10)=decide ((R.t[a-1]'(kG hlt))=10) from by rw [Bool.eq_iff_iff,decide_eq_true_iff,decide_eq_true_iff,Option.some.injEq]]
   refine ar (bE ..) ?_ ?_ <;> fail "go"
  ·have q:=B2 (σ:=SM R st a pc pile groups regs) (x:=a) (y:=R.t.length)
   rw [dn (show ¬ (a:Int)<R.t.length by omega)] at q
   rw [dn hlt]
   refine ar (bE ..) ?_ ?_ <;> fail "go"
end
end
section
theorem pf:∀ c ∈ kq,kp c=decide (c ∈ [97,98,65,66,49,95]):=by decide
theorem AH {t:List Nat} {a:Nat} (hc:∀ c ∈ t,c ∈ kq):jc (t.drop a)=match t[a]? with
  | some c=>kp c
  | none=>false:=by
 by_cases h:a<t.length
 ·rw [List.drop_eq_getElem_cons h,List.getElem?_eq_getElem h]
  exact (pf _ (hc _ (List.getElem_mem h))).symm
 ·rw [List.drop_eq_nil_of_le (Nat.le_of_not_lt h),List.getElem?_eq_none (Nat.le_of_not_lt h)]; rfl
theorem eN {a n:Nat} (h0:0<a) (h:a≤n):a-1<n:=Nat.lt_of_lt_of_le (Nat.sub_lt h0 Nat.one_pos) h
theorem ow {t:List Nat} {a:Nat} (h0:0<a) (h:a≤t.length):(t.take a).drop (a-1)=[t[a-1]'(eN h0 h)]:=by
 have e:(t.take a).length=a:=List.length_take_of_le h
 rw [List.drop_eq_getElem_cons (eN h0 (Nat.le_of_eq e.symm)),List.drop_eq_nil_of_le (by rw [e,Nat.sub_add_cancel h0]; exact Nat.le_refl a),List.getElem_take]
section
variable {R:gZ} {L N:Nat} {st pc:Int} {a:Nat} {pile groups regs:List PV} {fm:Bool} {σ:ah}
local macro_rules | `(tactic| fail "act")=>`(tactic| with_reducible first | assumption | exact SM_at | exact SM_text | exact neb_ok | exact eqb_ok | exact eq1_ok)
theorem CN (hc:∀ c ∈ R.t,c ∈ kq) (ht:R.t.length≤1000) (ha:a≤R.t.length) (w:Nat) (hw:w=98∨w=66) :
  E8 R L N [w] (SM R st a pc pile groups regs) ((jc (R.t.drop a) != jc ((R.t.take a).drop (a-1))) == decide (w=98)):=by
 have h1:=dE (τ:=SM R st a pc pile groups regs) (w:=R.t) (aO ht (by decide))
 have q1:=B2 (σ:=SM R st a pc pile groups regs) (x:=a) (y:=R.t.length)
 have q2:aj .Gt (.int a) (.int 0) (SM R st a pc pile groups regs)=some (decide ((0:Int)<a),SM R st a pc pile groups regs):=rfl
 rw [AH hc]
 by_cases p1:a<R.t.length
 ·rw [di (show (a:Int)<R.t.length by omega)] at q1
  have i1:=dK (τ:=SM R st a pc pile groups regs) (by omega) (List.getElem?_eq_getElem p1)
  have k1:=xo (L:=L) (N:=N) (c:=R.t[a]) (σ:=SM R st a pc pile groups regs)
  rw [List.getElem?_eq_getElem p1]
  show E8 R L N [w] _ ((kp R.t[a] != _) == _)
  generalize kp R.t[a]=b1 at k1 ⊢
  by_cases p2:0<a
  ·rw [di (show (0:Int)<a by omega)] at q2
   have i2:=dK (τ:=SM R st a pc pile groups regs) (a:=a-1) (Nat.le_trans (Nat.sub_le ..) (Nat.le_trans ha (Nat.le_trans ht (by decide)))) (List.getElem?_eq_getElem (eN p2 ha))
   rw [nX p2] at i2
   have k2:=xo (L:=L) (N:=N) (c:=R.t[a-1]'(eN p2 ha)) (σ:=SM R st a pc pile groups regs)
   rw [ow p2 ha,show jc [R.t[a-1]'(eN p2 ha)]=kp (R.t[a-1]'(eN p2 ha)) from (pf _ (hc _ (List.getElem_mem _))).symm]
   generalize kp (R.t[a-1]'(eN p2 ha))=b2 at k2 ⊢
   rcases hw with rfl | rfl <;> (refine ar (bE ..) ?_ ?_ <;> fail "go")
  ·rw [dn (show ¬ (0:Int)<a by omega)] at q2
   obtain rfl:a=0:=by omega
   rcases hw with rfl | rfl <;> (refine ar (bE ..) ?_ ?_ <;> fail "go")
 ·rw [dn (show ¬ (a:Int)<R.t.length by omega)] at q1
  rw [List.getElem?_eq_none (Nat.le_of_not_lt p1)]
  by_cases p2:0<a
  ·rw [di (show (0:Int)<a by omega)] at q2
   have i2:=dK (τ:=SM R st a pc pile groups regs) (a:=a-1) (Nat.le_trans (Nat.sub_le ..) (Nat.le_trans ha (Nat.le_trans ht (by decide)))) (List.getElem?_eq_getElem (eN p2 ha))
   rw [nX p2] at i2
   have k2:=xo (L:=L) (N:=N) (c:=R.t[a-1]'(eN p2 ha)) (σ:=SM R st a pc pile groups regs)
   rw [ow p2 ha,show jc [R.t[a-1]'(eN p2 ha)]=kp (R.t[a-1]'(eN p2 ha)) from (pf _ (hc _ (List.getElem_mem _))).symm]
   generalize kp (R.t[a-1]'(eN p2 ha))=b2 at k2 ⊢
   rcases hw with rfl | rfl <;> (refine ar (bE ..) ?_ ?_ <;> fail "go")
  ·rw [dn (show ¬ (0:Int)<a by omega)] at q2
   obtain rfl:a=0:=by omega
   rcases hw with rfl | rfl <;> (refine ar (bE ..) ?_ ?_ <;> fail "go")
theorem E8.to {w:List Nat} {S:ah} {b b':Bool} (h:E8 R L N w S b) (e:b=b'):E8 R L N w S b':=e ▸ h
theorem CT (x y z:Bool):((x != y) == z)=((y != x) == z):=by cases x <;> cases y <;> rfl
theorem Fq (hc:∀ c ∈ R.t,c ∈ kq) (ht:R.t.length≤1000) (ha:a≤R.t.length):∀ {i:Nat},i<7→E8 R L N (BN i fm) (SM R st a pc pile groups regs) (md (cQ i) fm R.t a)
 | 0,_=>by
  cases fm with
  | false=>exact Mb.to (by show _=(decide (a=0) || false); rw [Bool.or_false,Bool.eq_iff_iff,decide_eq_true_iff,decide_eq_true_iff]; omega)
  | true=>exact LM ht ha
 | 1,_=>by
  cases fm with
  | false=>exact (Lp ht ha).to (Bool.or_false _).symm
  | true=>exact LI ht ha
 | 2,_=>Mb.to (by show _=decide (a=0); rw [Bool.eq_iff_iff,decide_eq_true_iff,decide_eq_true_iff]; omega)
 | 3,_=>(MY ht).to (by show _=decide (R.t.drop a=[]); rw [Bool.eq_iff_iff,decide_eq_true_iff,decide_eq_true_iff,List.drop_eq_nil_iff]; omega)
 | 4,_=>Lp ht ha
 | 5,_=>(CN hc ht ha 98 (.inl rfl)).to (CT _ _ _)
 | 6,_=>(CN hc ht ha 66 (.inr rfl)).to (CT _ _ _)
 | i+7,h=>absurd h (Nat.not_lt.mpr (Nat.le_add_left 7 i))
end
end
section
noncomputable def eS:List (List Nat × PV):=[([115,105,103,110],eA),([97,110,121],eA),([115,101,116],eA),([114,117,110],lt),([97,116],mX),([98,97,99,107],pe),([111,112,101,110],pn),([99,108,111,115,101],m8),([106,117,109,112],j5),([115,112,108,105,116],iU),([122,101,114,111],jN),([108,111,111,112],jW),([97,103,97,105,110],iW),([109,97,114,107],oS),([99,117,116],q8),([114,101,102,117,115,101],lF),([112,108,97,99,101],nu),([114,101,116,117,114,110],lO),([98,101,104,105,110,100],ma)]
theorem dX.get {fi fm fs:Bool} {σ:ah} {vs:List PV} {rs:List lf} (h:dX fi fm fs σ vs rs):∀ {i:Nat} {r:lf},rs[i]?=some r→∃ v,vs[i]?=some v∧Al fi fm fs σ v r:=by
 induction h with
 | nil=>exact fun h=>bm h
 | cons h _ ih =>
  intro i r e
  cases i with
  | zero=>exact ⟨_,rfl,Option.some.inj e ▸ h⟩
  | succ i=>exact ih (i:=i) e
structure yX (C:Cs) (R:gZ) (prog:List lf) (cv:List PV) (rl reg wl mn:Nat) (nm:PV):Prop where
 ok:C.Ok
 alp:∀ c ∈ C.t,c ∈ kq
 t:R.t=C.t
 mn:R.mn=(mn:Int)
 pg:R.base[R.pl]?=some (Hk rl reg nm)
 rows:R.base[rl]?=some (.lst cv)
 code:dX C.fi C.fm C.fs R.base cv prog
 words:∀ st a pc pile groups regs,(SM R st a pc pile groups regs)[wl]?=some (.dct eS)
 len:prog.length≤100000
 good:∀ i,.test i ∈ prog→i<20
 good2:∀ i c,.run i c ∈ prog→i<20∧c<7
 good3:∀ i,.place i ∈ prog→i<7
section
variable {C:Cs} {R:gZ} {prog:List lf} {cv:List PV} {rl reg wl mn:Nat} {nm:PV} {L N:Nat} {groups:List PV}
@[reducible] noncomputable def gd (R:gZ) (L N wl:Nat) (start:PV) (L':Nat) (o1 o2:Option PV):ah→Option (PV × ah) :=
 bc (gX L N) (gJ L N) (h_ L N) L' [(da,some (.loc R.base.length)),(gc,some (.loc wl)),(b9,some start),(rP,o1),(fp,o2)]
noncomputable def Iy (R:gZ) (L N wl:Nat) (start:PV) (groups:List PV) (st:Int) (L':Nat):sM→Option (PV × ah)→Prop
 | .cont c,x=>∃ o1 o2,x=gd R L N wl start L' o1 o2 (SC R groups st c)
 | .acc e,x=>∃ a pc pile regs,x=some (.bool true,SM R st a pc pile [.tup [start,.int (e:Int)]] regs)
 | .fail,x=>∃ a pc pile regs,x=some (.bool false,SM R st a pc pile groups regs)
 | .stuck,_=>True
theorem EX (H:yX C R prog cv rl reg wl mn nm) {st a:Int} {pc:Nat} {pile groups regs:List PV} {r:lf} (hp:prog[pc]?=some r):∃ v,Al C.fi C.fm C.fs R.base v r∧ao (.loc rl) (.int (pc:Int)) (SM R st a pc pile groups regs)=some (v,SM R st a pc pile groups regs):=by
 obtain ⟨v,h1,h2⟩:=H.code.get hp
 have hlt:=(List.getElem?_eq_some_iff.mp hp).1
 have hl:=H.len
 exact ⟨v,h2,lN (AR H.rows) (by omega) h1⟩
theorem rt (H:yX C R prog cv rl reg wl mn nm) {st a pc:Int} {pile groups regs:List PV}:aq (af L) (.loc R.pl) cA (SM R st a pc pile groups regs)=some (.loc rl,SM R st a pc pile groups regs):=cz (AR H.pg) rfl
theorem Cz {τ:ah} {k:Nat} {es:List (List Nat × PV)} {s:List Nat} {v:PV} (h:τ[k]?=some (.dct es)) (e:es.lookup s=some v):ao (.loc k) (.str s) τ=some (v,τ):=by
 rw [IU]
 simp [h,e]
theorem Ep (H:yX C R prog cv rl reg wl mn nm) {start:PV} {st:Int} {c:DP} {L':Nat} {o1 o2:Option PV} (hst:st+1≤R.most) {v:PV} {tag:List Nat} {tl:List PV} {f:Str} {S':ah}
  (hv:v=.tup (.str tag::tl)) (htag:decide (tag=[101,110,100])=false) (hw:eS.lookup tag=some (.fn f))
  (hi:ao (.loc rl) (.int (c.pc:Int)) (SM R (st+1) c.a c.pc (aQ c.pile) groups (bu c.regs))=some (v,SM R (st+1) c.a c.pc (aQ c.pile) groups (bu c.regs)))
  (hcall:aa (af L) N (.fn f) [.loc R.base.length,v] (SM R (st+1) c.a c.pc (aQ c.pile) groups (bu c.regs))=some (.bool true,S')) :
  gd R L N wl start (L'+1) o1 o2 (SC R groups st c)=gd R L N wl start L' (some v) (some (.bool true)) S':=by
 have hwd:=Cz (H.words (st+1) c.a c.pc (aQ c.pile) groups (bu c.regs)) hw
 have hpr:=rt (L:=L) H (st:=st+1) (a:=c.a) (pc:=c.pc) (pile:=aQ c.pile) (groups:=groups) (regs:=bu c.regs)
 have hle:decide (R.most<st+1)=false:=dn (by omega)
 have ht:=eqs_ok (σ:=SM R (st+1) c.a c.pc (aQ c.pile) groups (bu c.regs)) (a:=tag) (b:=[101,110,100])
 rw [htag] at ht
 subst hv
 have hcall:uw (aa (af L) N) (.fn f) [.loc R.base.length,.tup (.str tag::tl)] (SM R (st+1) c.a c.pc (aQ c.pile) groups (bu c.regs))=some (.bool true,S'):=hcall
 show gd R L N wl start (L'+1) o1 o2 (SM R st c.a c.pc (aQ c.pile) groups (bu c.regs))=_
 refine ig (u:=.v) (bp (dc ..) (df ..) (de ..)) ?_ ?_ <;> fail "go"
end
end
section
theorem BI:∀ (p:List wo) (rs:List Int) (e:Nat),bk p rs≠.acc e
 | [],_,_,h=>nomatch h
 | .tr _ _::_,_,_,h=>nomatch h
 | .less _ _ _::_,_,_,h=>nomatch h
 | .reg k old::p,rs,e,h=>by
  rw [xT] at h
  split at h
  ·exact BI p _ e h
  ·cases h
section
variable {C:Cs} {R:gZ} {prog:List lf} {cv:List PV} {rl reg wl mn:Nat} {nm:PV} {L N:Nat} {groups:List PV}
theorem BV (H:yX C R prog cv rl reg wl mn nm) (hL:4200000≤L) {start:PV} {st:Int} {c:DP} {L':Nat} {o1 o2:Option PV} (hst:st+1≤R.most) {v:PV} {tag:List Nat} {tl:List PV} {f:Str}
  (hv:v=.tup (.str tag::tl)) (htag:decide (tag=[101,110,100])=false) (hw:eS.lookup tag=some (.fn f))
  (hi:ao (.loc rl) (.int (c.pc:Int)) (SM R (st+1) c.a c.pc (aQ c.pile) groups (bu c.regs))=some (v,SM R (st+1) c.a c.pc (aQ c.pile) groups (bu c.regs)))
  (hcall:aa (af L) (N+2) (.fn f) [.loc R.base.length,v] (SM R (st+1) c.a c.pc (aQ c.pile) groups (bu c.regs))=some (.bool false,SM R (st+1) c.a c.pc (aQ c.pile) groups (bu c.regs)))
  (hpl:c.pile.length≤4194304) (hrl:c.regs.length≤1000000) (hle':∀ pc low e,.less pc low e ∈ c.pile→1≤e) :
  Iy R L (N+2) wl start groups (st+1) L' (bk c.pile c.regs) (gd R L (N+2) wl start (L'+1) o1 o2 (SC R groups st c)):=by
 have hwd:=Cz (H.words (st+1) c.a c.pc (aQ c.pile) groups (bu c.regs)) hw
 have hpr:=rt (L:=L) H (st:=st+1) (a:=c.a) (pc:=c.pc) (pile:=aQ c.pile) (groups:=groups) (regs:=bu c.regs)
 have hle:decide (R.most<st+1)=false:=dn (by omega)
 have ht:=eqs_ok (σ:=SM R (st+1) c.a c.pc (aQ c.pile) groups (bu c.regs)) (a:=tag) (b:=[101,110,100])
 rw [htag] at ht
 have hb:=Co (R:=R) (groups:=groups) (N:=N) hL (st:=st+1) (a:=c.a) (pc:=c.pc) hpl hrl hle'
 subst hv
 have hcall:uw (aa (af L) (N+2)) (.fn f) [.loc R.base.length,.tup (.str tag::tl)] (SM R (st+1) c.a c.pc (aQ c.pile) groups (bu c.regs))=some (.bool false,SM R (st+1) c.a c.pc (aQ c.pile) groups (bu c.regs)):=hcall
 cases hres:bk c.pile c.regs with
 | cont c' =>
  rw [hres] at hb
  have hb':aa (af L) (N+2) ip [.loc R.base.length] (SM R (st+1) c.a c.pc (aQ c.pile) groups (bu c.regs))=some (.bool true,SC R groups (st+1) c'):=hb
  refine ⟨some (.tup (.str tag::tl)),some (.bool false),?_⟩
  clear hb hres H
  show gd R L (N+2) wl start (L'+1) o1 o2 (SM R st c.a c.pc (aQ c.pile) groups (bu c.regs))=_
  refine ig (u:=.v) (bp (dc ..) (df ..) (de ..)) ?_ ?_ <;> fail "go"
 | fail =>
  rw [hres] at hb
  obtain ⟨rs,hb'⟩:=hb
  refine ⟨c.a,c.pc,[],bu rs,?_⟩
  clear hres H
  show gd R L (N+2) wl start (L'+1) o1 o2 (SM R st c.a c.pc (aQ c.pile) groups (bu c.regs))=_
  refine ar (bp (dc ..) (df ..) (de ..)) ?_ ?_ <;> fail "go"
 | acc e=>exact absurd hres (BI _ _ _)
 | stuck=>trivial
end
end
section
section
variable {C:Cs} {R:gZ} {prog:List lf} {cv:List PV} {rl reg wl mn:Nat} {nm:PV} {L K:Nat} {groups:List PV}
theorem wm (H:yX C R prog cv rl reg wl mn nm) (hL:4200000≤L) {st a pc:Int} {pile regs:List PV} {i:Nat} (hi:i<20) {v:PV} (hv:lq C.fi C.fs R.base i v) {x:Nat} (hx:x<C.t.length) :
  aa (af L) (K+6) dt [v,.str [C.t[x]]] (SM R st a pc pile groups regs)=some (.bool (C.fit i x),SM R st a pc pile groups regs):=by
 have hv':lq C.fi C.fs (SM R st a pc pile groups regs) i v:=by
  obtain ⟨k,e,h⟩:=hv
  exact ⟨k,e,fun l hl=>AR (h l hl)⟩
 have e:C.fit i x=oR (gE i) C.fi C.fs C.t[x]:=by
  unfold Cs.fit zl; rw [List.getElem?_eq_getElem hx]
 rw [e]
 exact IS (by omega) hi hv' (H.alp _ (List.getElem_mem hx))
theorem Aj (H:yX C R prog cv rl reg wl mn nm) (hL:4200000≤L) {st:Int} {a pc:Nat} {pile regs:List PV} {i:Nat} (hi:i<20) {v:PV} (hv:lq C.fi C.fs R.base i v) :
  aa (af L) (K+7) eA [.loc R.base.length,v] (SM R st a pc pile groups regs)=if C.fit i a=true then some (.bool true,SM R st ((a:Int)+1) ((pc:Int)+1) pile groups regs) else some (.bool false,SM R st a pc pile groups regs):=by
 have ht:=H.t
 have hlen:=H.ok.len
 have h1:=dE (τ:=SM R st a pc pile groups regs) (w:=R.t) (aO (m:=4) (ht ▸ hlen) (by decide))
 by_cases hlt:a<C.t.length
 ·have q:decide ((R.t.length:Int)≤a)=false:=dn (by rw [ht]; omega)
  have hg:R.t[a]?=some C.t[a]:=by rw [ht]; exact List.getElem?_eq_getElem hlt
  have h2:=dK (τ:=SM R st a pc pile groups regs) (by omega) hg
  have hf:=wm (K:=K) (groups:=groups) (st:=st) (a:=a) (pc:=pc) (pile:=pile) (regs:=regs) H hL hi hv hlt
  have hgo:=go_on_ok (R:=R) (L:=L) (N:=K+5) (groups:=groups) (st:=st) (a:=(a:Int)+1) (pc:=pc) (pile:=pile) (regs:=regs)
  clear H
  cases hfit:C.fit i a with
  | true =>
   rw [hfit] at hf
   rw [if_pos rfl]
   refine ar (mU ..) ?_ ?_ <;> fail "go"
  | false =>
   rw [hfit] at hf
   rw [if_neg Bool.false_ne_true]
   refine ar (mU ..) ?_ ?_ <;> fail "go"
 ·have q:decide ((R.t.length:Int)≤a)=true:=di (by rw [ht]; omega)
  have hfit:C.fit i a=false:=by
   unfold Cs.fit zl; rw [List.getElem?_eq_none (Nat.le_of_not_lt hlt)]
  rw [hfit,if_neg Bool.false_ne_true]
  clear H
  refine ar (mU ..) ?_ ?_ <;> fail "go"
theorem ED (H:yX C R prog cv rl reg wl mn nm) {st:Int} {a pc:Nat} {pile regs:List PV} {i:Nat} (hi:i<7) (ha:a≤C.t.length) :
  aa (af L) (K+7) mX [.loc R.base.length,qP i C.fm] (SM R st a pc pile groups regs)=if C.std i a=true then some (.bool true,SM R st a ((pc:Int)+1) pile groups regs) else some (.bool false,SM R st a pc pile groups regs):=by
 have ht:=H.t
 have hlen:=H.ok.len
 have hp:aa (af L) (K+6) gi [.loc R.base.length,.str (BN i C.fm)] (SM R st a pc pile groups regs)=some (.bool (md (cQ i) C.fm R.t a),SM R st a pc pile groups regs):=Fq (L:=L) (N:=K+4) (st:=st) (pc:=pc) (pile:=pile) (groups:=groups) (regs:=regs) (fm:=C.fm) (ht ▸ H.alp) (ht ▸ (by omega)) (ht ▸ ha) hi
 rw [show md (cQ i) C.fm R.t a=C.std i a by rw [ht]; rfl] at hp
 have hgo:=go_on_ok (R:=R) (L:=L) (N:=K+5) (groups:=groups) (st:=st) (a:=a) (pc:=pc) (pile:=pile) (regs:=regs)
 clear H
 cases hfit:C.std i a with
 | true =>
  rw [hfit] at hp
  rw [if_pos rfl]
  refine ar (v6 ..) ?_ ?_ <;> fail "go"
 | false =>
  rw [hfit] at hp
  rw [if_neg Bool.false_ne_true]
  refine ar (v6 ..) ?_ ?_ <;> fail "go"
theorem wH {st:Int} {a pc x y:Nat} {pile:List wo} {regs:List PV} (hp:pile.length≤4194304) :
  aa (af L) (K+1) iU [.loc R.base.length,.tup [.str [115,112,108,105,116],.int x,.int y]] (SM R st a pc (aQ pile) groups regs)=some (.bool true,SM R st a x (aQ (.tr y a::pile)) groups regs):=by
 have h:aW (aa (af L) K) (.loc R.p) aY [.tup [.str [116,114,121],.int y,.int a]] .lst (SM R st a pc (aQ pile) groups regs)=some (.none,SM R st a pc (aQ pile++[lQ (.tr y a)]) groups regs):=ub (by rw [gF]; exact hp)
 rw [fq]
 refine ar (xN ..) ?_ ?_ <;> fail "go"
theorem zk {st a pc:Int} {t:Nat} {pile regs:List PV} :
  aa (af L) (K+1) j5 [.loc R.base.length,.tup [.str [106,117,109,112],.int t]] (SM R st a pc pile groups regs)=some (.bool true,SM R st a t pile groups regs):=by
 refine ar (zd ..) ?_ ?_ <;> fail "go"
theorem zM {st a pc:Int} {k p:Nat} {pile:List wo} {rs:List Int} {u v:Int} (hu:rs[k]?=some u) (hv:(rs.set k 0)[p]?=some v) (hl:rs.length≤1000000) (hp:pile.length≤4194303) :
  aa (af L) (K+2) jN [.loc R.base.length,.tup [.str [122,101,114,111],.int k,.int p]] (SM R st a pc (aQ pile) groups (bu rs))=some (.bool true,SM R st a (pc+1) (aQ (.reg p v::.reg k u::pile)) groups (bu ((rs.set k 0).set p (-1)))):=by
 have h1:=lJ (R:=R) (L:=L) (N:=K) (groups:=groups) (st:=st) (a:=a) (pc:=pc) (pile:=pile) (v:=0) hu hl (by omega)
 have h2:=lJ (R:=R) (L:=L) (N:=K) (groups:=groups) (st:=st) (a:=a) (pc:=pc) (pile:=.reg k u::pile) (v:=-1) hv (by rw [List.length_set]; exact hl) (by rw [List.length_cons]; omega)
 refine ar (zy ..) ?_ ?_ <;> fail "go"
theorem xX {st a pc:Int} {k p t:Nat} {pile:List wo} {rs:List Int} {u v:Int} (hu:rs[k]?=some u) (hv:(rs.set k (u+1))[p]?=some v) (hl:rs.length≤1000000) (hp:pile.length≤4194303) :
  aa (af L) (K+2) iW [.loc R.base.length,.tup [.str [97,103,97,105,110],.int k,.int p,.int t]] (SM R st a pc (aQ pile) groups (bu rs))=some (.bool true,SM R st a t (aQ (.reg p v::.reg k u::pile)) groups (bu ((rs.set k (u+1)).set p a))):=by
 have hk:=(List.getElem?_eq_some_iff.mp hu).1
 have hg:(bu rs)[k]?=some (.int u):=by rw [mF,hu]; rfl
 have h0:=lN (we (R:=R) (st:=st) (a:=a) (pc:=pc) (pile:=aQ pile) (groups:=groups) (regs:=bu rs)) (by omega) hg
 have h1:=lJ (R:=R) (L:=L) (N:=K) (groups:=groups) (st:=st) (a:=a) (pc:=pc) (pile:=pile) (v:=u+1) hu hl (by omega)
 have h2:=lJ (R:=R) (L:=L) (N:=K) (groups:=groups) (st:=st) (a:=a) (pc:=pc) (pile:=.reg k u::pile) (v:=a) hv (by rw [List.length_set]; exact hl) (by rw [List.length_cons]; omega)
 refine ar (xy ..) ?_ ?_ <;> fail "go"
end
end
section
section
variable {C:Cs} {R:gZ} {prog:List lf} {cv:List PV} {rl reg wl mn:Nat} {nm:PV} {L K:Nat} {groups:List PV}
theorem lB (H:yX C R prog cv rl reg wl mn nm) (hL:4200000≤L) {st a0 pc:Int} {pile regs:List PV} {i:Nat} (hi:i<20) {v:PV} (hv:lq C.fi C.fs R.base i v) {most stop:Int} {base:Nat}
  (hstop:∀ x:Nat,x<C.t.length→(((x:Int)<stop)↔(most<0∨((x:Int)<base+most)))) (hstop2:stop≤C.t.length) {xm:PV}:∀ (f d a L':Nat),C.t.length<f+a→C.t.length<L'+a→a=base+d→a≤C.t.length →
   bc (kD L (K+6)) (kR L (K+6)) (kE L (K+6)) L' [(da,some (.loc R.base.length)),(oW,some v),(bv,some (.int a)),(iB,some xm),(pk,some (.int stop))] (SM R st a0 pc pile groups regs)
   =some (.int (gY C.fit i most f d a),SM R st a0 pc pile groups regs)
 | 0,d,a,L',h,_,_,h'=>absurd (Nat.lt_of_lt_of_eq h (Nat.zero_add a)) (Nat.not_lt.mpr h')
 | f+1,d,a,0,_,h,_,h'=>absurd (Nat.lt_of_lt_of_eq h (Nat.zero_add a)) (Nat.not_lt.mpr h')
 | f+1,d,a,M+1,h1,h2,h3,h4=>by
  have ht:=H.t
  have hlen:=H.ok.len
  rw [show gY C.fit i most (f+1) d a=if (most<0∨(d:Int)<most)∧C.fit i a=true then gY C.fit i most f (d+1) (a+1) else a from rfl]
  by_cases hlt:a<C.t.length
  ·have hg:R.t[a]?=some C.t[a]:=by rw [ht]; exact List.getElem?_eq_getElem hlt
   have g2:=dK (τ:=SM R st a0 pc pile groups regs) (by omega) hg
   have hs:=hstop a hlt
   have hf:=wm (K:=K) (groups:=groups) (st:=st) (a:=a0) (pc:=pc) (pile:=pile) (regs:=regs) H hL hi hv hlt
   have hd:((a:Int)<base+most)↔(d:Int)<most:=by rw [h3,Int.natCast_add]; exact Int.add_lt_add_iff_left _
   rw [hd] at hs
   by_cases hc:most<0∨(d:Int)<most
   ·have q:decide ((a:Int)<stop)=true:=di (hs.mpr hc)
    by_cases hfit:C.fit i a=true
    ·rw [if_pos ⟨hc,hfit⟩]
     rw [hfit] at hf
     have ih:=lB (st:=st) (a0:=a0) (pc:=pc) (pile:=pile) (regs:=regs) H hL hi hv hstop hstop2 (xm:=xm) f (d+1) (a+1) M (Nat.lt_of_lt_of_eq h1 (Nat.succ_add_eq_add_succ f a)) (Nat.lt_of_lt_of_eq h2 (Nat.succ_add_eq_add_succ M a)) (congrArg (·+1) h3) hlt
     have ih:bc (kD L (K+6)) (kR L (K+6)) (kE L (K+6)) M [(da,some (.loc R.base.length)),(oW,some v),(bv,some (.int ((a:Int)+1))),(iB,some xm),(pk,some (.int stop))] (SM R st a0 pc pile groups regs)=some (.int (gY C.fit i most f (d+1) (a+1)),SM R st a0 pc pile groups regs):=ih
     clear H hs hstop
     refine ar (bp (hH ..) (gW ..) (g6 ..)) ?_ ?_ <;> fail "go"
    ·rw [if_neg (fun h=>hfit h.2)]
     rw [Bool.eq_false_iff.mpr hfit] at hf
     clear H hs hstop
     refine ar (bp (hH ..) (gW ..) (g6 ..)) ?_ ?_ <;> fail "go"
   ·have q:decide ((a:Int)<stop)=false:=dn fun h=>hc (hs.mp h)
    rw [if_neg (fun h=>hc h.1)]
    clear H hs hstop
    refine ar (bp (hH ..) (gW ..) (g6 ..)) ?_ ?_ <;> fail "go"
  ·have hfit:¬ C.fit i a=true:=by
    unfold Cs.fit zl; rw [List.getElem?_eq_none (Nat.le_of_not_lt hlt)]; exact Bool.false_ne_true
   rw [if_neg (fun h=>hfit h.2)]
   have q:decide ((a:Int)<stop)=false:=dn (by omega)
   clear H hstop
   refine ar (bp (hH ..) (gW ..) (g6 ..)) ?_ ?_ <;> fail "go"
theorem AQ (H:yX C R prog cv rl reg wl mn nm) (hL:4200000≤L) {st a0 pc:Int} {pile regs:List PV} {i:Nat} (hi:i<20) {v:PV} (hv:lq C.fi C.fs R.base i v) {most:Int} {a:Nat} (ha:a≤C.t.length) :
  aa (af L) (K+7) nJ [.loc R.base.length,v,.int a,.int most] (SM R st a0 pc pile groups regs)=some (.int (gY C.fit i most 12 0 a),SM R st a0 pc pile groups regs):=by
 have ht:=H.t
 have hlen:=H.ok.len
 have h1:=dE (τ:=SM R st a0 pc pile groups regs) (w:=R.t) (aO (m:=4) (ht ▸ hlen) (by decide))
 by_cases hm:most<0
 ·have q:decide (most<0)=true:=di hm
  have hl:=lB (K:=K) (groups:=groups) (st:=st) (a0:=a0) (pc:=pc) (pile:=pile) (regs:=regs) H hL hi hv (most:=most) (stop:=(R.t.length:Int)) (base:=a) (fun x hx=>iff_of_true (Int.ofNat_lt.mpr (ht ▸ hx)) (.inl hm)) (ht ▸ Int.le_refl _) (xm:=.int most) 12 0 a L (CX hlen (by decide)) (CX hlen (Nat.le_trans (by decide) hL)) rfl ha
  clear H
  refine ar (tY ..) ?_ ?_ <;> fail "go"
 ·have q:decide (most<0)=false:=dn hm
  have g:y_ [.int R.t.length,.int ((a:Int)+most)] (SM R st a0 pc pile groups regs)=some (.int (if (a:Int)+most<(R.t.length:Int) then (a:Int)+most else (R.t.length:Int)),SM R st a0 pc pile groups regs):=rfl
  have hl:=lB (K:=K) (groups:=groups) (st:=st) (a0:=a0) (pc:=pc) (pile:=pile) (regs:=regs) H hL hi hv (most:=most) (stop:=if (a:Int)+most<(R.t.length:Int) then (a:Int)+most else (R.t.length:Int)) (base:=a) (fun x hx=>cn (P:=fun s:Int=>(x:Int)<s↔_) (fun Z=>(or_iff_right hm).symm) fun h=>iff_of_true (Int.ofNat_lt.mpr (ht ▸ hx)) (.inr (Int.lt_of_lt_of_le (Int.ofNat_lt.mpr (ht ▸ hx)) (Int.not_lt.mp h)))) (ht ▸ cn (P:=fun s:Int=>s≤(R.t.length:Int)) (fun h=>Int.le_of_lt h) fun Z=>Int.le_refl _) (xm:=.int most) 12 0 a L (CX hlen (by decide)) (CX hlen (Nat.le_trans (by decide) hL)) rfl ha
  clear H
  refine ar (tY ..) ?_ ?_ <;> fail "go"
end
end
section
section
variable {C:Cs} {R:gZ} {prog:List lf} {cv:List PV} {rl reg wl mn:Nat} {nm:PV} {L K:Nat} {groups:List PV}
theorem Bp (H:yX C R prog cv rl reg wl mn nm) (hL:4200000≤L) {st:Int} {a pc:Nat} {pile:List wo} {regs:List PV} {i c:Nat} (hi:i<20) {w:PV} (hv:lq C.fi C.fs R.base i w) (ha:a≤C.t.length) (hp:pile.length≤4194304) :
  aa (af L) (K+8) lt [.loc R.base.length,.tup [.str [114,117,110],w,.int (au c).least,.int (au c).most,.bool false]] (SM R st a pc (aQ pile) groups regs)
  =if gY C.fit i (au c).most 12 0 a<a+(au c).least then some (.bool false,SM R st a pc (aQ pile) groups regs)
    else some (.bool true,SM R st (gY C.fit i (au c).most 12 0 a:Nat) ((pc:Int)+1) (aQ (if a+(au c).least<gY C.fit i (au c).most 12 0 a then .less (pc+1) (a+(au c).least) (gY C.fit i (au c).most 12 0 a)::pile else pile)) groups regs):=by
 have hr:=AQ (K:=K) (groups:=groups) (st:=st) (a0:=a) (pc:=pc) (pile:=aQ pile) (regs:=regs) H hL hi hv (most:=(au c).most) ha
 clear H hv
 generalize gY C.fit i (au c).most 12 0 a=e at hr ⊢
 generalize (au c).least=ls
 generalize (au c).most=ms at hr ⊢
 by_cases h1:e<a+ls
 ·have q:decide ((e:Int)<(a:Int)+(ls:Int))=true:=di (by omega)
  rw [if_pos h1]
  refine ar (ph ..) ?_ ?_ <;> fail "go"
 ·have q:decide ((e:Int)<(a:Int)+(ls:Int))=false:=dn (by omega)
  rw [if_neg h1]
  by_cases h2:a+ls<e
  ·have q2:decide ((a:Int)+(ls:Int)<(e:Int))=true:=di (by omega)
   have g:aW (aa (af L) (K+7)) (.loc R.p) aY [.tup [.str [108,101,115,115],.int ((pc:Int)+1),.int ((a:Int)+(ls:Int)),.int e]] .lst (SM R st a ((pc:Int)+1) (aQ pile) groups regs)=some (.none,SM R st a ((pc:Int)+1) (aQ pile++[lQ (.less (pc+1) (a+ls) e)]) groups regs):=ub (by rw [gF]; exact hp)
   rw [if_pos h2,fq]
   refine ar (ph ..) ?_ ?_ <;> fail "go"
  ·have q2:decide ((a:Int)+(ls:Int)<(e:Int))=false:=dn (by omega)
   rw [if_neg h2]
   refine ar (ph ..) ?_ ?_ <;> fail "go"
theorem yI {st:Int} {a pc k p c ag bh:Nat} {pile:List wo} {rs:List Int} {u v:Int} (hu:rs[k]?=some u) (hv:rs[p]?=some v) (hl:rs.length≤1000000) (hp:pile.length≤4194303) :
  aa (af L) (K+1) jW [.loc R.base.length,.tup [.str [108,111,111,112],.int k,.int p,.int (au c).least,.int (au c).most,.bool false,.int ag,.int bh]] (SM R st a pc (aQ pile) groups (bu rs))
  =if u<(au c).least then some (.bool true,SM R st a ag (aQ pile) groups (bu rs))
    else if v=(a:Int)∨(0≤(au c).most∧(au c).most≤u) then some (.bool true,SM R st a bh (aQ pile) groups (bu rs))
    else some (.bool true,SM R st a ag (aQ (.tr bh a::pile)) groups (bu rs)):=by
 have hk:=(List.getElem?_eq_some_iff.mp hu).1
 have hk2:=(List.getElem?_eq_some_iff.mp hv).1
 have i1:=lN (we (R:=R) (st:=st) (a:=a) (pc:=pc) (pile:=aQ pile) (groups:=groups) (regs:=bu rs)) (i:=k) (v:=.int u) (by omega) (by rw [mF,hu]; rfl)
 have i2:=lN (we (R:=R) (st:=st) (a:=a) (pc:=ag) (pile:=aQ pile) (groups:=groups) (regs:=bu rs)) (i:=p) (v:=.int v) (by omega) (by rw [mF,hv]; rfl)
 have g:aW (aa (af L) K) (.loc R.p) aY [.tup [.str [116,114,121],.int bh,.int a]] .lst (SM R st a ag (aQ pile) groups (bu rs))=some (.none,SM R st a ag (aQ pile++[lQ (.tr bh a)]) groups (bu rs)):=ub (by rw [gF]; omega)
 rw [fq]
 generalize (au c).most=ms
 generalize (au c).least=ls
 clear hu hv hk hk2
 by_cases c1:u<(ls:Int)
 ·rw [if_pos c1]
  have q1:decide (u<(ls:Int))=true:=di c1
  refine ar (iS ..) ?_ ?_ <;> fail "go"
 ·rw [if_neg c1]
  have q1:decide (u<(ls:Int))=false:=dn c1
  by_cases c2:v=(a:Int)
  ·rw [if_pos (.inl c2)]
   have q2:decide (v=(a:Int))=true:=di c2
   refine ar (iS ..) ?_ ?_ <;> fail "go"
  ·have q2:decide (v=(a:Int))=false:=dn c2
   by_cases c3:0≤ms
   ·have q3:decide ((0:Int)≤ms)=true:=di c3
    by_cases c4:ms≤u
    ·rw [if_pos (.inr ⟨c3,c4⟩)]
     have q4:decide (ms≤u)=true:=di c4
     refine ar (iS ..) ?_ ?_ <;> fail "go"
    ·rw [if_neg (by rintro (h | h); exact c2 h; exact c4 h.2)]
     have q4:decide (ms≤u)=false:=dn c4
     refine ar (iS ..) ?_ ?_ <;> fail "go"
   ·rw [if_neg (by rintro (h | h); exact c2 h; exact c3 h.1)]
    have q3:decide ((0:Int)≤ms)=false:=dn c3
    refine ar (iS ..) ?_ ?_ <;> fail "go"
end
end
section
noncomputable def xg (P:DP→Prop) (r:sM):Prop:=r.rec P (fun Z=>True) True True
noncomputable def mA (p:List wo):Prop:=∀ pc low e,.less pc low e ∈ p→1≤e
theorem mA.tail {x p} (h:mA (x::p)):mA p:=fun pc low e hm=>h pc low e (.tail _ hm)
theorem mA.cons {x p} (hx:∀ pc low e,x=.less pc low e→1≤e) (h:mA p):mA (x::p):=fun pc low e hm=>(List.mem_cons.mp hm).elim (fun q=>hx pc low e q.symm) (h pc low e)
theorem mA.tr {pc a p} (h:mA p):mA (.tr pc a::p):=h.cons fun _ _ _ q=>nomatch q
theorem mA.reg {k v p} (h:mA p):mA (.reg k v::p):=h.cons fun _ _ _ q=>nomatch q
theorem mA.less {pc low e p} (h:mA p) (he:1≤e):mA (.less pc low e::p):=h.cons fun _ _ _ q=>by injection q with _ _ q; exact q ▸ he
noncomputable def Wf (m:Nat) (c:DP):Prop:=c.pile.length≤m∧c.regs.length≤1000000∧mA c.pile
theorem Jc {m:Nat}:∀ (p:List wo) (rs:List Int),p.length≤m→rs.length≤1000000→mA p→xg (Wf m) (bk p rs)
 | [],_,_,_,_=>trivial
 | .tr pc a::p,rs,h1,h2,h3=>⟨Nat.le_of_succ_le h1,h2,h3.tail⟩
 | .less pc low e::p,rs,h1,h2,h3=>⟨cn (P:=(List.length ·≤m)) (fun Z=>h1) fun Z=>Nat.le_of_succ_le h1,h2,cn (P:=mA) (fun h=>h3.tail.less (Nat.le_trans (Nat.succ_le_succ (Nat.zero_le low)) h)) fun Z=>h3.tail⟩
 | .reg k old::p,rs,h1,h2,h3=>cn (P:=xg (Wf m)) (fun Z=>Jc p _ (Nat.le_of_succ_le h1) (by rw [List.length_set]; exact h2) h3.tail) fun Z=>trivial
theorem nw {P:sM→Prop} {x:Option Int} {y:Int→Option Int} {f:Int→Int→sM} (h:P .stuck) (h':∀ u v,x=some u→y u=some v→P (f u v)):P (E3 x y f):=by
 cases x with
 | none=>exact h
 | some u =>
  have g:=h' u
  show P (Option.rec (motive:=fun Z=>sM) .stuck (f u) (y u))
  cases e:y u with
  | none=>exact h
  | some v=>exact g v rfl e
theorem Id {prog:List lf} {fit std:Nat→Nat→Bool} {len mn m:Nat} {c:DP} (hw:Wf m c):xg (Wf (m+2)) (step prog fit std len mn c):=by
 obtain ⟨w1,w2,w3⟩:=hw
 have w1:=Nat.succ_le_succ w1
 have w0:=Nat.le_succ_of_le w1
 have hb:xg (Wf (m+2)) (bk c.pile c.regs):=Jc _ _ (Nat.le_of_succ_le w0) w2 w3
 have h0:∀ {pc a},xg (Wf (m+2)) (.cont ⟨pc,a,c.regs,c.pile⟩):=⟨Nat.le_of_succ_le w0,w2,w3⟩
 have ht:∀ {pc x y},xg (Wf (m+2)) (.cont ⟨pc,c.a,c.regs,.tr x y::c.pile⟩):=⟨w0,w2,w3.tr⟩
 have hs:∀ {pc k p x y u v},xg (Wf (m+2)) (.cont ⟨pc,c.a,(c.regs.set k x).set p y,.reg p v::.reg k u::c.pile⟩):=⟨Nat.succ_le_succ w1,by rw [List.length_set,List.length_set]; exact w2,w3.reg.reg⟩
 refine cn (P:=xg (Wf (m+2))) (fun Z=>trivial) fun Z=>?_
 cases prog[c.pc]? with
 | none=>trivial
 | some r=>cases r with
  | fin=>exact cn (P:=xg (Wf (m+2))) (fun Z=>trivial) fun Z=>hb
  | test i=>exact cn (P:=xg (Wf (m+2))) (fun Z=>h0) fun Z=>hb
  | place i=>exact cn (P:=xg (Wf (m+2))) (fun Z=>h0) fun Z=>hb
  | run i n=>exact cn (P:=xg (Wf (m+2))) (fun Z=>hb) fun Z=>cn (P:=fun p=>xg (Wf (m+2)) (.cont ⟨_,_,_,p⟩)) (fun h=>⟨w0,w2,w3.less (Nat.le_trans (Nat.succ_le_succ (Nat.zero_le _)) h)⟩) fun Z=>h0
  | split x y=>exact ht
  | jump t=>exact h0
  | zero k p=>exact nw (P:=xg (Wf (m+2))) trivial fun Z Z Z Z=>hs
  | again k p t=>exact nw (P:=xg (Wf (m+2))) trivial fun Z Z Z Z=>hs
  | loop k p n ag bh=>exact nw (P:=xg (Wf (m+2))) trivial fun Z Z Z Z=>cn (P:=xg (Wf (m+2))) (fun Z=>h0) fun Z=>cn (P:=xg (Wf (m+2))) (fun Z=>h0) fun Z=>ht
end
section
section
variable {C:Cs} {R:gZ} {prog:List lf} {cv:List PV} {rl reg wl mn:Nat} {nm:PV} {L K:Nat}
theorem Fp (H:yX C R prog cv rl reg wl mn nm) (hL:4200000≤L) {start:PV} {st:Int} {c:DP} {L':Nat} {o1 o2:Option PV} (hst:st+1≤R.most)
  (hi:ao (.loc rl) (.int (c.pc:Int)) (SM R (st+1) c.a c.pc (aQ c.pile) [.none] (bu c.regs))=some (.tup [.str [101,110,100]],SM R (st+1) c.a c.pc (aQ c.pile) [.none] (bu c.regs)))
  (hpl:c.pile.length≤4194304) (hrl:c.regs.length≤1000000) (hle':∀ pc low e,.less pc low e ∈ c.pile→1≤e) :
  Iy R L (K+2) wl start [.none] (st+1) L' (if mn≤c.a then .acc c.a else bk c.pile c.regs) (gd R L (K+2) wl start (L'+1) o1 o2 (SC R [.none] st c)):=by
 have hpr:=rt (L:=L) H (st:=st+1) (a:=c.a) (pc:=c.pc) (pile:=aQ c.pile) (groups:=[.none]) (regs:=bu c.regs)
 have hle:decide (R.most<st+1)=false:=dn (by omega)
 have hmn:=H.mn
 have hge:aj .GtE (.int c.a) (.int R.mn) (SM R (st+1) c.a c.pc (aQ c.pile) [.none] (bu c.regs))=some (decide (R.mn≤(c.a:Int)),SM R (st+1) c.a c.pc (aQ c.pile) [.none] (bu c.regs)):=rfl
 clear H
 by_cases hm:mn≤c.a
 ·rw [if_pos hm]
  rw [di (show R.mn≤(c.a:Int) by omega)] at hge
  refine ⟨c.a,c.pc,aQ c.pile,bu c.regs,?_⟩
  have g:cb (.loc (R.p+1)) (.int 0) (.tup [start,.int c.a]) (SM R (st+1) c.a c.pc (aQ c.pile) [.none] (bu c.regs))=some ((),SM R (st+1) c.a c.pc (aQ c.pile) [.tup [start,.int c.a]] (bu c.regs)):=(EM (a:=[]) (b:=[]) F2 (show 1≤100000 by decide)).trans (congrArg (fun x=>some ((),x)) K9)
  show gd R L (K+2) wl start (L'+1) o1 o2 (SM R st c.a c.pc (aQ c.pile) [.none] (bu c.regs))=_
  refine ar (bp (dc ..) (df ..) (de ..)) ?_ ?_ <;> fail "go"
 ·rw [if_neg hm]
  rw [dn (show ¬ R.mn≤(c.a:Int) by omega)] at hge
  have hb:=Co (R:=R) (groups:=[.none]) (N:=K) hL (st:=st+1) (a:=c.a) (pc:=c.pc) hpl hrl hle'
  cases hres:bk c.pile c.regs with
  | cont c' =>
   rw [hres] at hb
   have hb':aa (af L) (K+2) ip [.loc R.base.length] (SM R (st+1) c.a c.pc (aQ c.pile) [.none] (bu c.regs))=some (.bool true,SC R [.none] (st+1) c'):=hb
   refine ⟨some (.tup [.str [101,110,100]]),some (.bool false),?_⟩
   clear hb hres
   show gd R L (K+2) wl start (L'+1) o1 o2 (SM R st c.a c.pc (aQ c.pile) [.none] (bu c.regs))=_
   refine ig (u:=.v) (bp (dc ..) (df ..) (de ..)) ?_ ?_ <;> fail "go"
  | fail =>
   rw [hres] at hb
   obtain ⟨rs,hb'⟩:=hb
   refine ⟨c.a,c.pc,[],bu rs,?_⟩
   clear hres
   show gd R L (K+2) wl start (L'+1) o1 o2 (SM R st c.a c.pc (aQ c.pile) [.none] (bu c.regs))=_
   refine ar (bp (dc ..) (df ..) (de ..)) ?_ ?_ <;> fail "go"
  | acc e=>exact absurd hres (BI _ _ _)
  | stuck=>trivial
end
end
section
theorem nt {α:Type} {P:sM→Prop} {c:Prop} [Decidable c] {x y:sM} {u r1 r2:α} (hc:u=if c then r1 else r2) (h1:u=r1→P x) (h2:u=r2→P y):P (if c then x else y):=by
 by_cases h:c
 ·exact if_pos h ▸ h1 (hc.trans (if_pos h))
 ·exact if_neg h ▸ h2 (hc.trans (if_neg h))
section
variable {C:Cs} {R:gZ} {prog:List lf} {cv:List PV} {rl reg wl mn:Nat} {nm:PV} {L K:Nat}
theorem Gr (H:yX C R prog cv rl reg wl mn nm) (hL:4200000≤L) {st:Int} {c:DP} {P:sM→Prop} (hw:Wf 4194300 c) (ha:c.a≤C.t.length) {r:lf} {v:PV} (hr:Al C.fi C.fm C.fs R.base v r) (hmem:r ∈ prog) (hS:P .stuck)
  (hF:r=.fin→P (if mn≤c.a then .acc c.a else bk c.pile c.regs))
  (ok:∀ {tag tl f c'},v=.tup (.str tag::tl)→decide (tag=[101,110,100])=false→eS.lookup tag=some (.fn f) →
   aa (af L) (K+10) (.fn f) [.loc R.base.length,v] (SM R (st+1) c.a c.pc (aQ c.pile) [.none] (bu c.regs))=some (.bool true,SC R [.none] (st+1) c')→P (.cont c'))
  (no:∀ {tag tl f},v=.tup (.str tag::tl)→decide (tag=[101,110,100])=false→eS.lookup tag=some (.fn f) →
   aa (af L) (K+10) (.fn f) [.loc R.base.length,v] (SM R (st+1) c.a c.pc (aQ c.pile) [.none] (bu c.regs))=some (.bool false,SM R (st+1) c.a c.pc (aQ c.pile) [.none] (bu c.regs))→P (bk c.pile c.regs)) :
  P (Ab C.fit C.std mn c r):=by
 have w1':c.pile.length≤4194304:=Nat.le_trans hw.1 (by decide)
 have w1'':c.pile.length≤4194303:=Nat.le_trans hw.1 (by decide)
 have w2:=hw.2.1
 clear hw
 cases r with
 | fin=>exact hF rfl
 | test i =>
  obtain ⟨k,e,hk⟩:=id hr
  obtain ⟨tag,tl,e2,ht⟩:=xv i C.fi C.fs k
  have hne:decide (tag=[101,110,100])=false:=by rcases ht with rfl | rfl | rfl <;> rfl
  have hwd:eS.lookup tag=some (.fn (fk 15)):=by rcases ht with rfl | rfl | rfl <;> rfl
  exact nt (P:=P) (Aj (K:=K+3) H hL (H.good i hmem) hr) (fun q=>ok (e.trans e2) hne hwd q) (fun q=>no (e.trans e2) hne hwd q)
 | place i =>
  cases (show v=_ from hr)
  exact nt (P:=P) (ED (K:=K+3) H (H.good3 i hmem) ha) (fun e=>ok (f:=fk 19) rfl rfl rfl e) (fun e=>no (f:=fk 19) rfl rfl rfl e)
 | run i n =>
  obtain ⟨w,hw1,rfl⟩:=hr
  have hg:=H.good2 i n hmem
  exact nt (P:=P) (Bp (K:=K+2) (c:=n) H hL hg.1 hw1 ha w1') (fun e=>no (f:=fk 17) rfl rfl rfl e) (fun e=>ok (f:=fk 17) rfl rfl rfl e)
 | split x y =>
  cases (show v=_ from hr)
  exact ok (f:=fk 24) rfl rfl rfl (wH (K:=K+9) w1')
 | jump t =>
  cases (show v=_ from hr)
  exact ok (f:=fk 23) rfl rfl rfl (zk (K:=K+9))
 | zero k p =>
  cases (show v=_ from hr)
  exact nw (P:=P) hS fun u v2 hu hv2=>ok (f:=fk 25) rfl rfl rfl (zM (K:=K+8) hu hv2 w2 w1'')
 | again k p t =>
  cases (show v=_ from hr)
  exact nw (P:=P) hS fun u v2 hu hv2=>ok (f:=fk 27) rfl rfl rfl (xX (K:=K+8) hu hv2 w2 w1'')
 | loop k p n ag bh =>
  cases (show v=_ from hr)
  exact nw (P:=P) hS fun u v2 hu hv2=>nt (P:=P) (yI (L:=L) (K:=K+9) (c:=n) hu hv2 w2 w1'') (fun e=>ok (f:=fk 26) rfl rfl rfl e)
   fun e=>nt (P:=P) e (fun e=>ok (f:=fk 26) rfl rfl rfl e) (fun e=>ok (f:=fk 26) rfl rfl rfl e)
theorem H4 (H:yX C R prog cv rl reg wl mn nm) (hL:4200000≤L) {start:PV} {st:Int} {c:DP} {L':Nat} {o1 o2:Option PV} (hst:st+1≤R.most) (hw:Wf 4194300 c) :
  Iy R L (K+10) wl start [.none] (st+1) L' (step prog C.fit C.std C.t.length mn c) (gd R L (K+10) wl start (L'+1) o1 o2 (SC R [.none] st c)):=by
 have w1':c.pile.length≤4194304:=Nat.le_trans hw.1 (by decide)
 by_cases ha:C.t.length<c.a
 ·rw [show step prog C.fit C.std C.t.length mn c=.stuck from if_pos ha]; trivial
 rw [show step prog C.fit C.std C.t.length mn c=prog[c.pc]?.rec .stuck (Ab C.fit C.std mn c) from if_neg ha]
 cases hp:prog[c.pc]? with
 | none=>trivial
 | some r =>
  obtain ⟨v,hv,hi⟩:=EX (st:=st+1) (a:=(c.a:Int)) (pile:=aQ c.pile) (groups:=[.none]) (regs:=bu c.regs) H hp
  exact Gr (P:=fun r=>Iy R L (K+10) wl start [.none] (st+1) L' r (gd R L (K+10) wl start (L'+1) o1 o2 (SC R [.none] st c))) H hL hw (Nat.le_of_not_lt ha) hv (List.mem_of_getElem? hp) trivial
   (fun e=>by
    cases e
    cases (show v=_ from hv)
    exact Fp (K:=K+8) H hL hst hi w1' hw.2.1 hw.2.2)
   (fun h1 h2 h3 hc=>⟨_,_,Ep H hst h1 h2 h3 hi hc⟩) fun h1 h2 h3 hc=>BV (N:=K+8) H hL hst h1 h2 h3 hi hc w1' hw.2.1 hw.2.2
end
end
section
section
variable {C:Cs} {R:gZ} {prog:List lf} {cv:List PV} {rl reg wl mn:Nat} {nm:PV} {L K:Nat}
noncomputable def tw (R:gZ) (start:PV) (top:Int):sM→Option (PV × ah)→Prop
 | .acc e,x=>∃ st' a pc pile regs,st'≤top∧x=some (.bool true,SM R st' a pc pile [.tup [start,.int (e:Int)]] regs)
 | .fail,x=>∃ st' a pc pile regs,st'≤top∧x=some (.bool false,SM R st' a pc pile [.none] regs)
 | _,_=>True
theorem FW (H:yX C R prog cv rl reg wl mn nm) (hL:4200000≤L) {start:PV}:∀ (j m:Nat) (st:Int) (c:DP) (L':Nat) (o1 o2:Option PV),Wf m c→m+2*j≤4194300→st+j≤R.most→j≤L' →
  tw R start (st+j) (go prog C.fit C.std C.t.length mn j (.cont c)) (gd R L (K+10) wl start L' o1 o2 (SC R [.none] st c))
 | 0,m,st,c,L',o1,o2,_,_,_,_=>trivial
 | j+1,m,st,c,0,o1,o2,_,_,_,h=>absurd h (Nat.not_succ_le_zero _)
 | j+1,m,st,c,M+1,o1,o2,hw,hm,hst,hL'=>by
  have hit:=H4 (K:=K) (start:=start) (st:=st) (L':=M) (o1:=o1) (o2:=o2) H hL (by omega) ⟨by have:=hw.1; omega,hw.2⟩
  have hwf:xg (Wf (m+2)) (step prog C.fit C.std C.t.length mn c):=Id hw
  show tw R start _ (go prog C.fit C.std C.t.length mn (j+1) (.cont c)) _
  have e1:st+((j+1:Nat):Int)=st+1+j:=by omega
  rw [e1]
  have hle:st+1≤st+1+(j:Int):=by omega
  show tw R start _ (go prog C.fit C.std C.t.length mn j (step prog C.fit C.std C.t.length mn c)) _
  generalize step prog C.fit C.std C.t.length mn c=x at hit hwf ⊢
  cases x with
  | cont c' =>
   obtain ⟨p1,p2,e⟩:=hit
   exact e ▸ FW H hL j (m+2) (st+1) c' M p1 p2 hwf (by omega) (by omega) (Nat.le_of_succ_le_succ hL')
  | acc e' =>
   obtain ⟨a,pc,pile,regs,h2⟩:=hit
   exact (Ge ..).symm ▸ ⟨st+1,a,pc,pile,regs,hle,h2⟩
  | fail =>
   obtain ⟨a,pc,pile,regs,h2⟩:=hit
   exact (B9 ..).symm ▸ ⟨st+1,a,pc,pile,regs,hle,h2⟩
  | stuck=>exact (yV ..).symm ▸ trivial
end
end
section
noncomputable def mC (R:gZ) (st a pc:Int) (g r p:Nat):dl:=.inst iw [(ga,.loc R.pl),(cj,.str R.t),(qt,.int R.bg),(gG,.int R.mn),(re,.int R.most),(dZ,.int st),(ba,.int a),(fw,.int pc),(bx,.loc g),(aI,.loc r),(gg,.loc p)]
section
variable {σ m l:ah} {L N:Nat} {c d:dl}
theorem Gq {a:Str} {v:PV} (e:Ff (af L) a c=some v):aq (af L) (.loc σ.length) a (σ++c::m)=some (v,σ++c::m):=cz (bt _ _ _) e
theorem BW:bT d (σ++c::(m++l))=some (.loc (σ.length+1+m.length+l.length),σ++c::(m++(l++[d]))):=by
 rw [pO,List.length_append,List.append_assoc,Nat.add_assoc (_+1)]
theorem CG {v:PV} {k:Nat} (hk:Nat.ble k lim=true):aZ .Mult (.frz [v]) (.int k) σ=bT (.lst (List.replicate k v)) σ:=by
 show guard (decide (0≤(k:Int)) && Nat.ble k lim) _ σ=_
 rw [hk,decide_eq_true (Int.natCast_nonneg k)]; rfl
theorem CL {most:Int} {pl:Nat} {t:List Nat} {bg mn:Int}:aa (af L) (N+2) (.cls iw) [.loc pl,.str t,.int bg,.int mn,.int most] σ
 =some (.loc σ.length,σ++mC ⟨σ,[],pl,t,bg,mn,most⟩ 0 bg 0 (σ.length+1) (σ.length+2) (σ.length+3)::[.lst [],.lst [],.lst []]):=by
 refine uC (ci:=rL) rfl ?_
 refine ar (qW ..) ?_ ?_ <;> fail "go"
end
noncomputable def Jq:Option Nat→sM
 | some e=>.acc e
 | none=>.fail
theorem tw.le {R:gZ} {s:PV} {t t':Int} (h:t≤t') {r:sM} {x} (q:tw R s t r x):tw R s t' r x:=by
 cases r with
 | acc _=>obtain ⟨st,a,pc,pl,rg,q⟩:=q; exact ⟨st,a,pc,pl,rg,Int.le_trans q.1 h,q.2⟩
 | fail=>obtain ⟨st,a,pc,pl,rg,q⟩:=q; exact ⟨st,a,pc,pl,rg,Int.le_trans q.1 h,q.2⟩
 | _=>trivial
section
variable {R:gZ} {L:Nat} {st a pc:Int} {g r p:Nat} {m:ah}
theorem MG_at {i:Int}:am (af L) (.loc R.base.length) ba (.int i) (R.base++mC R st a pc g r p::m)=some ((),R.base++mC R st i pc g r p::m):=d6 rfl
theorem MG_row {i:Int}:am (af L) (.loc R.base.length) fw (.int i) (R.base++mC R st a pc g r p::m)=some ((),R.base++mC R st a i g r p::m):=d6 rfl
theorem MG_pile {i:Nat}:am (af L) (.loc R.base.length) gg (.loc i) (R.base++mC R st a pc g r p::m)=some ((),R.base++mC R st a pc g r i::m):=d6 rfl
theorem MG_groups {i:Nat}:am (af L) (.loc R.base.length) bx (.loc i) (R.base++mC R st a pc g r p::m)=some ((),R.base++mC R st a pc i r p::m):=d6 rfl
theorem MG_regs {i:Nat}:am (af L) (.loc R.base.length) aI (.loc i) (R.base++mC R st a pc g r p::m)=some ((),R.base++mC R st a pc g i p::m):=d6 rfl
theorem MG_program:aq (af L) (.loc R.base.length) ga (R.base++mC R st a pc g r p::m)=some (.loc R.pl,R.base++mC R st a pc g r p::m):=Gq rfl
end
section
variable {C:Cs} {R:gZ} {prog:List lf} {cv:List PV} {rl reg wl mn:Nat} {nm:PV} {L K:Nat}
theorem Bt (H:yX C R prog cv rl reg wl mn nm) {st a0 pc0:Int} {g r p:Nat} {a:Nat} (hreg:reg≤1000) :
  aa (af L) (K+11) dM [.loc R.base.length,.loc wl,.int a] (R.base++mC R st a0 pc0 g r p::R.mid)=gd R L (K+10) wl (.int a) L none none (SC R [.none] st ⟨0,a,List.replicate reg (-1),[]⟩):=by
 have hp:∀ {x m},(R.base++x::m)[R.pl]?=some (Hk rl reg nm):=by
  intro x m; rw [List.getElem?_append_left (List.getElem?_eq_some_iff.mp H.pg).1]; exact H.pg
 have n1:bT (.lst []) (R.base++mC R st a 0 g r p::(R.mid++[]))=some (.loc R.p,R.base++mC R st a 0 g r p::(R.mid++[.lst []])):=BW
 have q1:aq (af L) (.loc R.pl) bx (R.base++mC R st a 0 g r R.p::(R.mid++[.lst []]))=some (.int 0,R.base++mC R st a 0 g r R.p::(R.mid++[.lst []])):=cz hp rfl
 have q3:aZ .Add (.int 0) (.int 1) (R.base++mC R st a 0 g r R.p::(R.mid++[.lst []]))=some (.int (1:Nat),R.base++mC R st a 0 g r R.p::(R.mid++[.lst []])):=rfl
 have n2:aZ .Mult (.frz [.none]) (.int (1:Nat)) (R.base++mC R st a 0 g r R.p::(R.mid++[.lst []]))=some (.loc (R.p+1),R.base++mC R st a 0 g r R.p::(R.mid++[.lst [],.lst [.none]])):=(CG (by decide)).trans BW
 have q2:aq (af L) (.loc R.pl) aI (R.base++mC R st a 0 (R.p+1) r R.p::(R.mid++[.lst [],.lst [.none]]))=some (.int reg,R.base++mC R st a 0 (R.p+1) r R.p::(R.mid++[.lst [],.lst [.none]])):=cz hp rfl
 have n3:aZ .Mult (.frz [.int (-1)]) (.int reg) (R.base++mC R st a 0 (R.p+1) r R.p::(R.mid++[.lst [],.lst [.none]]))=some (.loc (R.p+2),R.base++mC R st a 0 (R.p+1) r R.p::(R.mid++[.lst [],.lst [.none],.lst (List.replicate reg (.int (-1)))])):=(CG (aO hreg (by decide))).trans BW
 have hl:bc (gX L (K+10)) (gJ L (K+10)) (h_ L (K+10)) L [(da,some (.loc R.base.length)),(gc,some (.loc wl)),(b9,some (.int a)),(rP,none),(fp,none)] (R.base++mC R st a 0 (R.p+1) (R.p+2) R.p::(R.mid++[.lst [],.lst [.none],.lst (List.replicate reg (.int (-1)))]))
  =gd R L (K+10) wl (.int a) L none none (SC R [.none] st ⟨0,a,List.replicate reg (-1),[]⟩):=by
  rw [show List.replicate reg (PV.int (-1))=bu (List.replicate reg (-1)) from (List.map_replicate ..).symm]; rfl
 rw [← List.append_nil R.mid]
 clear hp H
 refine ig (u:=.v) (vd ..) ?_ ?_ <;> fail "go"
theorem Cl (H:yX C R prog cv rl reg wl mn nm) (hL:4200000≤L) {st a0 pc0:Int} {g r p:Nat} {a k:Nat} {res:Option Nat} (hreg:reg≤1000) (hO:jj prog C.fit C.std C.t.length mn 0 a (List.replicate reg (-1)) k res) (hst:st+k≤R.most) (hk:k≤1000000) :
  tw R (.int a) (st+k) (Jq res) (aa (af L) (K+11) dM [.loc R.base.length,.loc wl,.int a] (R.base++mC R st a0 pc0 g r p::R.mid)):=by
 obtain ⟨j,hj,hgo⟩:=hO []
 have hrun:=FW (K:=K) (start:=.int a) H hL j 0 st ⟨0,a,List.replicate reg (-1),[]⟩ L none none ⟨Nat.le_refl _,by rw [List.length_replicate]; omega,fun _ _ _ h=>nomatch h⟩ (by omega) (by omega) (by omega)
 rw [hgo,← Bt H hreg (a0:=a0) (pc0:=pc0) (g:=g) (r:=r) (p:=p)] at hrun
 cases res with
 | some e=>exact tw.le (by omega) hrun
 | none=>exact tw.le (by omega) hrun
end
end
section
structure si (C:Cs) (σ:ah) (prog:List lf) (cv:List PV) (pl rl reg lm:Nat) (nm:PV):Prop where
 ok:C.Ok
 alp:∀ c ∈ C.t,c ∈ kq
 pg:σ[pl]?=some (Hk rl reg nm)
 rows:σ[rl]?=some (.lst cv)
 code:dX C.fi C.fm C.fs σ cv prog
 len:prog.length≤100000
 good:∀ i,.test i ∈ prog→i<20
 good2:∀ i c,.run i c ∈ prog→i<20∧c<7
 good3:∀ i,.place i ∈ prog→i<7
 reg:reg≤1000
 lim:∃ c,σ[lm]?=some c∧∀ L,Ff (af L) dZ c=some (.int 1000000)
theorem kT {σ τ:ah} {k:Nat} {c:dl} (h:σ[k]?=some c):(σ++τ)[k]?=some c:=by
 rw [List.getElem?_append_left (List.getElem?_eq_some_iff.mp h).1]; exact h
section
variable {C:Cs} {σ:ah} {prog:List lf} {cv:List PV} {pl rl reg lm:Nat} {nm:PV} {L K:Nat}
theorem si.more (h:si C σ prog cv pl rl reg lm nm) {τ:ah}:si C (σ++τ) prog cv pl rl reg lm nm :=
 let ⟨c,h1,h2⟩:=h.lim
 ⟨h.ok,h.alp,kT h.pg,kT h.rows,h.code.mono fun _ _ h=>kT h,h.len,h.good,h.good2,h.good3,h.reg,c,kT h1,h2⟩
theorem si.mok (h:si C σ prog cv pl rl reg lm nm) {mid:ah} (hm:mid[3]?=some (.dct eS)) {bg:Int} {mn:Nat} {most:Int} :
  yX C ⟨σ,mid,pl,C.t,bg,mn,most⟩ prog cv rl reg (σ.length+4) mn nm :=
 ⟨h.ok,h.alp,rfl,rfl,h.pg,h.rows,h.code,fun Z Z Z Z Z Z=>JS (k:=3) hm,h.len,h.good,h.good2,h.good3⟩
theorem si.steps (h:si C σ prog cv pl rl reg lm nm):aq (af L) (.loc lm) dZ σ=some (.int 1000000,σ):=let ⟨_,h1,h2⟩:=h.lim; cz h1 (h2 L)
theorem zn {c:dl} {m:ah}:aa (af L) (K+1) ff [] (σ++c::m)=some (.loc (σ.length+1+m.length),σ++c::(m++[.dct eS])):=by
 rw [xh]
 show bnd (bT (.dct eS)) ret _=_
 rw [gO,pO]; rfl
noncomputable def rT (a:Nat):Option Nat→PV
 | some e=>.tup [.int a,.int e]
 | none=>.none
theorem tw.out {R:gZ} {a:Nat} {t:Int} {x:Option (PV × ah)}:∀ {res:Option Nat},tw R (.int a) t (Jq res) x→∃ st' a' pc pile regs,st'≤t∧x=some (.bool res.isSome,SM R st' a' pc pile [rT a res] regs)
 | some _,h=>h
 | none,h=>h
noncomputable def tC (σ:ah) (v:PV):Option (Nat × Nat)→Prop
 | none=>v=.none
 | some p=>∃ g,v=.loc g∧σ[g]?=some (.lst [.tup [.int p.1,.int p.2]])
theorem Lj (hL:4200000≤L) (H:si C σ prog cv pl rl reg lm nm) {a mn k:Nat} {res:Option Nat} (hO:jj prog C.fit C.std C.t.length mn 0 a (List.replicate reg (-1)) k res) (hk:k≤1000000) :
  ∃ v τ,aa (af L) (K+13) ik [.loc pl,.str C.t,.int a,.loc lm,.int mn] σ=some (v,σ++τ)∧tC (σ++τ) v (res.map fun e=>(a,e)):=by
 obtain ⟨st',a',pc,pile,regs,_,h2⟩:=(Cl (K:=K+1) (st:=0) (a0:=a) (pc0:=0) (g:=σ.length+1) (r:=σ.length+2) (p:=σ.length+3) (H.mok (mid:=[.lst [],.lst [],.lst [],.dct eS]) rfl (bg:=a) (mn:=mn) (most:=1000000)) hL H.reg hO (by omega) hk).out
 have h2:aa (af L) (K+12) dM [.loc σ.length,.loc (σ.length+4),.int a] (σ++mC ⟨σ,[],pl,C.t,a,mn,1000000⟩ 0 a 0 (σ.length+1) (σ.length+2) (σ.length+3)::[.lst [],.lst [],.lst [],.dct eS])=_:=h2
 have h0:=CL (L:=L) (N:=K+10) (most:=1000000) (σ:=σ) (pl:=pl) (t:=C.t) (bg:=a) (mn:=mn)
 have h1:aa (af L) (K+12) ff [] (σ++mC ⟨σ,[],pl,C.t,a,mn,1000000⟩ 0 a 0 (σ.length+1) (σ.length+2) (σ.length+3)::[.lst [],.lst [],.lst []])=some (.loc (σ.length+4),σ++mC ⟨σ,[],pl,C.t,a,mn,1000000⟩ 0 a 0 (σ.length+1) (σ.length+2) (σ.length+3)::[.lst [],.lst [],.lst [],.dct eS]):=zn
 have h3:=H.steps (L:=L)
 have h4:=SM_groups (R:=⟨σ,[.lst [],.lst [],.lst [],.dct eS],pl,C.t,a,mn,1000000⟩) (st:=st') (a:=a') (pc:=pc) (pile:=pile) (groups:=[rT a res]) (regs:=regs) (L:=L)
 have h5:=F2 (R:=⟨σ,[.lst [],.lst [],.lst [],.dct eS],pl,C.t,a,mn,1000000⟩) (st:=st') (a:=a') (pc:=pc) (pile:=pile) (groups:=[rT a res]) (regs:=regs)
 clear H hO
 generalize hS:SM ⟨σ,[.lst [],.lst [],.lst [],.dct eS],pl,C.t,a,mn,1000000⟩ st' a' pc pile [rT a res] regs=S at h2 h4 h5
 obtain ⟨τ,rfl⟩:∃ τ,S=σ++τ:=⟨_,hS.symm⟩
 clear hS
 cases res with
 | none =>
  refine ⟨.none,τ,?_,rfl⟩
  refine ar (rX ..) ?_ ?_ <;> fail "go"
 | some e =>
  refine ⟨_,τ,?_,_,rfl,h5⟩
  refine ar (rX ..) ?_ ?_ <;> fail "go"
end
noncomputable def uU (f:Nat→Option Nat) (a:Nat):Nat→Option (Nat × Nat)
 | 0=>none
 | n+1=>match f a with
  | some e=>some (a,e)
  | none=>uU f (a+1) n
noncomputable def vw (κ:Nat→Nat) (a:Nat):Nat→Nat
 | 0=>0
 | n+1=>κ a+vw κ (a+1) n
section
variable {C:Cs} {σ:ah} {prog:List lf} {cv:List PV} {pl rl reg lm mn:Nat} {nm:PV} {L K:Nat}
@[reducible] noncomputable def AY (L K:Nat) (σ:ah) (t:List Nat) (pl mn:Nat) (xl xa:PV) (L':Nat) (it:It) (o:Option PV):ah→Option (PV × ah) :=
 cJ (eF L (K+12)) (gB L (K+12)) L' it [(b0,some (.loc pl)),(aD,some (.str t)),(bv,some xa),(cC,some xl),(bq,some (.int mn)),(da,some (.loc σ.length)),(gc,some (.loc (σ.length+4))),(b9,o)]
theorem rz (hL:4200000≤L) (H:si C σ prog cv pl rl reg lm nm) {bg:Int} {first:Nat→Option Nat} {κ:Nat→Nat}
  (hO:∀ a,a≤C.t.length→jj prog C.fit C.std C.t.length mn 0 a (List.replicate reg (-1)) (κ a) (first a)) (hκ:∀ a,a≤C.t.length→κ a≤1000000) {xl xa:PV} :
  ∀ (n a:Nat) (st a0 pc0:Int) (g r p:Nat) (mid:ah) (L':Nat) (o:Option PV),a+n=C.t.length+1→mid[3]?=some (.dct eS)→st+(vw κ a n:Nat)≤1000000→n<L' →
   ∃ v τ,AY L K σ C.t pl mn xl xa L' (.items (steps a 1 n)) o (σ++mC ⟨σ,mid,pl,C.t,bg,mn,1000000⟩ st a0 pc0 g r p::mid)=some (v,σ++τ)∧tC (σ++τ) v (uU first a n)
 | 0,a,st,a0,pc0,g,r,p,mid,0,o,hn,hm,hst,hL'=>absurd hL' (Nat.not_lt_zero _)
 | 0,a,st,a0,pc0,g,r,p,mid,M+1,o,hn,hm,hst,hL'=>⟨.none,mC ⟨σ,mid,pl,C.t,bg,mn,1000000⟩ st a0 pc0 g r p::mid,rfl,rfl⟩
 | n+1,a,st,a0,pc0,g,r,p,mid,0,o,hn,hm,hst,hL'=>absurd hL' (Nat.not_lt_zero _)
 | n+1,a,st,a0,pc0,g,r,p,mid,M+1,o,hn,hm,hst,hL'=>by
  have ha:a≤C.t.length:=by omega
  have hs:st+(κ a:Int)+(vw κ (a+1) n:Nat)≤1000000:=by
   have:((κ a+vw κ (a+1) n:Nat):Int)=(κ a:Int)+(vw κ (a+1) n:Nat):=Int.natCast_add ..
   rw [Int.add_assoc,← this]; exact hst
  obtain ⟨st',a',pc,pile,regs,h1,h2⟩:=(Cl (K:=K+1) (st:=st) (a0:=a0) (pc0:=pc0) (g:=g) (r:=r) (p:=p) (H.mok hm (bg:=bg) (mn:=mn) (most:=1000000)) hL H.reg (hO a ha) (by show st+(κ a:Int)≤1000000; omega) (hκ a ha)).out
  have h2:aa (af L) (K+12) dM [.loc σ.length,.loc (σ.length+4),.int a] (σ++mC ⟨σ,mid,pl,C.t,bg,mn,1000000⟩ st a0 pc0 g r p::mid)=_:=h2
  show ∃ v τ,eF L (K+12) (.int a) _ _ _ _ _=some (v,σ++τ)∧tC (σ++τ) v (match first a with | some e=>some (a,e) | none=>uU first (a+1) n)
  cases hf:first a with
  | some e =>
   rw [hf] at h2
   have h4:=SM_groups (R:=⟨σ,mid,pl,C.t,bg,mn,1000000⟩) (st:=st') (a:=a') (pc:=pc) (pile:=pile) (groups:=[rT a (some e)]) (regs:=regs) (L:=L)
   have h5:=F2 (R:=⟨σ,mid,pl,C.t,bg,mn,1000000⟩) (st:=st') (a:=a') (pc:=pc) (pile:=pile) (groups:=[rT a (some e)]) (regs:=regs)
   clear H hO hκ hs hst hf
   generalize hS:SM ⟨σ,mid,pl,C.t,bg,mn,1000000⟩ st' a' pc pile [rT a (some e)] regs=S at h2 h4 h5
   obtain ⟨τ,rfl⟩:∃ τ,S=σ++τ:=⟨_,hS.symm⟩
   clear hS
   refine ⟨_,τ,?_,_,rfl,h5⟩
   refine ar (ij ..) ?_ ?_ <;> fail "go"
  | none =>
   rw [hf] at h2
   obtain ⟨v,τ,e1,e2⟩:=rz hL H hO hκ (bg:=bg) (xl:=xl) (xa:=xa) n (a+1) st' a' pc (σ.length+1+mid.length+1) (σ.length+1+mid.length+2) (σ.length+1+mid.length) (mid++[.lst pile,.lst [.none],.lst regs]) M (some (.int a)) (by omega) (kT hm) (by omega) (by omega)
   have e1:AY L K σ C.t pl mn xl xa M (.items (steps ((a:Int)+1) 1 n)) (some (.int a)) (SM ⟨σ,mid,pl,C.t,bg,mn,1000000⟩ st' a' pc pile [rT a none] regs)=_:=e1
   clear H hO hκ hs hst hf
   refine ⟨v,τ,?_,e2⟩
   refine ig (u:=.v) (ij ..) ?_ ?_ <;> fail "go"
end
end
section
section
variable {C:Cs} {σ:ah} {prog:List lf} {cv:List PV} {pl rl reg lm mn:Nat} {nm:PV} {L K:Nat}
theorem Eu {a b:Int} (ha:small a=true) (hb:small b=true):fO [.int a,.int b] σ=some (.rng a b 1,σ):=by
 rw [JH,ha,hb]; rfl
theorem HV {a b:Int} {n:Nat} (ha:small a=true) (hb:small b=true) (e:(b-a).toNat=n):ce (.rng a b 1) σ=some (.items (steps a 1 n),σ):=by
 rw [ud,ha,hb,EO,e]; rfl
theorem mM {n:Nat} (h:n≤1000000000):small (n:Int)=true:=by rw [jE,decide_eq_true h]
theorem Hv {L n b:Nat} (hL:4200000≤L) (h:n≤4):n+1-b<L:=Nat.lt_of_le_of_lt (Nat.sub_le ..) (Nat.lt_of_le_of_lt (Nat.succ_le_succ h) (Nat.lt_of_lt_of_le (by decide) hL))
theorem Ex (hL:4200000≤L) (H:si C σ prog cv pl rl reg lm nm) {bg:Nat} (hbg:bg≤C.t.length) {first:Nat→Option Nat} {κ:Nat→Nat}
  (hO:∀ a,a≤C.t.length→jj prog C.fit C.std C.t.length mn 0 a (List.replicate reg (-1)) (κ a) (first a)) (hκ:∀ a,a≤C.t.length→κ a≤1000000) (hsum:vw κ bg (C.t.length+1-bg)≤1000000) :
  ∃ v τ,aa (af L) (K+13) fZ [.loc pl,.str C.t,.int bg,.loc lm,.int mn] σ=some (v,σ++τ)∧tC (σ++τ) v (uU first bg (C.t.length+1-bg)):=by
 have hlen:=H.ok.len
 obtain ⟨v,τ,e1,e2⟩:=rz (K:=K) hL H hO hκ (bg:=bg) (xl:=.loc lm) (xa:=.int bg) (C.t.length+1-bg) bg 0 bg 0 (σ.length+1) (σ.length+2) (σ.length+3) [.lst [],.lst [],.lst [],.dct eS] L none (Nat.add_sub_of_le (Nat.le_succ_of_le hbg)) rfl (by omega) (Hv hL hlen)
 refine ⟨v,τ,?_,e2⟩
 have h3:=H.steps (L:=L)
 clear e2 H hO hκ hsum
 generalize hS:σ++mC ⟨σ,[],pl,C.t,bg,mn,1000000⟩ 0 bg 0 (σ.length+1) (σ.length+2) (σ.length+3)::[.lst [],.lst [],.lst [],.dct eS]=S
 have e1:AY L K σ C.t pl mn (.loc lm) (.int bg) L (.items (steps bg 1 (C.t.length+1-bg))) none S=some (v,σ++τ):=hS ▸ e1
 have h0:=CL (L:=L) (N:=K+10) (most:=1000000) (σ:=σ) (pl:=pl) (t:=C.t) (bg:=bg) (mn:=mn)
 have h1:aa (af L) (K+12) ff [] (σ++mC ⟨σ,[],pl,C.t,bg,mn,1000000⟩ 0 bg 0 (σ.length+1) (σ.length+2) (σ.length+3)::[.lst [],.lst [],.lst []])=some (.loc (σ.length+4),S):=zn.trans (hS ▸ rfl)
 have s1:=mM (n:=bg) (by omega)
 have s2:small ((C.t.length:Int)+1)=true:=mM (n:=C.t.length+1) (by omega)
 have h4:=dE (τ:=S) (w:=C.t) (aO hlen (by decide))
 have h5:=Eu (σ:=S) s1 s2
 have h6:=HV (σ:=S) (n:=C.t.length+1-bg) s1 s2 (Int.toNat_sub (C.t.length+1) bg)
 clear s1 s2 hlen hbg hS
 refine ar (pN ..) ?_ ?_ <;> fail "go"
noncomputable def oY (C:Cs) (l:Nd) (mn a:Nat):Option Nat:=(C.E (.row l) a).find? fun e=>decide (mn≤e)
noncomputable def Gm:Option (Nat × Nat)→PV
 | none=>.none
 | some p=>.frz [.tup [.int p.1,.int p.2]]
theorem Fm {v:PV}:∀ {p:Option (Nat × Nat)},tC σ v p→Jt v (Gm p) σ=some (true,σ)
 | none,h=>by cases (show v=.none from h); rfl
 | some p,⟨g,h,e⟩=>by
  cases h
  show Jt (.loc g) (.frz [.tup [.int p.1,.int p.2]]) σ=_
  rw [Jx,dC,e]
  show some (((p.1:Int) == p.1 && ((p.2:Int) == p.2 && true)) && true,σ)=_
  rw [beq_self_eq_true,beq_self_eq_true]; rfl
theorem CP:∀ (es:List Nat) (L':Nat),es.length<L'→compLoop (fun w57=>Tx.run ((.bnd (.bnd (.b (aj .GtE w57 (.int mn))) fun t60=>.br t60 (.ret true) (.ret false)) fun c59=>.br c59 (.ret (some w57)) (.ret none)))) L' (.items (dR es)) σ=some (dR (es.filter fun e=>decide (mn≤e)),σ)
 | _,0,h=>absurd h (Nat.not_lt_zero _)
 | [],M+1,_=>rfl
 | e::r,M+1,h=>by
  have ih:=CP r M (Nat.lt_of_succ_lt_succ h)
  rw [List.filter_cons]
  have g:aj .GtE (.int e) (.int mn) σ=some (decide ((mn:Int)≤e),σ):=rfl
  by_cases hm:mn≤e
  ·rw [if_pos (decide_eq_true hm)]
   rw [di (Int.ofNat_le.mpr hm)] at g
   refine jF (x:=.int e) ?_ ih
   refine ar rfl ?_ ?_ <;> fail "go"
  ·rw [if_neg (fun h=>hm (of_decide_eq_true h))]
   rw [dn (fun h=>hm (Int.ofNat_le.mp h))] at g
   refine qX ?_ ih
   refine ar rfl ?_ ?_ <;> fail "go"
theorem yH {v:PV} {l:List PV}:aj .NotEq (.frz (v::l)) (.frz []) σ=some (true,σ):=by
 rw [wI,gO,Lv]; rfl
theorem GW {N a bg:Nat} {t:List Nat} {E:List Nat} {S S1 S2:ah} {v1 v2 v3 v5 v8:PV} {o6 o1 o2 o3:Option PV} {due:Option (Nat × Nat)} {kn kb kc:Kn} {X:Option (PV × ah)} (hL:6≤L) (hE:E.length≤5)
  (e1:aa (af L) N bZ [v8,.str t,.int a,v3] S=some (.frz (dR E),S1))
  (hm:(a≠bg∧S2=S1)∨(a=bg∧∃ v,aa (af L) N ik [.loc pl,.str t,.int a,.loc lm,.int mn] S1=some (v,S2)∧tC S2 v ((E.find? fun e=>decide (mn≤e)).map fun e=>(a,e))))
  (hk:∀ p2 p3,kn [(dP,some v1),(kA,some v2),(aw,some v3),(aD,some (.str t)),(gS,some v5),(Cw,o6),(eZ,some (.int bg)),(bq,some (.int mn)),(aJ,some v8),(b0,some (.loc pl)),(cC,some (.loc lm)),(kN,some (Gm (((E.find? fun e=>decide (mn≤e)).map fun e=>(a,e)).or due))),(b9,some (.int a)),(b8,some p2),(bJ,some p3)] S2=X) :
  s7 L N (.int a) [(dP,some v1),(kA,some v2),(aw,some v3),(aD,some (.str t)),(gS,some v5),(Cw,o6),(eZ,some (.int bg)),(bq,some (.int mn)),(aJ,some v8),(b0,some (.loc pl)),(cC,some (.loc lm)),(kN,some (Gm due)),(b9,o1),(b8,o2),(bJ,o3)] kn kb kc S=X:=by
 have hf:=CP (σ:=S1) (mn:=mn) E L (by omega)
 have h1:=lv (τ:=S1) (l:=dR E) (by rw [ch]; omega)
 have h2:=qS (τ:=S1) (l:=dR (E.filter fun e=>decide (mn≤e))) (by rw [ch]; exact Nat.le_trans (List.length_filter_le ..) (by omega))
 rw [← List.head?_filter] at hm hk
 generalize E.filter (fun e=>decide (mn≤e))=es at hf h2 hm hk
 have g:aj .Eq (.int a) (.int bg) S1=some (decide ((a:Int)=bg),S1):=rfl
 clear hE hL
 rcases hm with ⟨q,rfl⟩ | ⟨q,v,m1,m2⟩
 ·rw [dn (fun h=>q (Int.ofNat_inj.mp h))] at g
  cases es with
  | nil =>
   have hk:=hk (.frz []) .none
   refine ig (u:=.v) (lE ..) ?_ ?_ <;> fail "go"
  | cons e r =>
   have hk:=hk (.frz (dR (e::r))) (.frz [.tup [.int a,.int e]])
   have h3:=yH (σ:=S2) (v:=.int e) (l:=dR r)
   refine ig (u:=.v) (lE ..) ?_ ?_ <;> fail "go"
 ·rw [di (show (a:Int)=bg from congrArg _ q)] at g
  have m2:=Fm m2
  cases es with
  | nil =>
   have hk:=hk (.frz []) .none
   have m3:aj .NotEq v .none S2=some (false,S2):=by rw [wI,gO]; exact congrArg (fun x=>An _ x _) m2
   refine ig (u:=.v) (lE ..) ?_ ?_ <;> fail "go"
  | cons e r =>
   have hk:=hk (.frz (dR (e::r))) (.frz [.tup [.int a,.int e]])
   have h3:=yH (σ:=S1) (v:=.int e) (l:=dR r)
   have m3:aj .NotEq v (.frz [.tup [.int a,.int e]]) S2=some (false,S2):=by rw [wI,gO]; exact congrArg (fun x=>An _ x _) m2
   refine ig (u:=.v) (lE ..) ?_ ?_ <;> fail "go"
end
end
section
section
variable {C:Cs} {σ:ah} {prog:List lf} {cv:List PV} {pl rl reg lm mn:Nat} {nm:PV} {L K:Nat}
theorem Ey {f:Nat→Option Nat} {a n:Nat}:uU f a (n+1)=((f a).map fun e=>(a,e)).or (uU f (a+1) n):=by
 show (match f a with | some e=>some (a,e) | none=>uU f (a+1) n)=_
 cases f a <;> rfl
@[reducible] noncomputable def FD (C:Cs) (L N bg mn pl lm:Nat) (v1 v2 v5 v8:PV) (o6:Option PV) (L':Nat) (it:It) (due:Option (Nat × Nat)) (o1 o2 o3:Option PV):ah→Option (PV × ah) :=
 cJ (s7 L N) (xY L N) L' it [(dP,some v1),(kA,some v2),(aw,some C.F),(aD,some (.str C.t)),(gS,some v5),(Cw,o6),(eZ,some (.int bg)),(bq,some (.int mn)),(aJ,some v8),(b0,some (.loc pl)),(cC,some (.loc lm)),(kN,some (Gm due)),(b9,o1),(b8,o2),(bJ,o3)]
theorem yU (hL:4200000≤L) (H:si C σ prog cv pl rl reg lm nm) {l:Nd} {dd:Nat} (hl:ld dd (.row l)) (hneed:kj (.row l)≤K+13) {bg:Nat} (hbg:bg≤C.t.length) {κ:Nat→Nat}
  (hO:∀ a,a≤C.t.length→jj prog C.fit C.std C.t.length mn 0 a (List.replicate reg (-1)) (κ a) (oY C l mn a)) (hκ:∀ a,a≤C.t.length→κ a≤1000000) (hsum:vw κ bg (C.t.length+1-bg)≤1000000) {v1 v2 v5:PV} {o6:Option PV} :
  ∀ (n:Nat) (τ:ah) (L':Nat),bg+n≤C.t.length+1→n<L' →
   ∃ σ',∀ o1 o2 o3,FD C L (K+13) bg mn pl lm v1 v2 v5 (j0 (.row l)) o6 L' (.items (steps ((bg:Int)+n-1) (-1) n)) (uU (oY C l mn) (bg+n) (C.t.length+1-(bg+n))) o1 o2 o3 (σ++τ)=some (.bool true,σ')
 | 0,τ,0,_,h=>absurd h (Nat.not_lt_zero _)
 | n+1,τ,0,_,h=>absurd h (Nat.not_lt_zero _)
 | 0,τ,M+1,hn,hL'=>by
  obtain ⟨v,τ2,e1,e2⟩:=Ex (K:=K) hL (H.more (τ:=τ)) hbg hO hκ hsum
  have he:aj .Eq v (Gm (uU (oY C l mn) (bg+0) (C.t.length+1-(bg+0)))) (σ++τ++τ2)=some (true,σ++τ++τ2):=Fm e2
  refine ⟨σ++τ++τ2,fun o1 o2 o3=>(congrFun ly _).trans ?_⟩
  clear H hO hκ hsum e2
  refine ar (B8 ..) ?_ ?_ <;> fail "go"
 | n+1,τ,M+1,hn,hL'=>by
  have ha:bg+n≤C.t.length:=Nat.le_of_succ_le_succ hn
  obtain ⟨τ1,e1⟩:=(l0 (C:=C) (L:=L) (Nat.le_trans (by decide) hL) H.ok (.row l)).1 dd (K+13) (σ++τ) (bg+n) hl hneed ha
  have hw:C.t.length+1-(bg+n)=(C.t.length+1-(bg+(n+1)))+1:=GU (Nat.lt_succ_of_le ha)
  rw [show (bg:Int)+(n+1:Nat)-1=(bg+n:Nat) by omega]
  have step:∀ τ2,(bg+n≠bg∧σ++τ2=σ++τ++τ1)∨(bg+n=bg∧∃ v,aa (af L) (K+13) ik [.loc pl,.str C.t,.int (bg+n:Nat),.loc lm,.int mn] (σ++τ++τ1)=some (v,σ++τ2)∧tC (σ++τ2) v ((oY C l mn (bg+n)).map fun e=>(bg+n,e))) →
    ∃ σ',∀ o1 o2 o3,FD C L (K+13) bg mn pl lm v1 v2 v5 (j0 (.row l)) o6 (M+1) (.items (steps (bg+n:Nat) (-1) (n+1))) (uU (oY C l mn) (bg+(n+1)) (C.t.length+1-(bg+(n+1)))) o1 o2 o3 (σ++τ)=some (.bool true,σ'):=fun τ2 h=>by
   obtain ⟨σ',ih⟩:=yU hL H hl hneed hbg hO hκ hsum (v1:=v1) (v2:=v2) (v5:=v5) (o6:=o6) n τ2 M (by omega) (by omega)
   rw [show (bg:Int)+n-1=((bg+n:Nat):Int)+-1 by omega,hw,Ey] at ih
   refine ⟨σ',fun o1 o2 o3=>GW (Nat.le_trans (by decide) hL) (Au H.ok (.row l) ha) e1 h fun p2 p3=>?_⟩
   exact ih _ _ _
  by_cases h0:bg+n=bg
  ·obtain ⟨v,τ2,m1,m2⟩:=Lj (K:=K) hL ((H.more (τ:=τ)).more (τ:=τ1)) (hO (bg+n) ha) (hκ _ ha)
   rw [List.append_assoc _ τ1,List.append_assoc σ τ (τ1++τ2)] at m1 m2
   exact step _ (.inr ⟨h0,v,m1,m2⟩)
  ·exact step (τ++τ1) (.inl ⟨h0,(List.append_assoc ..).symm⟩)
end
end
section
theorem GK (n:Nd):dep n≤kj n:=by
 have hm:∀ {a b c d:Nat},a≤c→b≤d→max a b≤max c d:=fun h h'=>Nat.max_le.mpr ⟨Nat.le_trans h (Nat.le_max_left ..),Nat.le_trans h' (Nat.le_max_right ..)⟩
 induction n with
 | one _=>exact (by decide:1≤3)
 | place _=>exact (by decide:1≤3)
 | row _ h=>exact Nat.succ_le_succ h
 | branches _ _ h h'=>exact Nat.le_trans (Nat.succ_le_succ (hm h h')) (Nat.add_le_add_left (by decide:1≤3) _)
 | rounds _ _ h=>exact Nat.le_trans (Nat.succ_le_succ h) (Nat.add_le_add_left (by decide:1≤16) _)
 | nil=>exact Nat.zero_le _
 | cons _ _ h h'=>exact hm h h'
theorem kI:∀ n:Nd,(∀ d,ld d n→kj n≤17*d+4)∧(∀ d,okL d n→kj n≤17*d+4)∧(∀ d,ld (d+1) n→mj n=true→kj n≤17*d+5)
 | .one _=>⟨fun d _=>(by omega:3≤17*d+4),fun _ h=>h.elim,fun _ _ h=>nomatch h⟩
 | .place _=>⟨fun d _=>(by omega:3≤17*d+4),fun _ h=>h.elim,fun _ _ h=>nomatch h⟩
 | .row l=>⟨fun
  | 0,h=>h.elim
  | d+1,h=>Nat.le_trans (Nat.succ_le_succ ((kI l).2.1 d h.1)) (by omega),fun _ h=>h.elim,fun d h _=>Nat.succ_le_succ ((kI l).2.1 d h.1)⟩
 | .branches x y=>⟨fun
  | 0,h=>h.elim
  | d+1,h=>Nat.le_trans (Nat.add_le_add_right (Nat.max_le.mpr ⟨(kI x).2.2 d h.1 h.2.2.1,(kI y).2.2 d h.2.1 h.2.2.2⟩) 3) (by omega),fun _ h=>h.elim,fun _ _ h=>nomatch h⟩
 | .rounds n _=>⟨fun
  | 0,h=>h.elim
  | d+1,h=>Nat.le_trans (Nat.add_le_add_right ((kI n).1 d h.1) 16) (by omega),fun _ h=>h.elim,fun _ _ h=>nomatch h⟩
 | .nil=>⟨fun
  | 0,h=>h.elim
  | _+1,h=>h.elim,fun d _=>(by omega:3≤17*d+4),fun _ h=>h.elim⟩
 | .cons x y=>⟨fun
  | 0,h=>h.elim
  | _+1,h=>h.elim,fun d h=>Nat.max_le.mpr ⟨(kI x).1 d h.1,(kI y).2.1 d h.2⟩,fun _ h=>h.elim⟩
theorem yQ {n:Nd} {c:Nat}:cg (.rounds n c)≤cg n+4:=by
 cases n with
 | one _=>exact (by decide:1≤1+4)
 | _=>exact Nat.le_refl _
theorem zR {n:Nd} {c:Nat}:cR (.rounds n c)≤cR n+2:=by
 cases n with
 | one _=>exact Nat.zero_le _
 | _=>exact Nat.le_refl _
theorem Ie (n:Nd):cg n≤cN n+2*eG n+4*eO n∧cR n≤2*eO n:=by
 induction n with
 | one _=>exact ⟨Nat.le_refl 1,Nat.le_refl 0⟩
 | place _=>exact ⟨Nat.le_refl 1,Nat.le_refl 0⟩
 | row _ h=>exact h
 | branches x y h h' =>
  show cg x+cg y+2≤(cN x+cN y)+2*(eG x+eG y+1)+4*(eO x+eO y)∧cR x+cR y≤2*(eO x+eO y)
  omega
 | rounds n c h =>
  have h1:=yQ (n:=n) (c:=c)
  have h2:=zR (n:=n) (c:=c)
  show _≤cN n+2*eG n+4*(eO n+1)∧_≤2*(eO n+1)
  omega
 | nil=>exact ⟨Nat.le_refl 0,Nat.le_refl 0⟩
 | cons x y h h' =>
  show cg x+cg y≤(cN x+cN y)+2*(eG x+eG y)+4*(eO x+eO y)∧cR x+cR y≤2*(eO x+eO y)
  omega
noncomputable def C8:lf→Prop
 | .test i=>i<20
 | .run i c=>i<20∧c<7
 | .place i=>i<7
 | _=>True
noncomputable def pP (l:List lf):Prop:=∀ x ∈ l,C8 x
theorem pP.cons {x:lf} {l:List lf} (h:C8 x) (h':pP l):pP (x::l):=fun _ hy=>(List.mem_cons.mp hy).elim (fun e=>e ▸ h) (h' _)
theorem pP.nil:pP []:=fun _ h=>nomatch h
theorem pP.app {l m:List lf} (h:pP l) (h':pP m):pP (l++m):=fun _ hy=>(List.mem_append.mp hy).elim (h _) (h' _)
theorem zH {n:Nd} {c b r:Nat} (hc:c<7) (h:pP (code n (b+3) (r+2))) (h1:∀ i,n=.one i→i<20):pP (code (.rounds n c) b r):=by
 cases n with
 | one i=>exact .cons ⟨h1 i rfl,hc⟩ .nil
 | _=>exact .cons trivial (.cons trivial (.cons trivial (.app h (.cons trivial .nil))))
theorem iA:∀ n:Nd,(∀ d b r,ld d n→pP (code n b r))∧(∀ d b r,okL d n→pP (code n b r))
 | .one i=>⟨fun d _ _ h=>.cons (by cases d <;> exact h) .nil,fun _ _ _ h=>h.elim⟩
 | .place i=>⟨fun d _ _ h=>.cons (by cases d <;> exact h) .nil,fun _ _ _ h=>h.elim⟩
 | .row l=>⟨fun
  | 0,_,_,h=>h.elim
  | d+1,b,r,h=>(iA l).2 d b r h.1,fun _ _ _ h=>h.elim⟩
 | .branches p q=>⟨fun
  | 0,_,_,h=>h.elim
  | _+1,_,_,h=>.cons trivial (.app ((iA p).1 _ _ _ h.1) (.cons trivial ((iA q).1 _ _ _ h.2.1))),fun _ _ _ h=>h.elim⟩
 | .rounds n c=>⟨fun
  | 0,_,_,h=>h.elim
  | d+1,_,_,h=>zH h.2 ((iA n).1 _ _ _ h.1) (fun i e=>by subst e; cases d <;> exact h.1),fun _ _ _ h=>h.elim⟩
 | .nil=>⟨fun
  | 0,_,_,h=>h.elim
  | _+1,_,_,h=>h.elim,fun Z Z Z Z=>.nil⟩
 | .cons p q=>⟨fun
  | 0,_,_,h=>h.elim
  | _+1,_,_,h=>h.elim,fun _ _ _ h=>.app ((iA p).1 _ _ _ h.1) ((iA q).2 _ _ _ h.2)⟩
noncomputable def gs (g:Nat→Nat):Nat→Nat
 | 0=>0
 | n+1=>g n+gs g n
noncomputable def x6 (b l r:Nat):Nat:=aT b l r*(27*(3+b)+2*b+4*l)+eT b l r
theorem Hz:((List.range 5).all fun b=>(List.range 3).all fun l=>decide (b+2*l≤4→gs (x6 b l) 5≤1000000))=true:=by decide +kernel
theorem K6 {b l:Nat} (h:b+2*l≤4):gs (x6 b l) 5≤1000000 :=
 of_decide_eq_true (List.all_eq_true.mp (List.all_eq_true.mp Hz b (List.mem_range.mpr (by omega))) l (List.mem_range.mpr (by omega))) h
theorem Je {g:Nat→Nat} {n:Nat}:∀ k,gs g n≤gs g (n+k)
 | 0=>Nat.le_refl _
 | k+1=>Nat.le_trans (Je k) (Nat.le_add_left _ _)
theorem zx {f g:Nat→Nat} {T:Nat} (h:∀ a,a≤T→f a≤g (T-a)):∀ n a,a+n=T+1→vw f a n≤gs g n
 | 0,_,_=>Nat.le_refl 0
 | n+1,a,e=>
  have e:T=a+n:=Nat.succ.inj e.symm
  Nat.add_le_add (by have:=h a (e ▸ Nat.le_add_right a n); rwa [e,Nat.add_sub_cancel_left] at this) (zx h n (a+1) ((Nat.succ_add_eq_add_succ a n).trans (congrArg (·+1) e.symm)))
theorem HI {f g:Nat→Nat} {T:Nat} (hT:T≤4) (h:∀ a,a≤T→f a≤g (T-a)) {a:Nat} (ha:a≤T+1):vw f a (T+1-a)≤gs g 5 :=
 Nat.le_trans (zx h _ a (Nat.add_sub_of_le ha)) (by have:=Je (g:=g) (n:=T+1-a) (5-(T+1-a)); rwa [Nat.add_sub_of_le (Nat.le_trans (Nat.sub_le ..) (Nat.succ_le_succ hT))] at this)
end
section
noncomputable def Mg:dl:=.inst mW [(xL,.int 64),(fb,.int 50),(dZ,.int 1000000),(cj,.int 100000),(xI,.int 10000)]
theorem HO (L N:Nat) (o:PV):aa (af L) (N+1) k_ [o]=aa (af L) (N+1) k_ [o,.int 64,.int 50,.int 1000000,.int 100000,.int 10000]:=by kernel_rfl
section
variable {σ:ah} {L N:Nat}
theorem Kj:aa (af L) (N+2) (.cls mW) [] σ=some (.loc σ.length,σ++[Mg]):=by
 refine uC (ci:=vQ) rfl ((congrFun (HO ..) _).trans ?_)
 refine ar (tE ..) ?_ ?_ <;> fail "go"
end
section
variable {σ:ah} {L N:Nat}
theorem DM {a b:Int} (ha:small a=true) (hb:small b=true):fO [.int a,.int b,.int (-1)] σ=some (.rng a b (-1),σ):=by
 rw [JI,ha,hb]; rfl
theorem Dl {a b:Int} {n:Nat} (ha:small a=true) (hb:small b=true) (e:(a-b).toNat=n):ce (.rng a b (-1)) σ=some (.items (steps a (-1) n),σ):=by
 rw [ud,ha,hb,GE,e]; rfl
theorem BZ (n b:Nat):((n:Int)-((b:Int)-1)).toNat=n+1-b:=(congrArg Int.toNat (by rw [Int.natCast_add]; omega:(n:Int)-((b:Int)-1)=((n+1:Nat):Int)-b)).trans (Int.toNat_sub (n+1) b)
theorem Bq {n:Nat} (h:n≤1000):small ((n:Int)-1)=true:=by rw [nP]; omega
theorem F4 {C:Cs} {σ2 σ3:ah} {ns:List Int} {spot s3 u k1 k2 bg mn pl:Nat} {seed:Int} {v1 v5 nd:PV} {o6:Option PV} {s:List Nat} {X:Option (PV × ah)} (hlen:C.t.length≤4) (hk2:k2<3) (hbg:k1 % (C.t.length+1)=bg)
  (hmn:(([.int 0,.int 0,.int ((bg:Int)+1)]:List PV)[k2]?)=some (.int mn))
  (d1:aa (af L) N aV [.loc 0,.int 3] (co ns spot seed 0)=some (.int k1,co ns (spot+1) seed 0))
  (d2:aa (af L) N aV [.loc 0,.int 3] (co ns (spot+1) seed 0)=some (.int k2,co ns (spot+2) seed 0))
  (d3:aa (af L) N eo [.loc 0,.int 3,.int 2] (co ns (spot+2) seed 0)=some (nd,co ns s3 seed u))
  (e1:aa (af L) N aU [nd] (co ns s3 seed u)=some (.str s,co ns s3 seed u))
  (e2:aa (af L) N dO [.str s,C.F] (co ns s3 seed u)=some (.loc pl,σ2))
  (e3:aa (af L) N (.cls mW) [] σ2=some (.loc σ2.length,σ3))
  (e4:FD C L N bg mn pl σ2.length v1 (.loc 0) v5 nd o6 L (.items (steps (C.t.length:Int) (-1) (C.t.length+1-bg))) none none none none σ3=X) :
  lP L N [(dP,some v1),(kA,some (.loc 0)),(aw,some C.F),(aD,some (.str C.t)),(gS,some v5),(Cw,o6),(eZ,none),(bq,none),(aJ,none),(b0,none),(cC,none),(kN,none),(b9,none),(b8,none),(bJ,none)] (co ns spot seed 0)=X:=by
 have hb:bg≤C.t.length:=by rw [← hbg]; exact Nat.le_of_lt_succ (Nat.mod_lt _ (Nat.succ_pos _))
 have f1:=dE (τ:=co ns (spot+1) seed 0) (w:=C.t) (aO hlen (by decide))
 have f2:aZ .Mod (.int k1) (.int ((C.t.length:Int)+1)) (co ns (spot+1) seed 0)=some (.int bg,co ns (spot+1) seed 0):=hbg ▸ yb (x:=k1) (y:=(C.t.length+1:Nat)) (by omega)
 have f3:=lY (τ:=co ns (spot+2) seed 0) (Nat.le_trans (Nat.le_of_lt hk2) (by decide)) hmn
 have f4:=dE (τ:=σ3) (w:=C.t) (aO hlen (by decide))
 have s1:small (C.t.length:Int)=true:=mM (by omega)
 have s2:small ((bg:Int)-1)=true:=Bq (Nat.le_trans hb (Nat.le_trans hlen (by decide)))
 have f5:=DM (σ:=σ3) s1 s2
 have f6:=Dl (σ:=σ3) (n:=C.t.length+1-bg) s1 s2 (BZ C.t.length bg)
 clear hbg hmn hk2 hlen hb s1 s2
 refine ig (u:=.v) (AF ..) ?_ ?_ <;> fail "go"
end
end
section
section
variable {L N:Nat}
theorem y8 {C:Cs} (hC:C.Ok) {l:Nd} (hl:okL 3 l) (hu:eG l+2*eO l≤4) (hlv:cN l≤27*(3+eG l)) {a:Nat} (ha:a≤C.t.length) :
  i6 C.fit C.std l a (fun Z=>1)≤x6 (eG l) (eO l) (C.t.length-a):=by
 have h:=(Fd (fit:=C.fit) (std:=C.std) (fun _ _ h=>x9 _ _ h) hC.len l).2 3 hl hu a (fun Z=>1) 1 ha (fun Z Z Z=>Nat.le_refl _)
 rw [Nat.mul_one] at h
 exact Nat.le_trans h (Nat.add_le_add_right (Nat.mul_le_mul_left _ (show cN l+2*eG l+4*eO l≤_ by omega)) _)
theorem FV (hL:4200000≤L) {ns:List Int} (hns:ns.length≤1000) {seed:Int} {spot:Nat} (hspot:spot≤1000) {C:Cs} (hC:C.Ok) (halp:∀ c ∈ C.t,c ∈ kq) {v1 v5:PV} {o6:Option PV} :
  ∃ σ',lP L (N+99) [(dP,some v1),(kA,some (.loc 0)),(aw,some C.F),(aD,some (.str C.t)),(gS,some v5),(Cw,o6),(eZ,none),(bq,none),(aJ,none),(b0,none),(cC,none),(kN,none),(b9,none),(b8,none),(bJ,none)] (co ns spot seed 0)=some (.bool true,σ'):=by
 have hlen:=hC.len
 obtain ⟨L,rfl⟩:∃ M,L=M+8:=⟨L-8,by omega⟩
 obtain ⟨k1,hk1,d1⟩:=f8 (L:=L+8) (N:=N+98) (seed:=seed) (u:=0) (m:=3) (by decide) (show spot≤20000 by omega) hns
 obtain ⟨k2,hk2,d2⟩:=f8 (L:=L+8) (N:=N+98) (seed:=seed) (u:=0) (m:=3) (by decide) (show spot+1≤20000 by omega) hns
 obtain ⟨l,s3,_,hu,hl,hcnt,d3⟩:=Dn 3 (L+8) (N+89) ns (spot+1+1) seed 0 2 (by omega) hns (by decide) (Nat.le_trans (Nat.add_le_add_right (by omega:_≤1002) _) (by decide))
 obtain ⟨mn,hmn⟩:∃ mn:Nat,(([PV.int 0,.int 0,.int (((k1 % (C.t.length+1):Nat):Int)+1)]:List PV)[k2]?)=some (.int (mn:Nat)) :=
  uu.get (n:=3) (P:=fun k=>∃ mn:Nat,(([PV.int 0,.int 0,.int (((k1 % (C.t.length+1):Nat):Int)+1)]:List PV)[k]?)=some (.int (mn:Nat))) ⟨⟨⟨trivial,0,rfl⟩,0,rfl⟩,k1 % (C.t.length+1)+1,rfl⟩ hk2
 have hbgl:k1 % (C.t.length+1)≤C.t.length:=Nat.le_of_lt_succ (Nat.mod_lt _ (Nat.succ_pos _))
 have hu:eG l+2*eO l≤4:=by rw [Nat.zero_add] at hu; exact hu
 have hlv:cN l≤27*(3+eG l):=Nat.le_trans ((Ee l).2 3 hl) (Nat.mul_le_mul_left 27 (Nat.add_le_add_right hcnt _))
 have hspl:=(IC l).2 3 hl
 obtain ⟨hcl,hnr⟩:=Ie l
 have hneed:kj (.row l)≤N+86+13:=Nat.le_trans (Nat.succ_le_succ ((kI l).2.1 3 hl)) (by omega)
 have e1:=(jQ (L:=L+8) (by omega) (.row l)).1 4 (N+99) (co ns s3 seed (0+units l)) ⟨hl,hcnt⟩ (Nat.le_trans (GK _) hneed) (show (bA l).length≤_ by omega)
 obtain ⟨σ2,pl,rl,cv,nm,e2,g1,g2,g3⟩:=Bu (L:=L) (σ:=co ns s3 seed (0+units l)) (fi:=C.fi) (fm:=C.fm) (fs:=C.fs) (by omega) (N+70) hl (by decide) (by omega) (by omega) (by omega)
 have hg:pP (code l 0 0++[.fin]):=.app ((iA l).2 3 0 0 hl) (.cons trivial .nil)
 have H:si C (σ2++[Mg]) (code l 0 0++[.fin]) cv pl rl (cR l) σ2.length nm :=
  ⟨hC,halp,kT g1,kT g2,g3.mono fun _ _ h=>kT h,by rw [List.length_append,dB,List.length_singleton]; omega,fun _ h=>hg _ h,fun _ _ h=>hg _ h,fun _ h=>hg _ h,by omega,Mg,bt σ2 Mg [],fun Z=>rfl⟩
 have hfit:∀ i a,C.fit i a=true→a<C.t.length:=fun i a h=>x9 i a h
 have hO:∀ a,a≤C.t.length→jj (code l 0 0++[.fin]) C.fit C.std C.t.length mn 0 a (List.replicate (cR l) (-1)) (i6 C.fit C.std l a fun Z=>1) (oY C l mn a):=fun a ha =>
  (show oY C l mn a=(rawL C.fit C.std l a).find? _ from (sP C.fit C.std (.row l)).1 a _) ▸ G2 hfit hlen l 3 hl rfl a ha _ (by rw [List.length_replicate]; exact Nat.le_refl _)
 have hcost:∀ a,a≤C.t.length→i6 C.fit C.std l a (fun Z=>1)≤x6 (eG l) (eO l) (C.t.length-a):=fun a ha=>y8 hC hl hu hlv ha
 have hsum:∀ {a},a≤C.t.length+1→vw (fun a=>i6 C.fit C.std l a fun Z=>1) a (C.t.length+1-a)≤1000000:=fun ha=>Nat.le_trans (HI hlen hcost ha) (K6 hu)
 have hκ:∀ a,a≤C.t.length→i6 C.fit C.std l a (fun Z=>1)≤1000000:=fun a ha=>by
  have h:=hsum (a:=a) (Nat.le_succ_of_le ha)
  rw [show C.t.length+1-a=(C.t.length-a)+1 by omega] at h
  exact Nat.le_trans (Nat.le_add_right _ _) h
 obtain ⟨σ',e3⟩:=yU (K:=N+86) hL H (l:=l) (dd:=4) ⟨hl,hcnt⟩ hneed hbgl hO hκ (hsum (Nat.le_succ_of_le hbgl)) (v1:=v1) (v2:=.loc 0) (v5:=v5) (o6:=o6) (C.t.length+1-k1 % (C.t.length+1)) [] (L+8) (by omega) (by omega)
 have e3:=e3 none none none
 rw [List.append_nil,show ((k1 % (C.t.length+1):Nat):Int)+(C.t.length+1-k1 % (C.t.length+1):Nat)-1=C.t.length by omega,show C.t.length+1-(k1 % (C.t.length+1)+(C.t.length+1-k1 % (C.t.length+1)))=0 by omega] at e3
 exact ⟨σ',F4 hlen hk2 rfl hmn d1 d2 d3 e1 e2 Kj e3⟩
end
end
section
section
variable {σ:ah} {L N:Nat}
theorem Aq {x y:Nat} (hx:x≤1000000000) (hy:1≤y) (hy':y≤1000000000):aZ .FloorDiv (.int x) (.int y) σ=some (.int (x / y:Nat),σ):=by
 rw [zg,mM hx,mM hy',di (show (1:Int)≤y from Int.ofNat_le.mpr hy)]; rfl
theorem I3 {k:Nat} (hk:k≤100):aZ .Pow (.int 11) (.int k) σ=some (.int (11 ^ k:Nat),σ):=by
 rw [pow_int,di (Int.natCast_nonneg k),di (show (k:Int)≤100 from Int.ofNat_le.mpr hk),Int.natCast_pow]; rfl
theorem Cc {x y:Nat} (hy:1≤y):aZ .Mod (.int x) (.int y) σ=some (.int (x % y:Nat),σ):=yb (Int.ofNat_le.mpr hy)
noncomputable def LB:List Nat:=[97,98,65,49,32,10,95,66,98,97,45]
theorem BY:∀ i,i<11→∃ c,LB[i]?=some c∧c ∈ kq:=by decide
@[reducible] noncomputable def tj (L N:Nat) (v1 v3 v5:PV) (t:List Nat) (o:Option PV):cP:=[(dP,some v1),(kA,some (.loc 0)),(aw,some v3),(aD,some (.str t)),(gS,some v5),(Cw,o),(eZ,none),(bq,none),(aJ,none),(b0,none),(cC,none),(kN,none),(b9,none),(b8,none),(bJ,none)]
theorem Ez {code k c:Nat} {t:List Nat} {v1 v3:PV} {o:Option PV} {kn kb kc:Kn} {X} (hcode:code<73205) (hk:k≤4) (hc:LB[code / 5 / 11 ^ k % 11]?=some c) (ht:t.length≤4)
  (h:kn (tj L N v1 v3 (.int code) (t++[c]) (some (.int k))) σ=X):p0 L N (.int k) (tj L N v1 v3 (.int code) t o) kn kb kc σ=X:=by
 have hp:∀ k,k≤4→1≤11 ^ k∧11 ^ k≤14641:=by decide
 have hp:=hp k hk
 have f1:aZ .FloorDiv (.int code) (.int 5) σ=some (.int (code / 5:Nat),σ):=Aq (y:=5) (by omega) (by decide) (by decide)
 have f2:=I3 (σ:=σ) (k:=k) (by omega)
 have f3:=Aq (σ:=σ) (x:=code / 5) (y:=11 ^ k) (by omega) (by omega) (by omega)
 have f4:aZ .Mod (.int (code / 5 / 11 ^ k:Nat)) (.int 11) σ=some (.int (code / 5 / 11 ^ k % 11:Nat),σ):=Cc (y:=11) (by decide)
 have f5:ao (.str [97,98,65,49,32,10,95,66,98,97,45]) (.int (code / 5 / 11 ^ k % 11:Nat)) σ=some (.str [c],σ):=dK (by omega) hc
 have f6:dF .Add (.str t) (.str [c]) σ=some (.str (t++[c]),σ):=by
  rw [I5,show Nat.ble (t.length+[c].length) lim=true from aO (Nat.succ_le_succ ht) (by decide)]; rfl
 clear hp hc
 refine ig (u:=.v) (Ba ..) ?_ ?_ <;> fail "go"
theorem vH {code:Nat} (hcode:code<73205) {v1 v3:PV}:∀ (n k:Nat) (t:List Nat) (L':Nat) (o:Option PV),k+n≤4→t.length=k→(∀ c ∈ t,c ∈ kq)→n<L' →
  ∃ t' o',t'.length=k+n∧(∀ c ∈ t',c ∈ kq)∧cJ (p0 L N) (lP L N) L' (.items (steps (k:Nat) 1 n)) (tj L N v1 v3 (.int code) t o) σ=lP L N (tj L N v1 v3 (.int code) t' o') σ
 | 0,k,t,0,o,_,_,_,h=>absurd h (Nat.not_lt_zero _)
 | n+1,k,t,0,o,_,_,_,h=>absurd h (Nat.not_lt_zero _)
 | 0,k,t,M+1,o,hk,ht,hc,_=>⟨t,o,ht,hc,rfl⟩
 | n+1,k,t,M+1,o,hk,ht,hc,hL'=>by
  obtain ⟨c,hc1,hc2⟩:=BY (code / 5 / 11 ^ k % 11) (Nat.mod_lt _ (by decide))
  obtain ⟨t',o',g1,g2,g3⟩:=vH hcode (v1:=v1) (v3:=v3) n (k+1) (t++[c]) M (some (.int (k:Nat))) (by omega) (by rw [List.length_append,ht]; rfl) (fun x hx=>(List.mem_append.mp hx).elim (hc x) fun hx=>List.mem_singleton.mp hx ▸ hc2) (Nat.lt_of_succ_lt_succ hL')
  exact ⟨t',o',by omega,g2,Ez hcode (by omega) hc1 (by omega) g3⟩
theorem qL {k M:Nat} {w:PV} {r xs:List PV} {S S' S'':ah} (d:aa (af L) N aV [.loc 0,.int 3] S=some (.int k,S'))
  (h:compLoop (fun w12=>Tx.run ((.bnd (.bnd (.bnd (.v (aa (af L) N aV [.loc 0,(.int 3)])) fun a16=>(.b (aj .Eq a16 (.int 2)))) fun t15=>.br t15 (.ret true) (.ret false)) fun c14=>.br c14 (.ret (some w12)) (.ret none)))) M (.items r) S'=some (xs,S'')) :
  compLoop (fun w12=>Tx.run ((.bnd (.bnd (.bnd (.v (aa (af L) N aV [.loc 0,(.int 3)])) fun a16=>(.b (aj .Eq a16 (.int 2)))) fun t15=>.br t15 (.ret true) (.ret false)) fun c14=>.br c14 (.ret (some w12)) (.ret none)))) (M+1) (.items (w::r)) S=some (bif decide (k=2) then w::xs else xs,S''):=by
 have g:aj .Eq (.int k) (.int 2) S'=some (decide ((k:Int)=2),S'):=rfl
 by_cases hk:k=2
 ·rw [di hk]
  rw [di (show (k:Int)=2 by omega)] at g
  refine jF (x:=w) ?_ h
  refine ar rfl ?_ ?_ <;> fail "go"
 ·rw [dn hk]
  rw [dn (show ¬ (k:Int)=2 by omega)] at g
  refine qX ?_ h
  refine ar rfl ?_ ?_ <;> fail "go"
theorem E9 (hL:4200000≤L) (ns:List Int) (hns:ns.length≤63):∃ σ',aa (af L) (N+100) Fw [.frz (ns.map .int)] []=some (.bool true,σ'):=by
 obtain ⟨L,rfl⟩:∃ M,L=M+4:=⟨L-4,by omega⟩
 have hn24:(ns.take 24).length≤1000:=Nat.le_trans (List.length_take_le ..) (by decide)
 have s1:aS (.frz (ns.map .int)) .none (.int 24) []=some (.frz ((ns.take 24).map .int),[]):=by
  rw [wg]
  show guard (Nat.ble (ns.map PV.int).length lim) (ret (PV.frz ((ns.map PV.int).take 24))) []=_
  rw [List.length_map,aO hns (by decide),List.map_take]; rfl
 generalize ns.take 24=ms at hn24 s1
 have s2:Ce [.frz (ms.map .int)] []=some (.int ms.sum,[]):=by
  rw [IE,Bo]
  show guard (Nat.ble ms.length 1000) _ _=_
  rw [Nat.ble_eq_true_of_le hn24]; rfl
 have s3:aZ .Mod (.int ms.sum) (.int 997) []=some (.int (ms.sum % 997),[]):=rfl
 generalize ms.sum % 997=seed at s3
 have s4:wX [.frz (ms.map .int),.int 0,.int seed,.int 0] []=some (.loc 0,co ms 0 seed 0):=rfl
 obtain ⟨k1,_,d1⟩:=f8 (L:=L+4) (N:=N+98) (spot:=0) (seed:=seed) (u:=0) (m:=3) (by decide) (by decide) hn24
 obtain ⟨k2,_,d2⟩:=f8 (L:=L+4) (N:=N+98) (spot:=1) (seed:=seed) (u:=0) (m:=3) (by decide) (by decide) hn24
 obtain ⟨k3,_,d3⟩:=f8 (L:=L+4) (N:=N+98) (spot:=2) (seed:=seed) (u:=0) (m:=3) (by decide) (by decide) hn24
 obtain ⟨code,hcode,d4⟩:=f8 (L:=L+4) (N:=N+98) (spot:=3) (seed:=seed) (u:=0) (m:=73205) (by decide) (by decide) hn24
 have d4:aa (af (L+4)) (N+99) aV [.loc 0,.int 73205] (co ms 3 seed 0)=some (.int code,co ms 4 seed 0):=d4
 have i1:ce (.str [105,109,115]) (co ms 0 seed 0)=some (.items [.str [105],.str [109],.str [115]],co ms 0 seed 0):=rfl
 have hc:=qL (w:=.str [105]) d1 (qL (w:=.str [109]) d2 (qL (w:=.str [115]) (M:=L+1) d3 lk))
 rw [show (bif decide (k1=2) then PV.str [105]::(bif decide (k2=2) then PV.str [109]::(bif decide (k3=2) then [PV.str [115]] else []) else bif decide (k3=2) then [PV.str [115]] else []) else bif decide (k2=2) then PV.str [109]::(bif decide (k3=2) then [PV.str [115]] else []) else bif decide (k3=2) then [PV.str [115]] else [])=wn (decide (k1=2)) (decide (k2=2)) (decide (k3=2)) by
  cases decide (k1=2) <;> cases decide (k2=2) <;> cases decide (k3=2) <;> rfl] at hc
 generalize decide (k1=2)=b1 at hc
 generalize decide (k2=2)=b2 at hc
 generalize decide (k3=2)=b3 at hc
 have f1:=tL (fi:=b1) (fm:=b2) (fs:=b3) (τ:=co ms 3 seed 0)
 have f2:=q9 (fi:=b1) (fm:=b2) (fs:=b3) (c:=aa (af (L+4)) (N+99)) (τ:=co ms 3 seed 0)
 have p1:aZ .Pow (.int 11) (.int 4) (co ms 3 seed 0)=some (.int 14641,co ms 3 seed 0):=rfl
 have p2:aZ .Mult (.int 14641) (.int 5) (co ms 3 seed 0)=some (.int 73205,co ms 3 seed 0):=rfl
 have p3:aZ .Mod (.int code) (.int 5) (co ms 4 seed 0)=some (.int (code % 5:Nat),co ms 4 seed 0):=Cc (y:=5) (by decide)
 have p4:=tS (τ:=co ms 4 seed 0) (k:=code % 5) (by omega)
 have p5:=uq (τ:=co ms 4 seed 0) (k:=code % 5) (by omega)
 obtain ⟨t,o,ht,hal,e1⟩:=vH (L:=L+4) (N:=N+99) (σ:=co ms 4 seed 0) (v1:=.frz (ns.map .int)) (v3:=.str (aX b1 b2 b3)) hcode (code % 5) 0 [] (L+4) none (by omega) rfl (fun _ h=>nomatch h) (by omega)
 obtain ⟨σ',e2⟩:=FV (N:=N) hL hn24 (seed:=seed) (spot:=4) (by decide) (C:=⟨t,b1,b2,b3⟩) ⟨show t.length≤4 by omega,fun c hc=>wa (hal c hc)⟩ hal (v1:=.frz (ns.map .int)) (v5:=.int code) (o6:=o)
 have e3:cJ (p0 (L+4) (N+99)) (lP (L+4) (N+99)) (L+4) (.items (steps 0 1 (code % 5))) (tj (L+4) (N+99) (.frz (ns.map .int)) (.str (aX b1 b2 b3)) (.int code) [] none) (co ms 4 seed 0)=some (.bool true,σ'):=e1.trans e2
 clear e1 e2 hcode d1 d2 d3 ht hal hL hns hn24
 refine ⟨σ',?_⟩
 refine ar (JR ..) ?_ ?_ <;> fail "go"
end
end
end
set_option tactic.hygienic true
section
open PySem PySem.W PyProof.Rows
theorem tx:∀ {ps:List Str} {ws:List Value} {x:Str},ps.length≤ws.length→x ∈ ps→∃ v,(ps.zip ws).lookup x=some v
 | [],_,_,_,h=>by cases h
 | _::_,[],_,h,_=>by simp at h
 | p::ps,w::ws,x,h,hx=>by
  rw [List.zip_cons_cons,List.lookup_cons]
  by_cases e:x=p
  ·subst e; exact ⟨w,by rw [beq_self_eq_true]⟩
  ·have:(x == p)=false:=beq_eq_false_iff_ne.mpr e
   simp only [this]
   exact tx (by simpa using h) ((List.mem_cons.mp hx).resolve_left e)
theorem FZ:∀ {ps:List Str} {ws:List Value} {acc:List (Str × Value)},ps.Nodup→ps.length=ws.length→(∀ x ∈ ps,acc.lookup x=none) →
  ps.filterMap (fun n=>((acc++ps.zip ws).lookup n).map (n,·))=ps.zip ws
 | [],_,_,_,_,_=>by simp
 | _::_,[],_,_,h,_=>by simp at h
 | p::ps,w::ws,acc,hn,h,ha=>by
  have hn':=List.nodup_cons.mp hn
  have hp:(acc++(p,w)::ps.zip ws).lookup p=some w:=by
   rw [List.lookup_append,ha p (by simp),List.lookup_cons,beq_self_eq_true]; rfl
  have ih:=FZ (acc:=acc++[(p,w)]) hn'.2 (by simpa using h) (fun x hx=>by
   rw [List.lookup_append,ha x (by simp [hx]),List.lookup_cons]
   have:(x == p)=false:=beq_eq_false_iff_ne.mpr fun q=>hn'.1 (q ▸ hx)
   rw [this]; rfl)
  rw [List.zip_cons_cons,List.filterMap_cons]
  simp only [hp,Option.map_some]
  rw [List.append_assoc] at ih
  exact congrArg _ ih
theorem D_ {R:Type} {P:List Str} {ws:List Value} {Z Z2:Sem R} {F:Str × Value→List (Str × Value)→Sem (ForInStep (List (Str × Value)))} {K:List (Str × Value)→Sem R} (hl:ws.length=P.length) (hf:P.filter (fun n=>((P.zip ws).lookup n).isNone)=[]) :
  (if (decide (ws.length>P.length) && true)=true then Z
   else if (!((P.take (P.length-(List.drop (0-P.length) ([]:List Value)).length)).filter fun n=>((P.zip ws).lookup n).isNone).isEmpty)=true then Z2
   else forIn ((P.drop (P.length-(List.drop (0-P.length) ([]:List Value)).length)).zip (List.drop (0-P.length) ([]:List Value))) (P.zip ws) F >>= K)=K (P.zip ws):=by
 rw [if_neg (by rw [hl]; simp),List.drop_nil]
 show (if (!((P.take P.length).filter _).isEmpty)=true then Z2 else _)=_
 rw [List.take_length,hf,List.zip_nil_right]
 rfl
theorem Bc {fd:FuncData} {ps:List Str} {ws:List Value} (h1:fd.params.posonlyargs=[]) (h2:fd.params.args.map (·.arg)=ps) (h3:fd.params.vararg=none) (h4:fd.params.kwonlyargs=[]) (h5:fd.params.kwarg=none)
  (h6:fd.defaults=.none) (hn:ps.Nodup) (hl:ws.length=ps.length):bindArgs fd ⟨ws,[]⟩=pure (ps.zip ws):=by
 have hf:ps.filter (fun n=>((ps.zip ws).lookup n).isNone)=[]:=by
  rw [List.filter_eq_nil_iff]
  intro x hx
  obtain ⟨v,hv⟩:=tx (ws:=ws) (Nat.le_of_eq hl.symm) hx
  rw [hv]; exact Bool.false_ne_true
 have hp:pure ((ps++[]).filterMap fun n=>((ps.zip ws).lookup n).map (n,·))=(pure (ps.zip ws):Sem (List (Str × Value))):=by
  rw [List.append_nil]
  exact congrArg pure (FZ (acc:=[]) hn hl.symm fun Z Z=>rfl)
 obtain ⟨_,_,⟨_,_,_,_,_,_,_⟩,_,_,_,_,_,_,_,_,_,_,_,_⟩:=fd
 cases h1; cases h2; cases h3; cases h4; cases h5; cases h6
 refine Eq.trans ?_ hp
 exact D_ (K:=fun s=>pure ((_++[]).filterMap fun n=>(s.lookup n).map (n,·))) hl hf
theorem wQ {hb:Heap} {fd:FuncData} {fi:gA} (h1:fd.params.posonlyargs=[]) (h2:fd.params.args.map (·.arg)=fi.params) (h3:fd.params.vararg=none) (h4:fd.params.kwonlyargs=[]) (h5:fd.params.kwarg=none)
  (h6:fd.defaults=.none) (hd:fi.dflts=[]) (hn:jI fi.params=true):Bh hb fd fi:=by
 intro s ws vs b k hl e
 unfold CY at e
 have hlen:vs.length=fi.params.length∧b=fi.params.zip vs:=by
  split at e
  ·rename_i q; cases e; exact ⟨q,rfl⟩
  ·rw [hd,List.length_nil,Nat.add_zero] at e
   rename_i q
   rw [if_neg q] at e; cases e
 refine ⟨[],[],BindsTo.of_eq ?_,?_,?_,trivial⟩
 ·rw [List.append_nil]
  exact Bc h1 h2 h3 h4 h5 h6 (jl hn) (by omega)
 ·rw [List.append_nil]; omega
 ·rw [List.append_nil]; exact hlen.2
theorem lK {α:Type} {l:List α} {n:Nat} (h:l.length=n+1):∃ a r,l=a::r∧r.length=n:=by
 cases l with
 | nil=>first | exact bm h | exact bG h | exact dU h | exact eI h | exact nomatch h
 | cons a r=>exact ⟨a,r,rfl,Nat.succ.inj h⟩
theorem Ao {hb:Heap} {fd:FuncData} {fi:gA} {T:Addr} {o:Obj} {items:Array Value} {n:Nat} (hd:fd.defaults=.ref T) (ho:hb.get? T=some o) (hs:o.data=.seq items n) (hi:j_ items.toList fi.dflts) (h6:fi.params.length=6) (h5:fi.dflts.length=5)
  (p1:∀ a,∃ k,bindArgs fd ⟨[a],[]⟩=seqItems? fd.defaults >>= k∧k (some items)=pure (fi.params.zip (a::items.toList)))
  (p6:∀ a b c d e f,∃ k,bindArgs fd ⟨[a,b,c,d,e,f],[]⟩=seqItems? fd.defaults >>= k∧k (some items)=pure (fi.params.zip [a,b,c,d,e,f])):Bh hb fd fi:=by
 intro s ws vs b k hl e
 unfold CY at e
 split at e
 ·rename_i q
  cases e
  rw [h6] at q
  obtain ⟨a0,r1,rfl,q1⟩:=lK (hl.trans q)
  obtain ⟨a1,r2,rfl,q2⟩:=lK q1
  obtain ⟨a2,r3,rfl,q3⟩:=lK q2
  obtain ⟨a3,r4,rfl,q4⟩:=lK q3
  obtain ⟨a4,r5,rfl,q5⟩:=lK q4
  obtain ⟨a5,r6,rfl,q6⟩:=lK q5
  obtain rfl:=List.length_eq_zero_iff.mp q6
  obtain ⟨kk,e1,e2⟩:=p6 a0 a1 a2 a3 a4 a5
  exact ⟨[],[],BindsTo.of_defaults hd (k _ _ ho) hs e1 e2,h6.symm,by rw [List.append_nil],trivial⟩
 ·split at e
  ·rename_i q
   cases e
   rw [h6,h5] at q
   obtain ⟨a0,r1,rfl,q1⟩:=lK (hl.trans (show vs.length=0+1 from by omega))
   obtain rfl:=List.length_eq_zero_iff.mp q1
   obtain ⟨kk,e1,e2⟩:=p1 a0
   have h5':items.toList.length=5:=by
    have:∀ {vs:List Value} {ps:List PV},j_ vs ps→vs.length=ps.length:=by
     intro vs
     induction vs with
     | nil=>intro ps h; cases ps <;> first | rfl | exact h.elim
     | cons v vs ih=>intro ps h; cases ps with
      | nil=>exact h.elim
      | cons p ps=>rw [List.length_cons,List.length_cons,ih h.2]
    rw [this hi,h5]
   exact ⟨items.toList,fi.dflts,BindsTo.of_defaults hd (k _ _ ho) hs e1 e2,by rw [h6,List.length_append,h5']; rfl,rfl,hi⟩
  ·cases e
end
section
open PySem PySem.W PyProof.Rows
structure Gw where
 ty:Value
 body:FuncBody
 scope:Scope
 clos:List (Str × Addr)
 glob:Addr
 blt:Addr
 code:Bool
 pos:List Arg
 names:List Str
 va:Option Arg
 ko:List Arg
 kw:Option Arg
noncomputable def xx (K:Frag) (a:Addr):Option Gw:=match K.lookup a with
 | some ⟨c,_,.func fd,_⟩=>some ⟨c,fd.body,fd.scope,fd.closure,fd.globals,fd.builtins,codeIn K fd.code fd.qualname,fd.params.posonlyargs,fd.params.args.map (·.arg),fd.params.vararg,fd.params.kwonlyargs,fd.params.kwarg⟩
 | _=>none
noncomputable def IN (i:Nat):Option Gw:=some ⟨.type "function",.stmts (aB i).body,(aB i).scope,[],mainGlobals,builtinsNs,true,[],(aB i).params,none,[],none⟩
noncomputable def BU (K:Frag) (a:Addr):Bool:=match K.lookup a with
 | some ⟨_,_,.func fd,_⟩=>match fd.defaults with
  | .none=>true
  | _=>false
 | _=>false
inductive lg (K:Frag):Nat→List Addr→Prop
 | nil (i:Nat):lg K i []
 | cons {i:Nat} {a:Addr} {l:List Addr}:xx K a=IN i→(i == kK || BU K a)=true→lg K (i+1) l→lg K i (a::l)
theorem lg.get {K:Frag} {l:List Addr} {i:Nat} (h:lg K i l):∀ {j:Nat} {a:Addr},l[j]?=some a→xx K a=IN (i+j)∧(i+j == kK || BU K a)=true:=by
 induction h with
 | nil=>intro j a e; simp at e
 | @cons i b l h1 h2 _ ih =>
  intro j a e
  cases j with
  | zero=>simp at e; subst e; exact ⟨h1,h2⟩
  | succ j =>
   have:=ih (j:=j) (a:=a) (by simpa using e)
   rw [show i+(j+1)=i+1+j by omega]; exact this
theorem GL:((List.range 106).all fun i=>HF (aB i) && (i == kK || (aB i).dflts.isEmpty))=true:=by kernel_rfl
theorem tJ {K:Frag} {a:Addr} {i:Nat} (s:xx K a=IN i):∃ d fd sl,K.lookup a=some ⟨.type "function",d,.func fd,sl⟩∧fd.body=.stmts (aB i).body∧fd.scope=(aB i).scope∧fd.closure=[]∧fd.globals=mainGlobals∧fd.builtins=builtinsNs ∧
  codeIn K fd.code fd.qualname=true∧fd.params.posonlyargs=[]∧fd.params.args.map (·.arg)=(aB i).params∧fd.params.vararg=none∧fd.params.kwonlyargs=[]∧fd.params.kwarg=none:=by
 unfold xx at s
 split at s
 ·rename_i c d fd sl hk
  unfold IN at s
  injection s with s
  injection s with h1 h2 h3 h4 h5 h6 h7 h8 h9 h10 h11 h12
  subst h1
  exact ⟨d,fd,sl,hk,h2,h3,h4,h5,h6,h7,h8,h9,h10,h11,h12⟩
 ·cases s
structure C5 (K:Frag) (a:Addr):Prop where
 ex:∃ (fd:FuncData) (T:Addr) (o:Obj) (items:Array Value) (n:Nat),(∃ c d sl,K.lookup a=some ⟨c,d,.func fd,sl⟩)∧fd.defaults=.ref T∧K.lookup T=some o∧o.data=.seq items n∧j_ items.toList (aB kK).dflts ∧
  (∀ a,∃ k,bindArgs fd ⟨[a],[]⟩=seqItems? fd.defaults >>= k∧k (some items)=pure ((aB kK).params.zip (a::items.toList))) ∧
  (∀ a b c d e f,∃ k,bindArgs fd ⟨[a,b,c,d,e,f],[]⟩=seqItems? fd.defaults >>= k∧k (some items)=pure ((aB kK).params.zip [a,b,c,d,e,f]))
theorem zU:(aB kK).params.length=6∧(aB kK).dflts.length=5:=⟨by kernel_rfl,by kernel_rfl⟩
theorem II {K:Frag} {hb:Heap} {l:List Addr} {i:Nat} {a:Addr} (X:K.In hb) (A:lg K 0 l) (L:∀ a,l[kK]?=some a→C5 K a) (e:l[i]?=some a) (hi:i<106):JK hb a (aB i):=by
 obtain ⟨s,hd⟩:=A.get e
 rw [Nat.zero_add] at s hd
 have ok:=List.all_eq_true.mp GL i (List.mem_range.mpr hi)
 rw [Bool.and_eq_true] at ok
 obtain ⟨d,fd,sl,hk,h2,h3,h4,h5,h6,h7,h8,h9,h10,h11,h12⟩:=tJ s
 refine ⟨⟨fd,_,X _ _ hk,rfl,h2,h3,h4,h5,h6,codeRec_of X h7,?_⟩,ok.1⟩
 by_cases q:i=kK
 ·subst q
  obtain ⟨fd',T,o,items,n,⟨c',d',sl',hk'⟩,e1,e2,e3,e4,e5,e6⟩:=(L a e).ex
  rw [hk] at hk'
  obtain rfl:fd=fd':=by injection hk' with z; injection z with _ _ z; injection z
  exact Ao e1 (X _ _ e2) e3 e4 zU.1 zU.2 e5 e6
 ·have q':(i == kK)=false:=beq_eq_false_iff_ne.mpr q
  rw [q',Bool.false_or] at hd
  have od:=ok.2
  rw [q',Bool.false_or,List.isEmpty_iff] at od
  have hdn:fd.defaults=.none:=by
   unfold BU at hd
   rw [hk] at hd
   dsimp only at hd
   split at hd
   ·assumption
   ·cases hd
  have hdist:jI (aB i).params=true:=by
   have:=ok.1
   unfold HF at this
   simp only [Bool.and_eq_true] at this
   exact this.1.1.1.1.1
  exact wQ h8 h9 h10 h11 h12 hdn od hdist
noncomputable def m6 (l:List Addr) (x:Str):Option Addr:=match x.cps.toList with
 | [i]=>l[i]?
 | _=>none
noncomputable def JT:Option (Option Value)→Bool
 | some none=>true
 | _=>false
noncomputable def Cr (K:Frag) (FA:List Addr) (C:Addr) (n f:Str):Bool:=match m6 FA f,findIn K (.ref C) n with
 | some a,some (some (.ref b))=>Nat.beq b a
 | _,_=>false
structure Cm (K:Frag) (FA:List Addr) (C:Addr) (ci:gN):Prop where
 get:findIn K (.ref C) "__getattribute__"=some (some (.builtin "object.__getattribute__"))
 miss:findIn K (.ref C) "__getattr__"=some none
 set:findIn K (.ref C) "__setattr__"=some (some (.builtin "object.__setattr__"))
 over:plainOver K C=true
 dict:hasDictIn K C=true
 attr:(ci.attrs.all fun a=>JT (findIn K (.ref C) a))=true
 makes:makesIn K C=true
 keep:keepIn K (.ref C)=true
 init:Cr K FA C "__init__" ci.init=true
 meth:(ci.meths.all fun p=>Cr K FA C p.1 p.2)=true
theorem wd {K:Frag} {FA:List Addr} {C:Addr} {n f:Str} (h:Cr K FA C n f=true):∃ a,m6 FA f=some a∧findIn K (.ref C) n=some (some (.ref a)):=by
 unfold Cr at h
 split at h
 ·rename_i a b e1 e2
  have:=Nat.eq_of_beq_eq_true h
  subst this
  exact ⟨_,e1,e2⟩
 ·cases h
theorem GH {o:Option (Option Value)} (h:JT o=true):o=some none:=by
 unfold JT at h
 split at h
 ·rfl
 ·cases h
theorem pz {l:List Addr} {x:Str} {a:Addr} (h:m6 l x=some a):∃ i,x.cps.toList=[i]∧l[i]?=some a:=by
 unfold m6 at h
 split at h
 ·rename_i i e; exact ⟨i,e,h⟩
 ·cases h
structure Lm (K:Frag) (FA CA:List Addr):Prop where
 all:∀ i C ci,CA[i]?=some C→tq [i]=some ci→Cm K FA C ci
theorem lg.typed {K:Frag} {l:List Addr} {x:Str} {a:Addr} (A:lg K 0 l) (e:m6 l x=some a):typeIn K (.ref a)=some (.type "function"):=by
 obtain ⟨i,_,e⟩:=pz e
 obtain ⟨d,fd,sl,hk,_⟩:=tJ (A.get e).1
 show (K.lookup a).map (·.cls)=_
 rw [hk]; rfl
theorem lg.keeps {K:Frag} {l:List Addr} {x:Str} {a:Addr} (A:lg K 0 l) (e:m6 l x=some a):keepIn K (.ref a)=true:=by
 obtain ⟨i,_,e⟩:=pz e
 obtain ⟨d,fd,sl,hk,_⟩:=tJ (A.get e).1
 unfold keepIn
 dsimp only
 rw [hk]
theorem Am {l:List (Str × Str)} {n f:Str} (h:l.lookup n=some f):(n,f) ∈ l:=by
 induction l with
 | nil=>cases h
 | cons p l ih =>
  obtain ⟨m,g⟩:=p
  rw [List.lookup_cons] at h
  by_cases e:n=m
  ·subst e; rw [beq_self_eq_true] at h; cases h; exact List.mem_cons_self
  ·have:(n == m)=false:=beq_eq_false_iff_ne.mpr e
   rw [this] at h; exact List.mem_cons_of_mem _ (ih h)
end
section
open PySem PySem.W PyProof.Rows
noncomputable def EN (K:Frag) (x:Str):Option (Option Value):=(K.lookup mainGlobals).bind (lookIn x)
theorem sX {K:Frag} {hb:Heap} {mg:Str→Option Value} {x:Str} {r:Option Value} (X:K.In hb) (N:hb.Ns mainGlobals mg) (e:EN K x=some r):mg x=r:=by
 obtain ⟨o,ho,e⟩:=Option.bind_eq_some_iff.mp e
 exact Option.some.inj ((wb N (X _ _ ho)).symm.trans e)
noncomputable def D9:Value→Option Addr
 | .ref a=>some a
 | _=>none
noncomputable def JV:Value→Option (Str × Tok)
 | .str x t=>some (x,t)
 | _=>none
noncomputable def Ld:Value→Option Int
 | .int i _=>some i
 | _=>none
noncomputable def Jd:Value→Option Bool
 | .bool b=>some b
 | _=>none
noncomputable def Iv:Value→Option String
 | .type s=>some s
 | _=>none
noncomputable def Nq:Value→Option String
 | .builtin s=>some s
 | _=>none
noncomputable def KE:Data→Option (Array Value)
 | .seq vs _=>some vs
 | _=>none
noncomputable def Lo:Data→Option (Array DictEntry)
 | .dict arr _=>some arr
 | _=>none
theorem qD {v:Value} {a:Addr} (h:D9 v=some a):v=.ref a:=by
 cases v with
 | ref b=>exact congrArg _ (Option.some.inj h)
 | _=>exact bm h
theorem GX {v:Value} {x:Str} {t:Tok} (h:JV v=some (x,t)):v=.str x t:=by
 cases v with
 | str y u=>rw [show y=x from Jv h,show u=t from I7 h]
 | _=>exact bm h
theorem Gn {v:Value} {i:Int} (h:Ld v=some i):∃ t,v=.int i t:=by
 cases v with
 | int j t=>exact ⟨t,congrArg (Value.int · t) (Option.some.inj h)⟩
 | _=>exact bm h
theorem Dt {v:Value} {b:Bool} (h:Jd v=some b):v=.bool b:=by
 cases v with
 | bool c=>exact congrArg _ (Option.some.inj h)
 | _=>exact bm h
theorem tP {v:Value} {s:String} (h:Iv v=some s):v=.type s:=by
 cases v with
 | type c=>exact congrArg _ (Option.some.inj h)
 | _=>exact bm h
theorem Hu {v:Value} {s:String} (h:Nq v=some s):v=.builtin s:=by
 cases v with
 | builtin c=>exact congrArg _ (Option.some.inj h)
 | _=>exact bm h
theorem y6 {d:Data} {vs:Array Value} (h:KE d=some vs):∃ n,d=.seq vs n:=by
 cases d with
 | seq ws n=>exact ⟨n,congrArg (Data.seq · n) (Option.some.inj h)⟩
 | _=>exact bm h
theorem Fa {d:Data} {vs:Array DictEntry} (h:Lo d=some vs):∃ n,d=.dict vs n:=by
 cases d with
 | dict ws n=>exact ⟨n,congrArg (Data.dict · n) (Option.some.inj h)⟩
 | _=>exact bm h
theorem eY {α:Type} {o:Option α} {p:α→Bool} (h:o.any p=true):∃ a,o=some a∧p a=true:=(Option.any_eq_true p o).mp h
noncomputable def GN {α β:Type} (f:α→β→Bool) (vs:List α) (ps:List β):Bool:=Nat.beq vs.length ps.length && (vs.zip ps).all fun q=>f q.1 q.2
theorem yW {α β:Type} {f:α→β→Bool} {P:List α→List β→Prop} (h0:P [] []) (h:∀ v p vs ps,f v p=true→P vs ps→P (v::vs) (p::ps)) {ps:List β}:∀ {vs:List α},GN f vs ps=true→P vs ps:=by
 induction ps with
 | nil =>
  intro vs e
  cases vs with
  | nil=>exact h0
  | cons _ _=>exact dU e
 | cons p ps ih =>
  intro vs e
  cases vs with
  | nil=>exact dU e
  | cons v vs =>
   have e:=Bool.and_eq_true_iff.mp e
   have e2:=Bool.and_eq_true_iff.mp e.2
   exact h v p vs ps e2.1 (ih (Bool.and_eq_true_iff.mpr ⟨e.1,e2.2⟩))
noncomputable def xf (t:String) (o:Obj):Bool:=decide (Iv o.cls=some t) && (o.dict.isNone && o.slots.isEmpty)
noncomputable def MQ (o:Option Addr) (v:Value):Bool:=(D9 v).any fun a=>o.any fun b=>Nat.beq a b
noncomputable def qC (K:Frag) (FA CA:List Addr):Nat→Value→PV→Bool:=Nat.rec (fun Z Z=>false) fun _ ih v p=>p.casesOn false (fun b=>decide (Jd v=some b)) (fun i=>decide (Ld v=some i)) (fun l=>(JV v).any fun q=>decide (l=cs q.1))
 (fun l=>(D9 v).any fun a=>(K.lookup a).any fun o=>decide (Iv o.cls=some "tuple") && (KE o.data).any fun vs=>GN ih vs.toList l)
 (fun l=>(D9 v).any fun a=>(K.lookup a).any fun o=>xf "list" o && (KE o.data).any fun vs=>GN ih vs.toList l) (fun Z=>false) (fun Z Z Z=>false) (fun Z=>false) (fun x=>MQ (m6 FA x) v) (fun x=>MQ (m6 CA x) v) (fun Z=>false) (fun Z=>false)
theorem uM {t:String} {o:Obj} (h:xf t o=true):o={ cls:=.type t,dict:=none,data:=o.data,slots:=#[] }:=by
 have h:=Bool.and_eq_true_iff.mp h
 have h2:=Bool.and_eq_true_iff.mp h.2
 obtain ⟨c,d,a,s⟩:=o
 rw [show c=.type t from tP (of_decide_eq_true h.1),show d=none from Option.isNone_iff_eq_none.mp h2.1,show s=#[] from Array.isEmpty_iff.mp h2.2]
theorem Da {o:Option Addr} {v:Value} (h:MQ o v=true):∃ a,v=.ref a∧o=some a:=by
 obtain ⟨a,h1,h⟩:=eY h
 obtain ⟨b,h2,h⟩:=eY h
 exact ⟨a,qD h1,Nat.eq_of_beq_eq_true h ▸ h2⟩
section
variable {X:Fx} {FA CA:List Addr}
theorem yE (P:X.K.In X.hb) (hf:∀ x,X.fa x=m6 FA x) (hc:∀ x,X.ca x=m6 CA x) (n:Nat):∀ v p,qC X.K FA CA n v p=true→uT X (view [] X.hb []) p v:=by
 induction n with
 | zero=>exact fun _ _ e=>dU e
 | succ n ih =>
  intro v p e
  have nf:∀ a,¬ oa [] [] a:=fun a q=>q.elim (fun z=>(by first | exact bm z | exact bG z | exact dU z | exact eI z | exact nomatch z)) nE
  have al:∀ {vs l},GN (qC X.K FA CA n) vs l=true→gf X (view [] X.hb []) l vs:=fun e=>yW (P:=fun vs l=>gf X (view [] X.hb []) l vs) rfl (fun v p vs ps h r=>⟨v,vs,rfl,ih v p h,r⟩) e
  cases p with
  | bool b=>exact Dt (of_decide_eq_true e)
  | int i=>exact Gn (of_decide_eq_true e)
  | str l =>
   obtain ⟨q,h1,h2⟩:=eY e
   rw [of_decide_eq_true h2]
   exact ⟨q.2,GX h1⟩
  | tup l =>
   obtain ⟨a,h1,e⟩:=eY e
   obtain ⟨o,h2,e⟩:=eY e
   have e:=Bool.and_eq_true_iff.mp e
   obtain ⟨vs,h3,e4⟩:=eY e.2
   obtain ⟨m,h3⟩:=y6 h3
   exact ⟨a,o,vs,m,qD h1,⟨P _ _ h2,.inl ⟨_,_,h3⟩,nf _⟩,tP (of_decide_eq_true e.1),h3,al e4⟩
  | frz l =>
   obtain ⟨a,h1,e⟩:=eY e
   obtain ⟨o,h2,e⟩:=eY e
   have e:=Bool.and_eq_true_iff.mp e
   obtain ⟨vs,h3,e4⟩:=eY e.2
   obtain ⟨m,h3⟩:=y6 h3
   have q:=uM e.1
   rw [h3] at q
   exact ⟨a,vs,m,qD h1,⟨(P _ _ h2).trans (congrArg some q),.inl ⟨_,_,rfl⟩,nf _⟩,al e4⟩
  | fn x=>exact (Da e).imp fun a h=>⟨h.1,(hf x).trans h.2⟩
  | cls x=>exact (Da e).imp fun a h=>⟨h.1,(hc x).trans h.2⟩
  | _=>exact dU e
end
noncomputable def oQ (arr:List DictEntry):List (Str × Tok × Value):=arr.filterMap fun e=>(JV e.key).map fun q=>(q.1,q.2,e.val)
noncomputable def MM (w:World) (e:Str × Tok × Value):DictEntry:=⟨hashStr w e.1,.str e.1 e.2.1,e.2.2⟩
noncomputable def Na (K:Frag) (a:Addr):Option (Array DictEntry):=(K.lookup a).bind fun o=>(xf "dict" o).rec none (Lo o.data)
noncomputable def xV (K:Frag) (a:Addr):List DictEntry:=((Na K a).map Array.toList).getD []
noncomputable def xU (K:Frag) (w:World) (a:Addr):Prop:=xV K a=(oQ (xV K a)).map (MM w)
noncomputable def Ky (K:Frag) (FA CA:List Addr) (a:Addr) (es:List (List Nat × PV)):Bool :=
 (Na K a).isSome && GN (fun q p=>decide (p.1=cs q.1) && qC K FA CA 4 q.2.2 p.2) (oQ (xV K a)) es && jI ((oQ (xV K a)).map (·.1)) && !(Nat.beq a sysModules)
theorem E_ {prog:Program} {w:World} (l:List (Str × Tok × Value)):Pairs (strKind prog w) (l.map (MM w)) (l.map fun e=>(e.1,e.2.2)):=by
 induction l with
 | nil=>exact .nil
 | cons q l ih=>exact .cons (strKind_is _ _ q.1 q.2.1) rfl ih
theorem xq {x y:Str} {v:Value} {l:List (Str × Value)}:valueAt ((x,v)::l) y=if cs y=cs x then some v else valueAt l y:=by
 by_cases e:y=x
 ·rw [if_pos (congrArg cs e)]; simp [valueAt,e]
 ·rw [if_neg (fun q=>e (AP.mp q))]; simp [valueAt,Ne.symm e]
theorem Hs {X:Fx} {FA CA:List Addr} {a:Addr} {es:List (List Nat × PV)} (P:X.K.In X.hb) (hf:∀ x,X.fa x=m6 FA x) (hc:∀ x,X.ca x=m6 CA x) (h:Ky X.K FA CA a es=true) (hh:xU X.K X.w a):uT X (view [] X.hb []) (.dct es) (.ref a):=by
 unfold Ky at h
 rw [Bool.and_eq_true,Bool.and_eq_true,Bool.and_eq_true] at h
 obtain ⟨⟨⟨h1,h2⟩,h3⟩,h4⟩:=h
 obtain ⟨arr,ha⟩:=Option.isSome_iff_exists.mp h1
 have hd:xV X.K a=arr.toList:=by unfold xV; rw [ha]; rfl
 obtain ⟨o,hk,ha⟩:=Option.bind_eq_some_iff.mp ha
 cases hp:xf "dict" o with
 | false=>rw [hp] at ha; exact bm ha
 | true =>
  rw [hp] at ha
  obtain ⟨ep,ha⟩:=Fa ha
  have q:=uM hp
  rw [ha] at q
  have tie:u_ X (view [] X.hb []) es (valueAt ((oQ (xV X.K a)).map fun e=>(e.1,e.2.2))):=yW (P:=fun vs l=>u_ X (view [] X.hb []) l (valueAt (vs.map fun e=>(e.1,e.2.2)))) (fun Z=>rfl) (fun v p vs ps h r =>
   have h:=Bool.and_eq_true_iff.mp h
   ⟨v.2.2,_,yE P hf hc 4 _ _ h.2,r,fun y=>(of_decide_eq_true h.1).symm ▸ xq⟩) h2
  unfold xU at hh
  rw [hd] at hh tie h3
  refine ⟨a,_,rfl,fun q=>?_,Heap.DictOf.mapOf (kvs:=(oQ arr.toList).map fun e=>(e.1,e.2.2)) ⟨_,arr,ep,(P _ _ hk).trans (congrArg some q),⟨rfl,rfl,rfl⟩,rfl,fun e he=>?_,?_,?_⟩,tie⟩
  ·rw [q] at h4; exact dU h4
  ·have:=Array.mem_toList_iff.mpr he
   rw [hh] at this
   obtain ⟨q,_,rfl⟩:=List.mem_map.mp this
   exact ⟨q.1,strKind_is _ _ _ _,rfl⟩
  ·have:=E_ (prog:=X.prog) (w:=X.w) (oQ arr.toList)
   rw [← hh] at this; exact this
  ·rw [List.map_map]; exact jl h3
noncomputable def MV (K:Frag) (x:Str):Bool:=(EN K x).any Option.isNone
noncomputable def gV (K:Frag) (x:Str) (f:Value→Bool):Bool:=(EN K x).any fun o=>o.any f
noncomputable def Nb (K:Frag) (FA CA:List Addr) (x:Str) (p:PV):Bool:=p.casesOn (gV K x fun v=>qC K FA CA 4 v p) (fun Z=>gV K x fun v=>qC K FA CA 4 v p) (fun Z=>gV K x fun v=>qC K FA CA 4 v p) (fun Z=>gV K x fun v=>qC K FA CA 4 v p) (fun Z=>gV K x fun v=>qC K FA CA 4 v p) (fun Z=>gV K x fun v=>qC K FA CA 4 v p)
 (fun es=>gV K x fun v=>(D9 v).any fun a=>Ky K FA CA a es) (fun Z Z Z=>gV K x fun v=>qC K FA CA 4 v p) (fun Z=>gV K x fun v=>qC K FA CA 4 v p) (fun Z=>gV K x fun v=>qC K FA CA 4 v p) (fun Z=>gV K x fun v=>qC K FA CA 4 v p)
 (fun i=>MV K x && (bootBuiltins x).any fun v=>decide (Nq v=some i)) (fun i=>MV K x && (bootBuiltins x).any fun v=>decide (Iv v=some i))
noncomputable def wj (p:PV):Bool:=p.casesOn false (fun Z=>false) (fun Z=>false) (fun Z=>false) (fun Z=>false) (fun Z=>false) (fun Z=>true) (fun Z Z Z=>false) (fun Z=>false) (fun Z=>false) (fun Z=>false) (fun Z=>false) (fun Z=>false)
noncomputable def Jr (f:Str→PV→Bool):GT→Bool:=GT.rec true fun _ _ x v _ a b=>a && (f x v && b)
noncomputable def DK:GT→List Str:=GT.rec [] fun _ _ x v _ a b=>a++((wj v).rec [] [x]++b)
theorem FJ {f:Str→PV→Bool} {h:Nat} {x:Str} {v:PV} {t:GT} (b:Jr f t=true) (e:t.find h x=some v):f x v=true∧(wj v=true→x ∈ DK t):=by
 induction t with
 | leaf=>exact bm e
 | node l h' y u r il ir =>
  have b:=Bool.and_eq_true_iff.mp b
  have b2:=Bool.and_eq_true_iff.mp b.2
  have up:(wj v=true→x ∈ DK l)∨(wj v=true→x ∈ DK r)→wj v=true→x ∈ DK (.node l h' y u r):=fun q d=>List.mem_append.mpr (q.imp (fun q=>q d) fun q=>List.mem_append.mpr (.inr (q d)))
  unfold GT.find at e
  cases hb:Nat.beq h h' with
  | true =>
   rw [hb] at e
   dsimp only at e
   cases hd:decide (y=x) with
   | true =>
    rw [hd] at e
    cases Option.some.inj e
    cases of_decide_eq_true hd
    refine ⟨b2.1,fun d=>List.mem_append.mpr (.inr (List.mem_append.mpr (.inl ?_)))⟩
    rw [d]; exact .head _
   | false=>rw [hd] at e; exact bm e
  | false =>
   rw [hb] at e
   dsimp only at e
   cases hl:Nat.ble h h' with
   | true=>rw [hl] at e; exact ⟨(il b.1 e).1,up (.inl (il b.1 e).2)⟩
   | false=>rw [hl] at e; exact ⟨(ir b2.2 e).1,up (.inr (ir b2.2 e).2)⟩
noncomputable def IA (K:Frag) (x:Str):Addr:=(((EN K x).bind id).bind D9).getD 0
inductive nG (K:Frag) (w:World):List Str→Prop
 | nil:nG K w []
 | cons {x:Str} {l:List Str}:xV K (IA K x)=(oQ (xV K (IA K x))).map (MM w)→nG K w l→nG K w (x::l)
theorem nG.get {K:Frag} {w:World} {l:List Str} (h:nG K w l) {x:Str} (hx:x ∈ l) {a:Addr} (e:EN K x=some (some (.ref a))):xU K w a:=by
 induction h with
 | nil=>first | exact bm hx | exact bG hx | exact dU hx | exact eI hx | exact nomatch hx
 | @cons y l h1 _ ih =>
  refine (List.mem_cons.mp hx).elim (fun q=>?_) ih
  have:IA K x=a:=by unfold IA; rw [e]; rfl
  rw [← q,this] at h1; exact h1
theorem FR {K:Frag} {x:Str} {f:Value→Bool} (h:gV K x f=true):∃ v,EN K x=some (some v)∧f v=true:=by
 obtain ⟨o,h1,h⟩:=eY h
 obtain ⟨v,h2,h⟩:=eY h
 exact ⟨v,h2 ▸ h1,h⟩
theorem IZ {X:Fx} {FA CA:List Addr} {x:Str} {p:PV} (P:X.K.In X.hb) (hf:∀ x,X.fa x=m6 FA x) (hc:∀ x,X.ca x=m6 CA x) (N:X.hb.Ns mainGlobals X.mg) (hb:∀ x:Str,x≠"__name__"→X.mb x=bootBuiltins x) (hnm:∃ v,EN X.K "__name__"=some (some v))
  (g:Nb X.K FA CA x p=true) (hd:wj p=true→∀ a,EN X.K x=some (some (.ref a))→xU X.K X.w a):∃ v,uT X (view [] X.hb []) p v∧(X.mg x=some v∨(X.mg x=none∧X.mb x=some v)):=by
 have val:gV X.K x (fun v=>qC X.K FA CA 4 v p)=true→∃ v,uT X (view [] X.hb []) p v∧(X.mg x=some v∨(X.mg x=none∧X.mb x=some v)):=fun g=>(FR g).imp fun v h=>⟨yE P hf hc 4 v p h.2,.inl (sX P N h.1)⟩
 have no:∀ {f:Value→Bool},(MV X.K x && (bootBuiltins x).any f)=true→∃ v,f v=true∧X.mg x=none∧X.mb x=some v:=fun g=>by
  have g:=Bool.and_eq_true_iff.mp g
  obtain ⟨o,h1,h2⟩:=eY g.1
  obtain ⟨v,h3,h4⟩:=eY g.2
  have h1:EN X.K x=some none:=Option.isNone_iff_eq_none.mp h2 ▸ h1
  refine ⟨v,h4,sX P N h1,(hb x fun q=>?_).trans h3⟩
  obtain ⟨u,hu⟩:=hnm
  rw [← q,h1] at hu
  exact bm (Option.some.inj hu)
 cases p with
 | dct es =>
  obtain ⟨v,h1,h⟩:=FR g
  obtain ⟨a,h2,h⟩:=eY h
  rw [qD h2] at h1
  exact ⟨.ref a,Hs P hf hc h (hd rfl a h1),.inl (sX P N h1)⟩
 | bi i=>exact (no g).imp fun v h=>⟨Hu (of_decide_eq_true h.1),.inr h.2⟩
 | ty i=>exact (no g).imp fun v h=>⟨tP (of_decide_eq_true h.1),.inr h.2⟩
 | _=>exact val g
end
section
open PySem PySem.W PyProof.Rows
theorem HB:DK C9=[⟨#[80,76,65,73,78,95,69,83,67,65,80,69,83]⟩,⟨#[80,79,83,73,88,95,82,65,78,71,69,83]⟩,⟨#[67,79,85,78,84,95,83,73,71,78,83]⟩]:=by kernel_rfl
structure FI (K:Frag) (w:World) (FA CA:List Addr):Prop where
 fns:lg K 0 FA
 len:CA.length=5
 lim:∀ a,FA[kK]?=some a→C5 K a
 cls:∀ i C ci,CA[i]?=some C→tq [i]=some ci→Cm K FA C ci
 tree:Jr (Nb K FA CA) C9=true
 hash:nG K w (DK C9)
 name:∃ v,EN K "__name__"=some (some v)
 law:∃ a,FA[105]?=some a∧EN K "law"=some (some (.ref a))
noncomputable def Ct (prog:Program) (w:World) (hb:Heap) (K:Frag) (mg mb:Str→Option Value) (FA CA:List Addr):Fx:=⟨prog,w,hb,K,mg,mb,m6 FA,m6 CA⟩
theorem rk {l:List Nat} {ci:gN} (h:tq l=some ci) {i:Nat} (e:l=[i]):tq [i]=some ci:=e ▸ h
theorem G3 {prog:Program} {w:World} {hb:Heap} {K:Frag} {mg mb:Str→Option Value} {FA CA:List Addr} (F:FI K w FA CA) (KX:K.In hb) (tg:hb.Ns mainGlobals mg) (tb:hb.Ns builtinsNs mb) (tl:hb.NoLimit) (tbi:∀ x:Str,x≠"__name__"→mb x=bootBuiltins x) :
  qn (Ct prog w hb K mg mb FA CA) St where
 part:=KX
 cls c C ci h1 h2:=by
  obtain ⟨i,e1,e2⟩:=pz h1
  have f:=F.cls i C ci e2 (rk h2 e1)
  exact ⟨f.get,f.miss,f.set,f.over,f.dict,fun a ha=>GH (List.all_eq_true.mp f.attr a (List.contains_iff_mem.mp ha))⟩
 g:=tg
 b:=tb
 glob x p h:=by
  have g:=FJ F.tree h
  exact IZ (X:=Ct prog w hb K mg mb FA CA) KX (fun Z=>rfl) (fun Z=>rfl) tg tbi F.name g.1 fun d a ha=>F.hash.get (g.2 d) ha
 nolimit:=tl
 funs x a fi h1 h2:=by
  obtain ⟨i,e1,e2⟩:=pz h1
  have h3:JQ [i]=some fi:=e1 ▸ h2
  unfold JQ at h3
  dsimp only at h3
  split at h3
  ·rename_i q
   cases h3
   refine II (K:=K) KX F.fns F.lim e2 ?_
   rw [Nat.blt_eq] at q; exact q
  ·cases h3
 makes c C ci h1 h2:=by
  obtain ⟨i,e1,e2⟩:=pz h1
  have f:=F.cls i C ci e2 (rk h2 e1)
  obtain ⟨a,e3,e4⟩:=wd f.init
  exact ⟨f.makes,a,e3,e4,F.fns.typed e3⟩
 fnk x a h:=F.fns.keeps h
 clk c C h:=by
  obtain ⟨i,e1,e2⟩:=pz h
  cases q:tq [i] with
  | some ci=>exact (F.cls i C ci e2 q).keep
  | none =>
   exfalso
   have hi:i<5:=by rw [← F.len]; exact (List.getElem?_eq_some_iff.mp e2).1
   exact uu.get (n:=5) (P:=fun i=>tq [i]=none→False) ⟨⟨⟨⟨⟨trivial,fun q=>bG q⟩,fun q=>bG q⟩,fun q=>bG q⟩,fun q=>bG q⟩,fun q=>bG q⟩ hi q
 meth c C ci n f h1 h2 h3:=by
  obtain ⟨i,e1,e2⟩:=pz h1
  have k:=F.cls i C ci e2 (rk h2 e1)
  obtain ⟨a,e3,e4⟩:=wd (List.all_eq_true.mp k.meth (n,f) (Am h3))
  exact ⟨a,e3,e4,F.fns.typed e3⟩
theorem y4 {X:Fx} {W:oc} {P:Params} {h:Heap}:∀ {vs:List Value} {ns:List Int},WellAll P h vs (ns.map WData.int)→gf X W (ns.map .int) vs
 | _,[],w=>by cases w; exact rfl
 | _,_::_,w=>by
  cases w with
  | cons a r=>cases a; exact ⟨_,_,rfl,⟨_,rfl⟩,y4 r⟩
theorem EA (ns:List Int):ofPy (PyData.list (ns.map PyData.int))=.list (ns.map WData.int):=by
 unfold ofPy
 congr 1
 induction ns with
 | nil=>rfl
 | cons n ns ih=>rw [List.map_cons,List.map_cons,← ih]; rfl
theorem KL {m:M PV} {σ:ah} {r:PV × ah} (e:m σ=some r):bnd m ret σ=some r:=by
 unfold bnd; rw [e]; rfl
theorem JW {prog:Program} {w:World} {s₁:Shared} {K:Frag} {mg mb:Str→Option Value} {FA CA:List Addr} {fa a:Addr} {ns:List Int} {c:ClaimW} {cl:Str→Option Addr} {mean:ExcName→Option Value} {args:List WData}
  (F:FI K w FA CA) (KX:K.In s₁.heap) (tg:s₁.heap.Ns mainGlobals mg) (tb:s₁.heap.Ns builtinsNs mb) (tl:s₁.heap.NoLimit) (tbi:∀ x:Str,x≠"__name__"→mb x=bootBuiltins x) (hmg:mg "law"=some (.ref fa))
  (hW:Well w.params s₁.heap (.ref a) (ofPy (PyData.list (ns.map PyData.int)))) (hlen:ns.length≤63) (hg:s₁.gens=#[]) (hr:∀ cls,c.raises args cls=false) (hp:c.post args (.bool true) args=true) :
  codeAny (model prog w) callerA (.call (.ref fa) ⟨[.ref a],[]⟩) (GoodWG c cl mean args s₁) s₁:=by
 rw [EA] at hW
 obtain ⟨σ',e⟩:=E9 (L:=5000000) (N:=0) (by decide) ns hlen
 have X:=G3 (prog:=prog) F KX tg tb tl tbi
 obtain ⟨aL,e1,e2⟩:=F.law
 have e3:=sX KX tg e2
 rw [hmg] at e3
 obtain rfl:fa=aL:=by injection e3 with z; injection z
 have R:Kb (Ct prog w s₁.heap K mg mb FA CA) [] [] [] s₁.heap :=
  ⟨fun _ _ e=>e,rfl,(fun _ _ _ e=>(by first | exact bm e | exact bG e | exact dU e | exact eI e | exact nomatch e)),(fun a f=>f.elim (fun z=>(by first | exact bm z | exact bG z | exact dU z | exact eI z | exact nomatch z)) fun z=>(nE z).elim),(fun _ h=>(by first | exact bm h | exact bG h | exact dU h | exact eI h | exact nomatch h)),(fun _ _ _ _ _ e=>(by first | exact bm e | exact bG e | exact dU e | exact eI e | exact nomatch e))⟩
 have rl:gf (Ct prog w s₁.heap K mg mb FA CA) (view [] s₁.heap []) [.frz (ns.map .int)] [.ref a]:=by
  cases hW with
  | list hget hall=>exact ⟨_,_,rfl,⟨a,_,0,rfl,⟨hget,.inl ⟨_,_,rfl⟩,fun f=>f.elim (fun z=>(by first | exact bm z | exact bG z | exact dU z | exact eI z | exact nomatch z)) nE⟩,y4 hall⟩,rfl⟩
 have room:om 100 callerA:=⟨rfl,by decide +kernel,by decide +kernel⟩
 refine codeAny_mono ((Fl (S:=St) 100).2 (z:=⟨s₁,[],[],[],R⟩) (T:=fun v s'=>GoodWG c cl mean args s₁ (.ok (.ret v)) s') (f:=ret) X room (x:=fk 105) (show m6 FA (fk 105)=some fa from e1) rl (KL e) fun z' p v L hv eq=>?_) fun r s z=>?_
 ·cases eq
  cases (show v=.bool true from hv)
  refine ⟨.inl ⟨_,_,[],rfl,hr,ReadsW.bool true,hp,fun Z=>⟨List.nodup_nil,fun _ hm=>(by first | exact bm hm | exact bG hm | exact dU hm | exact eI hm | first | exact bm hm | exact bG hm | exact dU hm | exact eI hm | exact nomatch hm)⟩⟩,.of_keep fun b o q=>L.keep b o q nE id,?_,.of_eq ?_⟩
  ·rw [L.rest]
  ·rw [L.rest]; exact hg
 ·rcases r with _ | (_ | _ | _ | _) <;> first | exact z | exact False.elim z
end
section
open PySem PySem.W PyProof.Rows
noncomputable def MD:List Addr:=[28,48,67,120,127,134,141,146,153,160,167,174,188,202,209,216,223,230,237,244,251,258,265,272,279,286,293,300,307,312,319,326,333,340,347,354,361,368,375,382,389,404,426,447,454,461,475,482,489,496,503,510,517,532,539,546,560,567,574,581,586,593,600,605,612,619,626,633,644,651,658,663,668,675,682,689,696,701,717,722,729,736,743,750,757,764,771,778,785,792,797,804,811,818,825,832,837,842,847,854,861,868,873,880,887,892]
noncomputable def Nw:List Addr:=[191,407,429,464,549]
end
end
end Mine.Internal.Mine
namespace Mine
def walked.tw5140105637049338735:=Type
def walked.tw8247557193983031127:=Type
def walked.tw10932735069116404311:=Type
def walked.tw13367320594011511590:=Type
def walked.tw11253240058568935183:=Type
def walked.tw9309089171037832289:=Type
def walked.tw16825666577764215387:=Type
def walked.tw4527757016710174790:=Type
def walked.tw16798272336688963475:=Type
def walked.tw18172908184493426347:=Type
def walked.tw6435133976218929689:=Type
def walked.tw7733209796466665170:=Type
def walked.tw4848854458170767225:=Type
def walked.tw16115709461631333713:=Type
def walked.tw12541770437791624296:=Type
def walked.tw4810670251676991073:=Type
def walked.tw5159344540480858949:=Type
def walked.tw16407723664922022225:=Type
def walked.tw17995896596175487277:=Type
def walked.tw16111084081669011880:=Type
def walked.tw13890762834281302996:=Type
def walked.tw771496651573663193:=Type
def walked.tw8039454705448909041:=Type
def walked.tw8985106178851879004:=Type
def walked.tw9923394768297396833:=Type
def walked.tw11401759140995903363:=Type
def walked.tw7310763161733991744:=Type
def walked.tw14945064332663455750:=Type
def walked.tw7349104319712701633:=Type
def walked.tw7412720575267839236:=Type
def walked.tw10306744533850542875:=Type
def walked.tw17994309153284778467:=Type
def walked.tw16076818190495968396:=Type
def walked.tw2977666128011690796:=Type
def walked.tw10985902844286924677:=Type
def walked.tw11237815261335071310:=Type
def walked.tw2717184442026348382:=Type
def walked.tw14947191114843946220:=Type
def walked.tw8918583520744900311:=Type
def walked.tw9412506494646207800:=Type
def walked.tw17049323791210579383:=Type
def walked.tw1130687626098561170:=Type
def walked.tw3662982101270728008:=Type
def walked.tw2085719221930333155:=Type
def walked.tw14348781534878347845:=Type
def walked.tw6443444061224948016:=Type
def walked.tw7105868944836983745:=Type
def walked.tw17543756734510822683:=Type
def walked.tw12348078740579864156:=Type
def walked.tw13564667998621269296:=Type
def walked.tw16822928494690500360:=Type
def walked.tw4873418564108926656:=Type
def walked.tw10013047352994217696:=Type
def walked.tw17836112781967857179:=Type
def walked.tw6256173081214447771:=Type
def walked.tw8325241780142892616:=Type
def walked.tw7595139994642683668:=Type
def walked.tw12491348629911187849:=Type
def walked.tw7987708086142054029:=Type
def walked.tw14873043316692600073:=Type
def walked.tw15714772917043988458:=Type
def walked.tw9211989922837896484:=Type
def walked.tw18375111244089120511:=Type
def walked.tw15434425428654509626:=Type
def walked.tw6890207461404097742:=Type
def walked.tw11066295958031245295:=Type
def walked.tw17232578495468346916:=Type
def walked.tw12914366509752849428:=Type
def walked.tw10661733944759478286:=Type
def walked.tw9391828381542447331:=Type
def walked.tw1185220563415592201:=Type
def walked.tw15894948035922749793:=Type
def walked.tw12264010073172968233:=Type
def walked.tw16489519706566121855:=Type
def walked.tw6221645786237556259:=Type
def walked.tw15482926106001120967:=Type
def walked.tw12202790024000205606:=Type
def walked.tw1589519055102159564:=Type
def walked.tw6830418566037279003:=Type
def walked.tw13447125192830482211:=Type
def walked.tw10410111189956838100:=Type
def walked.tw2061994743791419127:=Type
def walked.tw16435381020007261737:=Type
def walked.tw12358650026127369380:=Type
def walked.tw1736615144832076774:=Type
def walked.tw14700868224405316213:=Type
def walked.tw14410851292225844984:=Type
def walked.tw7297589021126879517:=Type
def walked.tw5116614018674852822:=Type
def walked.tw7857718631416015278:=Type
def walked.tw12487576523533805474:=Type
def walked.tw1475010587071180954:=Type
def walked.tw4237077876694977290:=Type
def walked.tw8905309253550119129:=Type
def walked.tw17390515385060205242:=Type
def walked.tw11043107671497892888:=Type
def walked.tw11914059463320308740:=Type
def walked.tw4109879625704030360:=Type
def walked.tw2029308681410006232:=Type
def walked.tw14317584796442996703:=Type
def walked.tw17601406254760239027:=Type
def walked.tw5761876693123121509:=Type
def walked.tw10961873862701295171:=Type
def walked.tw16652481807639297612:=Type
def walked.tw10113985701018066880:=Type
def walked.tw7412847356120895788:=Type
def walked.tw3502371904734444916:=Type
def walked.tw9969663137275695292:=Type
def walked.tw4504527932227725004:=Type
def walked.tw7640908126734672723:=Type
def walked.tw9022677717516577090:=Type
def walked.tw6668053612653060389:=Type
def walked.tw16897752402421007110:=Type
def walked.tw11947053801985916857:=Type
def walked.tw12789199256802006526:=Type
def walked.tw11511083115056889000:=Type
def walked.tw2482962261508578999:=Type
def walked.tw5579951408222587296:=Type
def walked.tw11477893687211391044:=Type
def walked.tw3677099972967441990:=Type
def walked.tw170735857771802772:=Type
def walked.tw2884529953561443114:=Type
def walked.tw16039154625407303889:=Type
def walked.tw17215829904646449672:=Type
def walked.tw3759792990086792412:=Type
def walked.tw3154609455210420192:=Type
def walked.tw14656667139765689636:=Type
def walked.tw9284694331216308889:=Type
def walked.tw17037773674137142676:=Type
def walked.tw18385773493765253374:=Type
def walked.tw9177448567114585426:=Type
def walked.tw173345463251235586:=Type
def walked.tw7758042630830044012:=Type
def walked.tw13991511420925653809:=Type
def walked.tw13809662931224725960:=Type
def walked.tw6108010463136922795:=Type
def walked.tw4988713493900083947:=Type
def walked.tw17371429316519785135:=Type
def walked.tw14291893173838510592:=Type
def walked.tw17681215878734714588:=Type
def walked.tw14171168308149373055:=Type
def walked.tw3576654091424500084:=Type
def walked.tw18423109780432090086:=Type
def walked.tw11716998000125322744:=Type
def walked.tw4024602387851012521:=Type
def walked.tw14678199005579945451:=Type
def walked.tw347719047832840460:=Type
def walked.tw7804761767995022988:=Type
def walked.tw17500142766015395744:=Type
def walked.tw7440224065793078257:=Type
def walked.tw9125839679376792661:=Type
def walked.tw5065678913799099373:=Type
def walked.tw6818932426125876175:=Type
def walked.tw7831038134185404954:=Type
def walked.tw11161085015028860032:=Type
def walked.tw16615692238788157187:=Type
def walked.tw12542017779063988973:=Type
def walked.tw14626155820947171860:=Type
def walked.tw9443850046160754493:=Type
def walked.tw11978469832123738202:=Type
def walked.tw13354011416709173380:=Type
def walked.tw14707918610644047324:=Type
def walked.tw18169045852304047868:=Type
def walked.tw1562815762153713424:=Type
def walked.tw2968709179221749258:=Type
def walked.tw4373037556520552071:=Type
def walked.tw6993898554841167290:=Type
def walked.tw17299906787212298008:=Type
def walked.tw17435391960340695483:=Type
def walked.tw4165862634247066716:=Type
def walked.tw12403918835005763412:=Type
def walked.tw6210745754061622315:=Type
def walked.tw11135766541099234358:=Type
def walked.tw3228858989453960514:=Type
def walked.tw3404711666431029584:=Type
def walked.tw5771019324901343963:=Type
def walked.tw1742104610052581354:=Type
def walked.tw8541082092541572532:=Type
def walked.tw1896655441613442777:=Type
def walked.tw2006386400130618242:=Type
def walked.tw1961141857150980311:=Type
def walked.tw10467290197766742261:=Type
def walked.tw12141483758198556538:=Type
def walked.tw11719219578564892614:=Type
def walked.tw17355383460471153444:=Type
def walked.tw3195039374264496507:=Type
def walked.tw11222472364804045745:=Type
def walked.tw15260576177796472455:=Type
def walked.tw15253699063312745175:=Type
def walked.tw15620927701241171401:=Type
def walked.tw3123836811143236969:=Type
def walked.tw454242435504511507:=Type
def walked.tw4117642270487256610:=Type
def walked.tw10347717719026702807:=Type
def walked.tw8571388186107362513:=Type
def walked.tw13963763033242378184:=Type
def walked.tw1095697335615904402:=Type
def walked.tw4912783343880408759:=Type
def walked.tw15985395377347568702:=Type
def walked.tw14924520281246675643:=Type
def walked.tw17817707867497540356:=Type
def walked.tw4372815760636476531:=Type
def walked.tw2226421231859711854:=Type
def walked.tw15397589587931161062:=Type
def walked.tw6318525367594957853:=Type
def walked.tw8545542724784792495:=Type
def walked.tw17469878582967830509:=Type
def walked.tw8390951554696048942:=Type
def walked.tw12766090232823841025:=Type
def walked.tw11361042792399547987:=Type
def walked.tw2862815026267240390:=Type
def walked.tw17802050611132274646:=Type
def walked.tw13362788225053730918:=Type
def walked.tw14560835352211242448:=Type
def walked.tw3003874511991075139:=Type
def walked.tw16021799424797943924:=Type
def walked.tw3848817797769173767:=Type
def walked.tw5419978129265307081:=Type
def walked.tw1293063661556824417:=Type
def walked.tw2951792723102058952:=Type
def walked.tw2555436261073254426:=Type
def walked.tw16607770856579117723:=Type
def walked.tw8457280531178255980:=Type
def walked.tw9361326782700985155:=Type
def walked.tw1261840481235523158:=Type
def walked.tw17302338449194309602:=Type
def walked.tw4469688320449702699:=Type
def walked.tw849558033990976665:=Type
def walked.tw15980642755745572394:=Type
def walked.tw10134393315845352803:=Type
def walked.tw7048901951259129940:=Type
def walked.tw8234607439067920965:=Type
def walked.tw2244585509182414946:=Type
def walked.tw8592525840820428449:=Type
def walked.tw11388111428197520805:=Type
def walked.tw14405010401401942884:=Type
def walked.tw3651388979559828020:=Type
def walked.tw9861660433326854743:=Type
def walked.tw8166417081873614686:=Type
def walked.tw3211451577068343464:=Type
def walked.tw1666732434277418834:=Type
def walked.tw11716131371166536022:=Type
def walked.tw8126564468815949753:=Type
def walked.tw15990718423970032946:=Type
def walked.tw7656066621015886387:=Type
def walked.tw8635507220845856686:=Type
def walked.tw4758993758864566168:=Type
def walked.tw1009456365344612259:=Type
def walked.tw344823177817956053:=Type
def walked.tw4092704634314446112:=Type
def walked.tw853881658529521650:=Type
def walked.tw10696865622543114833:=Type
def walked.tw15622177245074183334:=Type
def walked.tw8265851962586678303:=Type
def walked.tw13003427828648183622:=Type
def walked.tw17081514173841611183:=Type
def walked.tw15289761555972978769:=Type
def walked.tw10156585617603540147:=Type
def walked.tw2605056546868383191:=Type
def walked.tw15761292485737617822:=Type
def walked.tw14668449420797991719:=Type
def walked.tw10912520162718969210:=Type
def walked.tw14210085198817590812:=Type
def walked.tw2465568689334288698:=Type
def walked.tw10051545892953500435:=Type
def walked.tw15059660498823660426:=Type
def walked.tw11733168568532421261:=Type
def walked.tw2466552744476727947:=Type
def walked.tw11063840414323220494:=Type
def walked.tw3948913194854313666:=Type
def walked.tw14771565464956035551:=Type
def walked.tw10709640793831091339:=Type
def walked.tw9218047933017927428:=Type
def walked.tw5746643269296330133:=Type
def walked.tw3186887407623509340:=Type
def walked.tw10567206834932335496:=Type
def walked.tw17219263100898628296:=Type
def walked.tw8442344610308968125:=Type
def walked.tw17046265033879356071:=Type
def walked.tw12894690203016962383:=Type
def walked.tw13480363813773684319:=Type
def walked.tw11396369914236595765:=Type
def walked.tw11024770118876928595:=Type
def walked.tw10856924646693384727:=Type
def walked.tw3396469055900028793:=Type
def walked.tw14306068953440705322:=Type
def walked.tw4787052254402684729:=Type
def walked.tw18062672894746154340:=Type
def walked.tw10346012801195738955:=Type
def walked.tw10616583191402383719:=Type
def walked.tw16803717346004225066:=Type
def walked.tw11508272031625491861:=Type
def walked.tw10848741699621539750:=Type
def walked.tw2842263008225319519:=Type
def walked.tw10168825544016145155:=Type
def walked.tw12357492230628752577:=Type
def walked.tw13679812046589933469:=Type
def walked.tw3194264037681458550:=Type
def walked.tw13456401741652621447:=Type
def walked.tw16364935878351429460:=Type
def walked.tw2355598989295065394:=Type
def walked.tw16516345848428811258:=Type
def walked.tw5557797307307919376:=Type
def walked.tw599876814595171801:=Type
def walked.tw16474358022749793067:=Type
def walked.tw1572733442233247551:=Type
def walked.tw17595567527030320457:=Type
def walked.tw15207353079731639785:=Type
def walked.tw1093592395508963450:=Type
def walked.tw16687952891504725259:=Type
def walked.tw18208622970436421891:=Type
def walked.tw5591097534902085355:=Type
def walked.tw6527243785232953297:=Type
def walked.tw15792096962235062545:=Type
def walked.tw16931121694858804201:=Type
def walked.tw12259347375847555154:=Type
def walked.tw10403990474563098057:=Type
def walked.tw14780305197804207086:=Type
def walked.tw12441476103562360874:=Type
def walked.tw17681923671463886161:=Type
def walked.tw18158381526834335562:=Type
def walked.tw951413908447291740:=Type
def walked.tw6352743704813974595:=Type
def walked.tw559317138896266757:=Type
def walked.tw10125041976760400884:=Type
def walked.tw11103556802265346986:=Type
def walked.tw15731638851088031088:=Type
def walked.tw15411785057575544377:=Type
def walked.tw8590926894205769229:=Type
def walked.tw5850247275164875771:=Type
def walked.tw8578312543571772674:=Type
def walked.tw14556311243130881084:=Type
def walked.tw16390212100754068887:=Type
def walked.tw10726894039781337959:=Type
def walked.tw9285851153610431148:=Type
def walked.tw727192066615959558:=Type
def walked.tw629430741405483157:=Type
def walked.tw15558629362482712663:=Type
def walked.tw10975260208219750003:=Type
def walked.tw4230943607123835641:=Type
def walked.tw5491797226974217198:=Type
def walked.tw16250731069905128622:=Type
def walked.tw9234737278613791923:=Type
def walked.tw4923409106882029908:=Type
def walked.tw18265188584054288604:=Type
def walked.tw16739065831541826484:=Type
def walked.tw6831175729035388460:=Type
def walked.tw2975092972551172966:=Type
def walked.tw11241791072755406139:=Type
def walked.tw15332965020897330381:=Type
def walked.tw14892170480965019468:=Type
def walked.tw12195888904202569572:=Type
def walked.tw16288014243133275800:=Type
def walked.tw3623040544899764704:=Type
def walked.tw8262785180197990508:=Type
def walked.tw14819225152943283328:=Type
def walked.tw14427976615874588400:=Type
def walked.tw13781484967959815785:=Type
def walked.tw10194463004052796627:=Type
def walked.tw12614751722813302476:=Type
def walked.tw11048909914167210539:=Type
def walked.tw11421850645107461707:=Type
def walked.tw8234675891247544812:=Type
def walked.tw17514075439877221080:=Type
def walked.tw12310241754770715378:=Type
def walked.tw13595828081623347380:=Type
def walked.tw14533504369722652220:=Type
def walked.tw7532167348117312366:=Type
def walked.tw15818210869504088214:=Type
def walked.tw18245299572761717798:=Type
def walked.tw11740783884736735561:=Type
def walked.tw1737384993419257252:=Type
def walked.tw6935395705249970719:=Type
def walked.tw17187719333176085071:=Type
def walked.tw2941256150348686704:=Type
def walked.tw2360625383456799545:=Type
def walked.tw14656571503820165194:=Type
def walked.tw3742587750343313709:=Type
def walked.tw7798367383810149723:=Type
def walked.tw14140109430256871297:=Type
def walked.tw1869993595542841829:=Type
def walked.tw11801360302775238805:=Type
def walked.tw17420470923952926687:=Type
def walked.tw4428186654252236645:=Type
def walked.tw13476470598253246577:=Type
def walked.tw15934151741775985304:=Type
def walked.tw13938225089704725040:=Type
def walked.tw17255240635447946129:=Type
def walked.tw2145799409421492747:=Type
def walked.tw3512644371222404202:=Type
def walked.tw12175759817856034463:=Type
def walked.tw1198988077186608152:=Type
def walked.tw8995318663305404840:=Type
def walked.tw2882533269904614736:=Type
def walked.tw1886559408969053490:=Type
def walked.tw434581067753788174:=Type
def walked.tw1023034989736548452:=Type
def walked.tw973872946206425264:=Type
def walked.tw8123398680819356563:=Type
def walked.tw11504928092897905681:=Type
def walked.tw7939653170902240486:=Type
def walked.tw16505765232547964501:=Type
def walked.tw9945738629813381500:=Type
def walked.tw5799645891987163111:=Type
def walked.tw7772846528682760994:=Type
def walked.tw13057285761768030100:=Type
def walked.tw14131619688775089396:=Type
def walked.tw9661516677412186971:=Type
def walked.tw9662956189785708749:=Type
def walked.tw11763729059804500207:=Type
def walked.tw14868291398536835507:=Type
def walked.tw14229202331909107862:=Type
def walked.tw16463785356956939741:=Type
def walked.tw6171471365023062509:=Type
def walked.tw11863749412311830057:=Type
def walked.tw9977047362479514624:=Type
def walked.tw16197724649420643969:=Type
def walked.tw17217747066185335423:=Type
def walked.tw5889481808978955522:=Type
def walked.tw9113026200099692403:=Type
def walked.tw499977265804646572:=Type
def walked.tw18045803622182746222:=Type
def walked.tw10341986945877308283:=Type
def walked.tw17651328325752884333:=Type
def walked.tw16047878869481204899:=Type
def walked.tw6481974073352851958:=Type
def walked.tw18385502233865597614:=Type
def walked.tw1302775724399565993:=Type
def walked.tw17664705333091264560:=Type
def walked.tw12110200035894746596:=Type
def walked.tw10618054606773385529:=Type
def walked.tw3204007577159668245:=Type
def walked.tw10236228114788138025:=Type
def walked.tw15340107226490729795:=Type
def walked.tw15965168731788071083:=Type
def walked.tw7477624898791932497:=Type
def walked.tw18288114362844469679:=Type
def walked.tw14350414439422234772:=Type
def walked.tw16634279340012607342:=Type
def walked.tw12447457899131559640:=Type
def walked.tw3114994953880276095:=Type
def walked.tw4543644601589178881:=Type
def walked.tw7965062359604153488:=Type
def walked.tw18305501382451137639:=Type
def walked.tw13959786389425076790:=Type
def walked.tw3530329474333294461:=Type
def walked.tw8079027464877246199:=Type
def walked.tw3344609552174012901:=Type
def walked.tw12760096568242795977:=Type
def walked.tw14769708699175821605:=Type
def walked.tw12983703186190081618:=Type
def walked.tw403774712030819317:=Type
def walked.tw12585693079000442048:=Type
def walked.tw7041220809916396310:=Type
def walked.tw16772952417405920929:=Type
def walked.tw14013162895218870911:=Type
def walked.tw5817585373622155043:=Type
def walked.tw12069875329356076457:=Type
def walked.tw399610000555049020:=Type
def walked.tw1579913239267245211:=Type
def walked.tw387608495180705998:=Type
def walked.tw7180183780096404649:=Type
def walked.tw17792889059146775456:=Type
def walked.tw2662919270148727297:=Type
def walked.tw558932371573444259:=Type
def walked.tw5146494839277757424:=Type
def walked.tw6790431050639898338:=Type
def walked.tw10732633634405804646:=Type
def walked.tw8148512967373588293:=Type
def walked.tw4506676480083866119:=Type
def walked.tw15092983944515159061:=Type
def walked.tw7471028131110547090:=Type
def walked.tw3956599776765817792:=Type
def walked.tw18345126379119595415:=Type
def walked.tw1316940997466245714:=Type
def walked.tw1002305998620586972:=Type
def walked.tw13953761352951922849:=Type
def walked.tw6219035718581027284:=Type
def walked.tw14229500856353700260:=Type
def walked.tw3456237512614429866:=Type
def walked.tw6658227799566038688:=Type
def walked.tw67254126912444087:=Type
def walked.tw7380322344187970426:=Type
def walked.tw8410838965032246489:=Type
def walked.tw9297145922850968989:=Type
def walked.tw10711535858063790847:=Type
def walked.tw6748623486237589326:=Type
def walked.tw18284056799120256575:=Type
def walked.tw7688081047195588637:=Type
def walked.tw1058408316335763649:=Type
def walked.tw18441004472293745199:=Type
def walked.tw10696814920757978177:=Type
def walked.tw9810281712314615081:=Type
def walked.tw925953264593779937:=Type
def walked.tw10801114644600509891:=Type
def walked.tw6901314773534930290:=Type
def walked.tw15207219896440551313:=Type
def walked.tw10218133239768945329:=Type
def walked.tw5974467010954626333:=Type
def walked.tw4006664154946419770:=Type
def walked.tw15582734388253266391:=Type
def walked.tw8136164442251077140:=Type
def walked.tw2315017200339038626:=Type
def walked.tw15592869689441637511:=Type
def walked.tw12286244966247292968:=Type
def walked.tw2204222616706390678:=Type
def walked.tw2803496973823489063:=Type
def walked.tw9787025401337152681:=Type
def walked.tw17882402191377192994:=Type
def walked.tw1395941815289423582:=Type
def walked.tw6444334370800284437:=Type
def walked.tw5426830319449378229:=Type
def walked.tw16484861088697887372:=Type
def walked.tw15007472018523783173:=Type
def walked.tw3596607714403415890:=Type
def walked.tw248907416629775991:=Type
def walked.tw7787570361967749342:=Type
def walked.tw13969908461289623549:=Type
def walked.tw14541673794207155998:=Type
def walked.tw6053413614090309473:=Type
def walked.tw5046592027318412160:=Type
def walked.tw5912130070842770447:=Type
def walked.tw436696924905511694:=Type
def walked.tw6528230031690712044:=Type
def walked.tw16842789021065639117:=Type
def walked.tw4140075176188631798:=Type
def walked.tw835883331836104285:=Type
def walked.tw17947965115966976292:=Type
def walked.tw12231388022229098545:=Type
def walked.tw6582205710900729917:=Type
def walked.tw8095772092805176977:=Type
def walked.tw10358081196305673550:=Type
def walked.tw14643890150157069775:=Type
def walked.tw320595755236693300:=Type
def walked.tw18249421189771621384:=Type
def walked.tw13540610065766107876:=Type
def walked.tw6680422180139214307:=Type
def walked.tw13023109781584820122:=Type
def walked.tw13760968836290266435:=Type
def walked.tw12431829208556435132:=Type
def walked.tw10736262163556572654:=Type
def walked.tw15225391148845285051:=Type
def walked.tw2982437846632046573:=Type
def walked.tw15093940832924147249:=Type
def walked.tw18445747698944189111:=Type
def walked.tw16684655949997395957:=Type
def walked.tw18261387915371884668:=Type
def walked.tw6037883009940554781:=Type
def walked.tw8596380325054604574:=Type
def walked.tw13510884676490183792:=Type
def walked.tw6336794889715929315:=Type
def walked.tw16569525955685270403:=Type
def walked.tw339596488956511606:=Type
def walked.tw14411933039441656379:=Type
def walked.tw12790301560728050363:=Type
def walked.tw2255089873211396640:=Type
def walked.tw7432638905335112021:=Type
def walked.tw6489340300105620486:=Type
def walked.tw12530515140014099378:=Type
def walked.tw16577768195212267514:=Type
def walked.tw11892143810058400079:=Type
def walked.tw15989432534331754469:=Type
def walked.tw17580327451575046659:=Type
def walked.tw2863128309936544269:=Type
def walked.tw2814404672656233151:=Type
def walked.tw5144953577510415071:=Type
def walked.tw8419466198385353477:=Type
def walked.tw6755985805020585454:=Type
def walked.tw17096997810780752602:=Type
def walked.tw417585203273327335:=Type
def walked.tw3126819262078154787:=Type
def walked.tw4786749155107100829:=Type
def walked.tw16341018159063524384:=Type
def walked.tw15201997578952433140:=Type
def walked.tw3642810053052792332:=Type
def walked.tw288823336967781709:=Type
def walked.tw15345988405575398135:=Type
def walked.tw11860913950577118012:=Type
def walked.tw5935860333764974497:=Type
def walked.tw12697921081541553856:=Type
def walked.tw1920199622300170286:=Type
def walked.tw14733533344118153609:=Type
def walked.tw17827480818683745941:=Type
def walked.tw10257648666023975013:=Type
def walked.tw3561695465193178321:=Type
def walked.tw11487550787919914065:=Type
def walked.tw9478538420635128604:=Type
def walked.tw14185941546324226941:=Type
def walked.tw16001384935024722679:=Type
def walked.tw16515689709795323223:=Type
def walked.tw8203465356068925884:=Type
def walked.tw3218125906383921710:=Type
def walked.tw3196959789960350585:=Type
def walked.tw8989184698752757233:=Type
def walked.tw5003921817398677382:=Type
def walked.tw13539637135472580555:=Type
def walked.tw10418382813668628961:=Type
def walked.tw13312651544099257629:=Type
def walked.tw9306289427857105625:=Type
def walked.tw976780946104086084:=Type
def walked.tw7606276175747600761:=Type
def walked.tw1966047409764233948:=Type
def walked.tw799311218540891891:=Type
def walked.tw3165735973992657758:=Type
def walked.tw2758690194090347709:=Type
def walked.tw15732349244626239290:=Type
def walked.tw2120565455065468686:=Type
def walked.tw16409084090813425625:=Type
def walked.tw18030486194414384095:=Type
def walked.tw212665984657388554:=Type
def walked.tw15188186862454549226:=Type
def walked.tw12219542254029794230:=Type
def walked.tw158997676906370764:=Type
def walked.tw17101953011264487700:=Type
def walked.tw14332248463505287066:=Type
def walked.tw8061871816776872505:=Type
def walked.tw4900481414680554125:=Type
def walked.tw16231938634408743198:=Type
def walked.tw13149205626534990498:=Type
def walked.tw10689926557641846218:=Type
def walked.tw16019516026621261289:=Type
def walked.tw555500437468857031:=Type
def walked.tw6952067061982022875:=Type
def walked.tw18396078696506980773:=Type
def walked.tw1563986566265013092:=Type
def walked.tw7511880403219293914:=Type
def walked.tw2717623110035266153:=Type
def walked.tw5176398045284469666:=Type
def walked.tw14184138587448084496:=Type
def walked.tw535478744362340395:=Type
def walked.tw7525933004701264063:=Type
def walked.tw10826572019929512873:=Type
def walked.tw16325295923044051869:=Type
def walked.tw5860050796261510417:=Type
def walked.tw14615486083368606453:=Type
def walked.tw405449292311268637:=Type
def walked.tw12408418898189696444:=Type
def walked.tw2490366894844732373:=Type
def walked.tw7669720678009054397:=Type
def walked.tw16360451767797920428:=Type
def walked.tw1351239291378565425:=Type
def walked.tw4118867658956955102:=Type
def walked.tw15200779194600059399:=Type
def walked.tw9317498021321862040:=Type
def walked.tw12005458702341000263:=Type
def walked.tw6651432812107647189:=Type
def walked.tw15004949941600695573:=Type
def walked.tw12705402321791039974:=Type
def walked.tw17747864601115758916:=Type
def walked.tw5100909274090901995:=Type
def walked.tw2333790644150893541:=Type
def walked.tw11838636549094888582:=Type
def walked.tw18422544549296534445:=Type
def walked.tw7182242915246501072:=Type
def walked.tw17538684380233684523:=Type
def walked.tw9684897439888581933:=Type
def walked.tw13086228209182252293:=Type
def walked.tw5414310952677437307:=Type
def walked.tw14118876023476985510:=Type
def walked.tw405189099953097415:=Type
def walked.tw8329657159516091356:=Type
def walked.tw9717644950151272128:=Type
def walked.tw18415472287074504806:=Type
def walked.tw3798141672585208196:=Type
def walked.tw7238939758825776628:=Type
def walked.tw11872248502635474931:=Type
def walked.tw9234415670339224547:=Type
def walked.tw9465274772067552319:=Type
def walked.tw3169833063126914225:=Type
def walked.tw1405322825977634046:=Type
def walked.tw10540062904171187063:=Type
def walked.tw14879803017275716107:=Type
def walked.tw17957835135130729267:=Type
def walked.tw1376905517960261462:=Type
def walked.tw5216569489137818833:=Type
def walked.tw14054578567362540352:=Type
def walked.tw9463899504728276683:=Type
def walked.tw11663052042523786340:=Type
def walked.tw7569992021594934987:=Type
def walked.tw10287477165894464799:=Type
def walked.tw11636679648171693282:=Type
def walked.tw17851778505233246825:=Type
def walked.tw16680809012293490110:=Type
def walked.tw5486276217004095915:=Type
def walked.tw3652116975097225366:=Type
def walked.tw10911656470296733984:=Type
def walked.tw12437745299292510602:=Type
def walked.tw17697474749865063731:=Type
def walked.tw12861421641073722923:=Type
def walked.tw14906150918311868220:=Type
def walked.tw13286722469295211104:=Type
def walked.tw4495840123938517807:=Type
def walked.tw117381892830397511:=Type
def walked.tw4384343751505711383:=Type
def walked.tw1668207725517356108:=Type
def walked.tw17477723203937452634:=Type
def walked.tw15737964151628047944:=Type
def walked.tw14086674881199848455:=Type
def walked.tw4300595784490093971:=Type
def walked.tw11492834389859240648:=Type
def walked.tw5694755573393091167:=Type
def walked.tw1605138365003356682:=Type
def walked.tw7844358721360463762:=Type
def walked.tw384657404230122061:=Type
def walked.tw6060808407869670770:=Type
def walked.tw8600599904945343696:=Type
def walked.tw14162996456581045080:=Type
def walked.tw15068269739286254978:=Type
def walked.tw17787367535539994868:=Type
def walked.tw16119247549937848440:=Type
def walked.tw8912923520258027703:=Type
def walked.tw11792348019692572736:=Type
def walked.tw13821923461294735446:=Type
def walked.tw8015178870438877649:=Type
def walked.tw1379513165431266875:=Type
def walked.tw2992365634984978823:=Type
def walked.tw16076120443542454954:=Type
def walked.tw3393318839735119654:=Type
def walked.tw17223206277156775862:=Type
def walked.tw330762443887129464:=Type
def walked.tw11729174869502778626:=Type
def walked.tw10191294981551679327:=Type
def walked.tw4576625222884626796:=Type
def walked.tw1096928660967282657:=Type
def walked.tw8553412938097356578:=Type
def walked.tw13428459670802956703:=Type
def walked.tw13000126902407820075:=Type
def walked.tw13297870631838939504:=Type
def walked.tw18085626060504837023:=Type
def walked.tw6647234864365550675:=Type
def walked.tw11580637554621513461:=Type
def walked.tw11302034943073795380:=Type
def walked.tw2514406068633281614:=Type
def walked.tw16736756346374229041:=Type
def walked.tw8832213838444544596:=Type
def walked.tw17932046339967927825:=Type
def walked.tw17180361352348554743:=Type
def walked.tw7264217410174903500:=Type
def walked.tw14637000180080728938:=Type
def walked.tw16314463139176159091:=Type
def walked.tw569753137633992452:=Type
def walked.tw10929994530497519395:=Type
def walked.tw17535944118437546256:=Type
def walked.tw13936531399571620070:=Type
def walked.tw17558526597949874096:=Type
def walked.tw12539326734631578492:=Type
def walked.tw12280432246910014555:=Type
def walked.tw7061551402869744222:=Type
def walked.tw5546808594814097704:=Type
def walked.tw15158336724782930183:=Type
def walked.tw13718564275323653473:=Type
def walked.tw205097071784195856:=Type
def walked.tw1810970289263428382:=Type
def walked.tw15095757635653769372:=Type
def walked.tw72485803623849042:=Type
def walked.tw17041248052731659488:=Type
def walked.tw5904727376090951139:=Type
def walked.tw16347902603848179284:=Type
def walked.tw3570687326082751483:=Type
def walked.tw4311500587102515016:=Type
def walked.tw8602668205490658802:=Type
def walked.tw15552044324066445024:=Type
def walked.tw7738535925503065215:=Type
def walked.tw4206933771332991906:=Type
def walked.tw13429688829754244050:=Type
def walked.tw8739856066341875139:=Type
def walked.tw2596855384035438669:=Type
def walked.tw9648181175256677753:=Type
def walked.tw2994655012319988726:=Type
def walked.tw6263636752073161747:=Type
def walked.tw7227394444295559767:=Type
def walked.tw10548320453587054054:=Type
def walked.tw11166694050354533469:=Type
def walked.tw13525690793355672822:=Type
def walked.tw13441283496068296825:=Type
def walked.tw7717600481202174055:=Type
def walked.tw11214170435758465507:=Type
def walked.tw3581909261878770031:=Type
def walked.tw2821343561911744397:=Type
def walked.tw1644073397900518128:=Type
def walked.tw12486759634589957066:=Type
def walked.tw17006215788897041194:=Type
def walked.tw9351618866434979871:=Type
def walked.tw1321702467232432986:=Type
def walked.tw7083799122331869657:=Type
def walked.tw13192455171590680239:=Type
def walked.tw13322885729445307778:=Type
def walked.tw17003933204472191057:=Type
def walked.tw12649224010061425804:=Type
def walked.tw7842589190297942061:=Type
def walked.tw10246779922228154674:=Type
def walked.tw2966447050294814061:=Type
def walked.tw5947960169144475944:=Type
def walked.tw9363124408504730559:=Type
def walked.tw4684817635686839698:=Type
def walked.tw3685669515979427480:=Type
def walked.tw207698962015174277:=Type
def walked.tw7557936696638689544:=Type
def walked.tw209840304299099284:=Type
def walked.tw16440176878599123528:=Type
def walked.tw4348467423284261154:=Type
def walked.tw9137318948507625022:=Type
def walked.tw3713509266176126223:=Type
def walked.tw15161176433021495855:=Type
def walked.tw6071728098249757386:=Type
def walked.tw9838877008206051468:=Type
def walked.tw16323325419930361836:=Type
def walked.tw11963196731709205917:=Type
def walked.tw13498579986622291118:=Type
def walked.tw1808837712715147100:=Type
def walked.tw4403489083585489815:=Type
def walked.tw781810328306677173:=Type
def walked.tw11321637652509324053:=Type
def walked.tw3192276284375812754:=Type
def walked.tw16696927088868300766:=Type
def walked.tw9270182903883659032:=Type
def walked.tw18246501514692134963:=Type
def walked.tw17762647103660805866:=Type
def walked.tw16235745328461145165:=Type
def walked.tw2838631818042604357:=Type
def walked.tw12583921284976009849:=Type
def walked.tw7686881847535202917:=Type
def walked.tw11138717983221166666:=Type
def walked.tw15551382632775818495:=Type
def walked.tw17056762781059877002:=Type
def walked.tw6209239454186132661:=Type
def walked.tw2475154421819793589:=Type
def walked.tw3110351777020255282:=Type
def walked.tw5600450827978902019:=Type
def walked.tw1869668661150557336:=Type
def walked.tw9772872894556289337:=Type
def walked.tw15612309920468420791:=Type
open Mine.Internal.Mine PySem.W PyProof.Rows
set_option Elab.async true
set_option maxHeartbeats 8000000
theorem walked:PySem.Challenge.rw_nz0207_01.Holds:=by
 w_on; o_law; k_head; (case hw=>w_witness2)
 w_strict (
  k_fill
  intro w s₀ s₁ mg mb G Y fa o pm cd doc dV kV ho hd hcd hD hmg hg args vals as hpre hlay hrd hwl hlo
  have KX:=kIn_of Y
  have T:=G.T
  have hmg':mg (Str.ofString "law")=some (.ref fa):=hmg
  clear hd ho hD hcd hmg G Y
  wrow_args hpre hlay hrd hwl hlo
  refine enter_call ?_
  refine JW (FA:=MD) (CA:=Nw) ?KF KX T.g T.b T.nolimit T.builtins hmg' (by assumption) (by omega) hg (raisesW_false (by wrow_none_raised)) ?post
  case post=>wrow_post
  case KF =>
   clear T hmg'
   refine ⟨?fns,rfl,?lim,?cls,?tree,?hash,?name,?law⟩
   case fns =>
    unfold MD
    repeat (refine lg.cons (by kernel_rfl) (by kernel_rfl) ?_)
    exact lg.nil _
   case lim =>
    intro a e
    have e0:MD[kK]?=some 404:=by kernel_rfl
    rw [e0] at e
    cases e
    exact ⟨⟨_,_,_,_,_,⟨_,_,_,rfl⟩,rfl,rfl,rfl,⟨⟨_,_,rfl,rfl⟩,⟨_,_,rfl,rfl⟩,⟨_,_,rfl,rfl⟩,⟨_,_,rfl,rfl⟩,⟨_,_,rfl,rfl⟩,trivial⟩,fun a=>⟨_,rfl,rfl⟩,fun a b c d e f=>⟨_,rfl,rfl⟩⟩⟩
   case cls =>
    intro i C ci e1 e2
    rcases i with _ | _ | _ | _ | _ | i
    iterate 5
     cases e1; cases e2
     exact ⟨by kernel_rfl,by kernel_rfl,by kernel_rfl,by kernel_rfl,by kernel_rfl,by kernel_rfl,by kernel_rfl,by kernel_rfl,by kernel_rfl,by kernel_rfl⟩
    cases e1
   case tree=>kernel_rfl
   case hash =>
    rw [HB]
    exact .cons (by kernel_rfl) (.cons (by kernel_rfl) (.cons (by kernel_rfl) .nil))
   case name=>exact ⟨_,by rfl⟩
   case law=>exact ⟨892,rfl,by kernel_rfl⟩)
end Mine
theorem PySem.Challenge.cw_nz0207_01_holds : PySem.Challenge.rw_nz0207_01.Holds :=
  Mine.walked
