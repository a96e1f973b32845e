import PyProof.Rows.All
import Wide.All
import OpenK.AllK
import Wide.FinOn
import PySem.Challenge.RW_nn0054_01
set_option autoImplicit false
set_option linter.unusedVariables false
set_option linter.unusedSimpArgs false
namespace Mine
section
open PySem
inductive MV where
 |none
 |bool (b:Bool)
 |int (i:Int)
 |str (s:Str)
 |tup (vs:List MV)
 |lst (vs:List MV)
 |raw (vs:List MV)
 |dcs (es:List (Str×MV))
 |dci (es:List (Int×MV))
 |inst (c:Str) (fs:List (Str×MV))
 |ref (i:Nat)
 deriving Inhabited
inductive MO where
 |lst (vs:List MV)
 |dcs (es:List (Str×MV))
 |dci (es:List (Int×MV))
 deriving Inhabited
abbrev Hp:=List MO
abbrev Ev:=List (Str×Option MV)
def M(α:Type):=Hp→Option (α×Hp)
variable{α β:Type}
def ret(a:α):M α:=fun h=>some (a,h)
def fail:M α:=fun _=>none
def bnd(m:M α)(f:α→M β):M β:=fun h=>match m h with
 |none=>none
 |some (a,h')=>f a h'
def opt(o:Option α):M α:=fun h=>match o with
 |none=>none
 |some a=>some (a,h)
structure Fn where
 name:Str
 params:List Str
 dflts:List MV
 body:List Stmt
 scope:Scope
structure gI where
 fn:Str→Option Fn
 init:Str→Option Fn
 meth:Str→Str→Option Fn
 made:Pos→Option Nat
 glob:Str→Option MV
def sm(a:Int):Bool:=Nat.blt a.natAbs (2 ^ 9000)
def Bs(a:Int):Bool:=Nat.blt a.natAbs (2 ^ 1000)
def jd(b:Int):Bool:=decide (0≤b)&&decide (b < 1000)
def wW(op:Operator)(a b:Int):Option MV:=match op with
 |.Add=>some (.int (a+b))
 |.Sub=>some (.int (a - b))
 |.Mult=>bif sm a&&sm b then some (.int (a * b)) else none
 |.FloorDiv=>bif sm b&&!(b==0) then some (.int (a.fdiv b)) else none
 |.Mod=>bif sm b&&!(b==0) then some (.int (a.fmod b)) else none
 |.Pow=>bif Bs a&&jd b then some (.int (a ^ b.toNat)) else none
 |.LShift=>bif Bs a&&jd b then some (.int (a * 2 ^ b.toNat)) else none
 |.RShift=>bif jd b then some (.int (a.fdiv (2 ^ b.toNat))) else none
 |.BitAnd=>some (.int (Builtin.bitAnd a b))
 |.BitOr=>some (.int (Builtin.bitOr a b))
 |.BitXor=>some (.int (Builtin.bitXor a b))
 |_=>none
def t0(s:Str):Bool:=Nat.ble s.length 100000
def bZ(l:List MV):Bool:=Nat.ble l.length 100000
def bF(op:Operator)(x y:MV):Option MV:=match x,y with
 |.int a,.int b=>wW op a b
 |.str a,.str b=>(match op with
  |.Add=>bif t0 (a++b) then some (.str (a++b)) else none
  |_=>none)
 |.lst a,.lst b=>(match op with
  |.Add=>bif bZ (a++b) then some (.lst (a++b)) else none
  |_=>none)
 |_,_=>none
def jf(f:α→Option β):List α→Option (List β)
 |[]=>some []
 |x::r=>match f x with
  |none=>none
  |some y=>match jf f r with
   |none=>none
   |some ys=>some (y::ys)
def cD(h:Hp):Nat→MV→Option PyData
 |0,_=>none
 |n+1,v=>match v with
  |.none=>some .none
  |.bool b=>some (.bool b)
  |.int i=>some (.int i)
  |.str s=>some (.str s)
  |.tup vs=>(jf (cD h n) vs).map .tuple
  |.lst vs=>(jf (cD h n) vs).map .list
  |.ref i=>(match h[i]? with
   |some (.lst vs)=>(jf (cD h n) vs).map .list
   |_=>none)
  |_=>none
def Ic(h:Hp)(x y:MV):Option Bool:=match cD h 8 x,cD h 8 y with
 |some a,some b=>bif SeqAt.shaped a&&SeqAt.shaped b then some (PyData.eqv a b) else none
 |_,_=>none
def tZ:List MV→Option (List Str)
 |[]=>some []
 |.str s::r=>(tZ r).map (s::·)
 |_=>none
def qB:List MV→Option (List Int)
 |[]=>some []
 |.int s::r=>(qB r).map (s::·)
 |_=>none
def Jz(x:MV)(vs:List MV):Option Bool:=match x with
 |.str s=>(tZ vs).map fun l=>l.contains s
 |.int i=>(qB vs).map fun l=>l.contains i
 |_=>none
def Ad(h:Hp)(x y:MV):Option Bool:=match y with
 |.lst vs=>Jz x vs
 |.tup vs=>Jz x vs
 |.ref r=>(match h[r]? with
  |some (.lst vs)=>Jz x vs
  |_=>none)
 |.dcs es=>(match x with
  |.str s=>some ((es.lookup s).isSome)
  |_=>none)
 |_=>none
def isNone:MV→Option Bool
 |.none=>some true
 |.bool _|.int _|.str _|.tup _|.lst _|.inst _ _=>some false
 |_=>none
def xC(h:Hp)(op:CmpOp)(x y:MV):Option Bool:=match op with
 |.Eq=>(match x,y with
  |.int a,.int b=>some (a==b)
  |.str a,.str b=>some (a==b)
  |x,y=>Ic h x y)
 |.NotEq=>(match x,y with
  |.int a,.int b=>some (!(a==b))
  |.str a,.str b=>some (!(a==b))
  |x,y=>(Ic h x y).map (!·))
 |.Lt=>(match x,y with
  |.int a,.int b=>some (decide (a < b))
  |_,_=>none)
 |.LtE=>(match x,y with
  |.int a,.int b=>some (decide (a≤b))
  |_,_=>none)
 |.Gt=>(match x,y with
  |.int a,.int b=>some (decide (b < a))
  |_,_=>none)
 |.GtE=>(match x,y with
  |.int a,.int b=>some (decide (b≤a))
  |_,_=>none)
 |.In=>Ad h x y
 |.NotIn=>(Ad h x y).map (!·)
 |.Is=>(match y with
  |.none=>isNone x
  |_=>none)
 |.IsNot=>(match y with
  |.none=>(isNone x).map (!·)
  |_=>none)
def uC(op:UnaryOp)(x:MV):Option MV:=match op,x with
 |.USub,.int a=>some (.int (-a))
 |.Invert,.int a=>some (.int (-a - 1))
 |.Not,.bool b=>some (.bool (!b))
 |_,_=>none
def D6(vs:List MV)(i:Int):Option MV:=bif decide (0≤i)&&bZ vs then vs[i.toNat]? else none
def getItem(h:Hp)(o i:MV):Option MV:=match i with
 |.int i=>(match o with
  |.lst vs=>D6 vs i
  |.tup vs=>D6 vs i
  |.dci es=>es.lookup i
  |.str s=>bif decide (0≤i)&&t0 s then (s.cps[i.toNat]?).map fun c=>.str ⟨#[c]⟩ else none
  |.ref r=>(match h[r]? with
   |some (.lst vs)=>D6 vs i
   |some (.dci es)=>es.lookup i
   |_=>none)
  |_=>none)
 |.str k=>(match o with
  |.dcs es=>es.lookup k
  |.ref r=>(match h[r]? with
   |some (.dcs es)=>es.lookup k
   |_=>none)
  |_=>none)
 |_=>none
def cut{γ:Type}(l:List γ)(lo hi:Option Int):List γ:=(l.drop (W.kms_lo lo l.length)).take (W.kms_hi hi l.length - W.kms_lo lo l.length)
def dd(o:MV)(lo hi:Option Int):Option MV:=match o with
 |.lst vs=>bif bZ vs then some (.lst (cut vs lo hi)) else none
 |.tup vs=>(match lo,hi with
  |some a,none=>bif bZ vs&&decide (1≤a)&&decide (a≤vs.length) then some (.tup (vs.drop a.toNat)) else none
  |none,some b=>bif bZ vs&&decide (0≤b)&&decide (b < vs.length) then some (.tup (vs.take b.toNat)) else none
  |_,_=>none)
 |.raw vs=>bif bZ vs then some (.lst (cut vs lo hi)) else none
 |.str s=>bif t0 s then some (.str (Txt.slice s lo hi)) else none
 |_=>none
def put{K:Type}[BEq K](k:K)(v:MV):List (K×MV)→List (K×MV)
 |[]=>[(k,v)]
 |(a,b)::r=>bif a==k then (a,v)::r else (a,b)::put k v r
def setItem(o i v:MV):M Unit:=fun h=>match o with
 |.ref r=>(match h[r]?,i with
  |some (.lst vs),.int i=>bif decide (0≤i)&&decide (i < vs.length)&&bZ vs then some ((),h.set r (.lst (vs.set i.toNat v))) else none
  |some (.dcs es),.str k=>bif Nat.ble es.length 100000 then some ((),h.set r (.dcs (put k v es))) else none
  |some (.dci es),.int k=>bif Nat.ble es.length 100000 then some ((),h.set r (.dci (put k v es))) else none
  |_,_=>none)
 |_=>none
def cN:List Str:=["kind","register","worth","name","base","index","scale","size","segment","operands","prefix","number"]
def Cz(o:MV)(a:Str):Option MV:=match o with
 |.inst _ fs=>bif cN.contains a then fs.lookup a else none
 |_=>none
def Bi(h:Hp)(v:MV):Option MV:=match v with
 |.lst vs=>bif bZ vs then some (.int vs.length) else none
 |.tup vs=>bif bZ vs then some (.int vs.length) else none
 |.str s=>bif t0 s then some (.int s.length) else none
 |.ref r=>(match h[r]? with
  |some (.lst vs)=>bif bZ vs then some (.int vs.length) else none
  |_=>none)
 |_=>none
def ql:List MV→Option Int
 |[]=>some 0
 |.int i::r=>(ql r).map (i+·)
 |_=>none
def vJ(es:List (Int×MV)):List MV:=(es.map (·.1)).mergeSort.map .int
def builtin(f:Str)(vs:List MV):M MV:=fun h=>match vs with
 |[v]=>
  bif f=="len" then (Bi h v).map (·,h)
  else bif f=="sum" then (match v with
   |.lst l=>bif bZ l then (ql l).map fun i=>(.int i,h) else none
   |_=>none)
  else bif f=="str" then (match v with
   |.int i=>bif decide (0≤i)&&decide (i < 1000) then some (.str (Str.ofString (toString i)),h) else none
   |_=>none)
  else bif f=="tuple" then (match v with
   |.lst l=>bif bZ l then some (.tup l,h) else none
   |_=>none)
  else bif f=="list" then (match v with
   |.ref r=>(match h[r]? with
    |some (.lst l)=>bif bZ l then some (.ref h.length,h++[.lst l]) else none
    |_=>none)
   |_=>none)
  else bif f=="dict" then (match v with
   |.ref r=>(match h[r]? with
    |some (.dcs l)=>bif Nat.ble l.length 100000 then some (.ref h.length,h++[.dcs l]) else none
    |some (.dci l)=>bif Nat.ble l.length 100000 then some (.ref h.length,h++[.dci l]) else none
    |_=>none)
   |_=>none)
  else bif f=="sorted" then (match v with
   |.ref r=>(match h[r]? with
    |some (.dci l)=>bif Nat.ble l.length 60 then some (.lst (vJ l),h) else none
    |_=>none)
   |_=>none)
  else none
 |[.int a,.int b]=>bif f=="max" then some (.int (if a < b then b else a),h) else none
 |_=>none
def dI(o:MV)(m:Str):M Nat:=fun h=>match o with
 |.str _=>bif (["split","startswith","find"]:List Str).contains m then some (0,h) else none
 |.lst _=>bif m=="index" then some (1,h) else none
 |.ref r=>(match h[r]? with
  |some (.lst _)=>bif m=="append"||m=="reverse" then some (1,h) else none
  |some (.dci _)=>bif m=="get" then some (2,h) else none
  |_=>none)
 |_=>none
def bx(k:Nat)(o:MV)(m:Str)(vs:List MV):M MV:=fun h=>match o with
 |.str s=>(match vs with
  |[]=>bif m=="split"&&t0 s then some (.lst ((Txt.words s).map .str),h) else none
  |[.str t]=>
   bif !(t0 s&&t0 t) then none
   else bif m=="split" then bif t.length==0 then none else some (.lst ((Txt.split s t).map .str),h)
   else bif m=="startswith" then some (.bool (Txt.startswith s t),h)
   else bif m=="find" then some (.int (Txt.find s t),h)
   else none
  |_=>none)
 |.lst l=>(match vs with
  |[.str s]=>bif m=="index"&&bZ l then (match tZ l with
   |some ls=>bif ls.contains s then some (.int (ls.idxOf s:Nat),h) else none
   |none=>none) else none
  |_=>none)
 |.ref r=>(match h[r]?,vs with
  |some (.lst l),[]=>bif k==1&&m=="reverse"&&bZ l then some (.none,h.set r (.lst l.reverse)) else none
  |some (.lst l),[v]=>bif k==1&&m=="append"&&bZ l then some (.none,h.set r (.lst (l++[v]))) else none
  |some (.dci es),[.int i,d]=>bif k==2&&m=="get" then some ((es.lookup i).getD d,h) else none
  |_,_=>none)
 |_=>none
structure Cx where
 sc:Scope
 ρ:Ev
def As(k:Option NameKind):Bool:=match k with
 |some .local|some .cell|some .free=>true
 |_=>false
def M1(c:Cx)(x:Str):Option MV:=bif As (c.sc.names.lookup x) then (c.ρ.lookup x).join else none
def ez(c:Cx)(x:Str):Bool:=match c.sc.names.lookup x with
 |some .globalImplicit=>true
 |_=>false
def name(T:gI)(c:Cx)(x:Str):Option MV:=bif ez c x then T.glob x else M1 c x
def ci(x:Str):Bool:=!(x=="__debug__")&&!(x=="__classdict__")
def lU(ρ:Ev)(x:Str)(v:MV):Ev:=ρ.map fun p=>bif p.1==x then (p.1,some v) else p
def store(sc:Scope)(x:Str)(v:MV)(ρ:Ev):Option Ev:=match sc.names.lookup x with
 |some .local|some .cell=>bif ρ.any (fun p=>p.1==x) then some (lU ρ x v) else none
 |_=>none
structure lT where
 ev:Cx→PySem.Expr→M MV
 tst:Cx→PySem.Expr→M Bool
 ex:Scope→List Stmt→Ev→(Ev→M MV)→M MV
 call:Fn→List MV→M MV
def sI(r:lT)(c:Cx):List PySem.Expr→M (List MV)
 |[]=>ret []
 |e::es=>bnd (r.ev c e) fun v=>bnd (sI r c es) fun vs=>ret (v::vs)
def gu(r:lT)(c:Cx):List (Option PySem.Expr)→List PySem.Expr→M (List (MV×MV))
 |[],[]=>ret []
 |some k::ks,e::es=>bnd (r.ev c k) fun kv=>bnd (r.ev c e) fun v=>bnd (gu r c ks es) fun vs=>ret ((kv,v)::vs)
 |_,_=>fail
def cI(v:MV):M Bool:=match v with
 |.bool b=>ret b
 |_=>fail
def tt(r:lT)(c:Cx)(op:BoolOp):List PySem.Expr→M MV
 |[]=>fail
 |[e]=>r.ev c e
 |e::es=>bnd (r.ev c e) fun v=>bnd (cI v) fun b=>match op with
  |.And=>bif b then tt r c op es else ret (.bool false)
  |.Or=>bif b then ret (.bool true) else tt r c op es
def t8(r:lT)(c:Cx)(op:BoolOp):List PySem.Expr→M Bool
 |[]=>ret (match op with|.And=>true|.Or=>false)
 |e::es=>bnd (r.tst c e) fun b=>match op with
  |.And=>bif b then t8 r c op es else ret false
  |.Or=>bif b then ret true else t8 r c op es
def dA(op:CmpOp)(a b:MV):M Bool:=fun h=>match xC h op a b with
 |none=>none
 |some x=>some (x,h)
def xW(r:lT)(c:Cx)(l:PySem.Expr):List CmpOp→List PySem.Expr→M Bool
 |[op],[e]=>bif behindInMarks op e then fail else bnd (r.ev c l) fun a=>bnd (r.ev c e) fun b=>dA op a b
 |[op,op'],[e,e']=>bif behindInMarks op' e' then fail else bnd (r.ev c l) fun a=>bnd (r.ev c e) fun b=>bnd (dA op a b) fun x=>bif x then bnd (r.ev c e') fun d=>dA op' b d else ret false
 |_,_=>fail
def cj:List (MV×MV)→Option (List (Str×MV))
 |[]=>some []
 |(.str s,v)::r=>(cj r).map ((s,v)::·)
 |_=>none
def cP:List (MV×MV)→Option (List (Int×MV))
 |[]=>some []
 |(.int s,v)::r=>(cP r).map ((s,v)::·)
 |_=>none
def nodup{K:Type}[BEq K]:List K→Bool
 |[]=>true
 |k::r=>!r.contains k&&nodup r
def oI(o:MO):M MV:=fun h=>some (.ref h.length,h++[o])
def zm(T:gI)(p:Pos)(vs:List MV):M MV:=match T.made p with
 |some k=>bif k==0&&bZ vs then oI (.lst vs) else fail
 |none=>bif bZ vs then ret (.lst vs) else fail
def r6(T:gI)(p:Pos)(es:List (MV×MV)):M MV:=match T.made p with
 |some k=>bif k==1 then (match cj es with
  |some l=>bif nodup (l.map (·.1)) then oI (.dcs l) else fail
  |none=>fail)
  else bif k==2 then (match cP es with
  |some l=>bif nodup (l.map (·.1)) then oI (.dci l) else fail
  |none=>fail) else fail
 |none=>(match cj es with
  |some l=>bif nodup (l.map (·.1)) then ret (.dcs l) else fail
  |none=>(match cP es with
   |some l=>bif nodup (l.map (·.1)) then ret (.dci l) else fail
   |none=>fail))
def bE(o i:MV):M MV:=fun h=>match getItem h o i with
 |none=>none
 |some v=>some (v,h)
def dy(o:PySem.Expr):Bool:=match o with
 |.Call (.Name f _) [] [] _=>!(f=="super")
 |_=>true
def BL(v:MV):M (Option Int):=match v with
 |.int i=>ret (some i)
 |_=>fail
def gV(r:lT)(c:Cx):Option PySem.Expr→M (Option Int)
 |none=>ret none
 |some e=>bnd (r.ev c e) BL
def di(a b:Int):List MV:=(List.range (b - a).toNat).map fun(k:Nat)=>.int (a+(k:Int))
def qH(a b:Int):List MV:=(List.range (a - b).toNat).map fun(k:Nat)=>.int (a - (k:Int))
def small(i:Int):Bool:=decide (-100000≤i)&&decide (i≤100000)
def dN:List MV→Option (List MV)
 |[.int b]=>bif small b then some (di 0 b) else none
 |[.int a,.int b]=>bif small a&&small b then some (di a b) else none
 |[.int a,.int b,.int c]=>bif small a&&small b&&c==-1 then some (qH a b) else none
 |_=>none
def numbered:Int→List MV→List MV
 |_,[]=>[]
 |n,v::r=>.tup [.int n,v]::numbered (n+1) r
def gz:List MV→List MV→List MV
 |a::r,b::q=>.tup [a,b]::gz r q
 |_,_=>[]
def g9(v:MV):M (List MV):=match v with
 |.lst vs=>bif bZ vs then ret vs else fail
 |.tup vs=>bif bZ vs then ret vs else fail
 |_=>fail
def aI(r:lT)(c:Cx)(e:PySem.Expr):M (List MV):=match e with
 |.Call (.Name f p) as [] q=>bif ez c f&&f=="range" then bnd (sI r c as) fun vs=>opt (dN vs) else bnd (r.ev c (.Call (.Name f p) as [] q)) g9
 |e=>bnd (r.ev c e) g9
def Av:MV→Bool
 |.tup [_,_]=>true
 |_=>false
def dr(f:Str)(vs:List MV):Option (List MV):=
 bif f=="enumerate" then (match vs with
  |[.lst l]=>bif bZ l then some (numbered 0 l) else none
  |[.tup l]=>bif bZ l then some (numbered 0 l) else none
  |_=>none)
 else bif f=="zip" then (match vs with
  |[.lst a,.lst b]=>bif bZ a&&bZ b then some (gz a b) else none
  |_=>none)
 else none
def pM(v:MV):M (List MV):=match v with
 |.tup vs=>bif bZ vs&&vs.all Av then ret vs else fail
 |_=>fail
def lO(r:lT)(c:Cx)(e:PySem.Expr):M (List MV):=match e with
 |.Call (.Name f _) as [] _=>bif ez c f&&ci f then bnd (sI r c as) fun vs=>opt (dr f vs) else fail
 |e=>bnd (r.ev c e) pM
def fw(r:lT)(c:Cx)(t:PySem.Expr)(e:PySem.Expr):M (List MV):=match t with
 |.Name _ _=>aI r c e
 |.Tuple [.Name _ _,.Name _ _] _ _=>lO r c e
 |_=>fail
def oA(t:PySem.Expr)(v:MV):Option (List (Str×MV)):=match t with
 |.Name x _=>some [(x,v)]
 |.Tuple [.Name x _,.Name y _] _ _=>(match v with
  |.tup [a,b]=>bif x==y then none else some [(x,a),(y,b)]
  |_=>none)
 |_=>none
def bb(sc:Scope):List (Str×MV)→Ev→Option Ev
 |[],ρ=>some ρ
 |(x,v)::r,ρ=>match store sc x v ρ with
  |none=>none
  |some ρ'=>bb sc r ρ'
def fJ(c:Cx)(sc:Scope):Bool:=(match sc.kind with
 |.function=>true
 |_=>false)&&nodup (sc.names.map (·.1))&&sc.names.all fun p=>match p.2 with
 |.free=>(c.ρ.lookup p.1).join.isSome&&(match c.sc.names.lookup p.1 with
  |some .cell|some .free=>true
  |_=>false)
 |_=>true
def DT(r:lT)(c:Cx):List PySem.Expr→M Bool
 |[]=>ret true
 |e::es=>bnd (r.tst c e) fun b=>bif b then DT r c es else ret false
def bQ(f:MV→M (Option MV)):List MV→M (List MV)
 |[]=>ret []
 |v::vs=>bnd (f v) fun o=>bnd (bQ f vs) fun ys=>ret (o.toList++ys)
def BS(r:lT)(sc:Scope)(t elt:PySem.Expr)(ifs:List PySem.Expr)(ρ:Ev)(v:MV):M (Option MV):=
 bnd (opt ((oA t v).bind fun ps=>bb sc ps ρ)) fun ρ'=>bnd (DT r ⟨sc,ρ'⟩ ifs) fun b=>bif b then bnd (r.ev ⟨sc,ρ'⟩ elt) fun y=>ret (some y) else ret none
def ja(r:lT)(sc:Scope)(t elt:PySem.Expr)(ifs:List PySem.Expr)(ρ:Ev)(vs:List MV):M (List MV):=bQ (BS r sc t elt ifs ρ) vs
def bJ(sc:Scope)(ρ:Ev):Ev:=(sc.names.filterMap fun p=>match p.2 with
 |.local|.cell=>some (p.1,none)
 |_=>none)++ρ
def pE(ps:List Str)(ds:List MV)(vs:List MV):Option (List (Str×MV)):=
 bif Nat.ble vs.length ps.length&&Nat.ble ps.length (vs.length+ds.length) then some (ps.zip (vs++ds.drop (vs.length+ds.length - ps.length))) else none
def frame(sc:Scope)(bs:List (Str×MV)):Ev:=sc.names.filterMap fun p=>match p.2 with
 |.local|.cell=>some (p.1,bs.lookup p.1)
 |_=>none
def cK(r:lT)(self:Str)(c:Cx):List Stmt→List (Str×MV)→M (List (Str×MV))
 |[],fs=>ret fs
 |.Assign [.Attribute (.Name s _) a _] e _::rest,fs=>
  bif s==self&&ci self&&cN.contains a&&Nat.ble fs.length 100 then bnd (r.ev c e) fun v=>cK r self c rest (put a v fs) else fail
 |_,_=>fail
def lH(go:Str→Cx→List Stmt→List (Str×MV)→M (List (Str×MV)))(fn:Fn)(vs:List MV)(fs:List (Str×MV)):M (List (Str×MV)):=match fn.params with
 |s'::ps=>bnd (opt (pE ps fn.dflts vs)) fun bs=>go s' ⟨fn.scope,frame fn.scope bs⟩ fn.body fs
 |[]=>fail
def lJ(T:gI)(r:lT)(self:Str)(c:Cx)(ss:List Stmt)(fs:List (Str×MV)):M (List (Str×MV)):=match ss with
 |.Expr (.Call (.Attribute (.Name b _) i ap) (.Name s _::as) [] q) _::rest=>
  bif s==self&&i=="__init__"&&ez c b&&ci self&&ci b&&ap.endLine==q.line&&Nat.ble as.length 19 then bnd (sI r c as) fun vs=>(match T.init b with
   |some fn=>bnd (lH (cK r) fn vs fs) fun fs'=>cK r self c rest fs'
   |none=>fail)
  else fail
 |ss=>cK r self c ss fs
def dY(T:gI)(r:lT)(C:Str)(fn:Fn)(vs:List MV):M MV:=bnd (lH (lJ T r) fn vs []) fun fs=>ret (.inst C fs)
def l9(o:MV)(as:List PySem.Expr):Option MV:=match o,as with
 |.str s,[.Constant (.str y) _ _,.Constant (.str z) _ _]=>bif t0 s&&Nat.ble z.length 14&&!(y==z) then some (.str (Txt.replace s y z)) else none
 |_,_=>none
def nY(T:gI)(r:lT)(c:Cx)(f:PySem.Expr)(as:List PySem.Expr)(q:Pos):M MV:=match f with
 |.Name f _=>bif ez c f&&ci f then (match T.fn f with
   |some fn=>bnd (sI r c as) fun vs=>r.call fn vs
   |none=>(match T.init f with
    |some fn=>bnd (sI r c as) fun vs=>dY T r f fn vs
    |none=>bnd (sI r c as) fun vs=>builtin f vs)) else fail
 |.Attribute o m ap=>bif !(dy o&&ap.endLine==q.line&&Nat.ble as.length 20) then fail else bnd (r.ev c o) fun ov=>bif m=="replace" then opt (l9 ov as) else (match ov with
   |.inst C fs=>(match T.meth C m with
    |some fn=>bif (fs.lookup m).isSome then fail else bnd (sI r c as) fun vs=>r.call fn (ov::vs)
    |none=>fail)
   |_=>bnd (dI ov m) fun k=>bnd (sI r c as) fun vs=>bx k ov m vs)
 |_=>fail
def wE:Const→Option MV
 |.none=>some .none
 |.bool b=>some (.bool b)
 |.int i=>some (.int i)
 |.str s=>some (.str s)
 |_=>none
def bool(b:Bool):M MV:=ret (.bool b)
def lM(T:gI)(r:lT)(c:Cx)(e:PySem.Expr):M MV:=match e with
 |.Constant k _ _=>opt (wE k)
 |.Name x _=>bif ci x then opt (name T c x) else fail
 |.BoolOp op es _=>tt r c op es
 |.BinOp a op b _=>bnd (r.ev c a) fun x=>bnd (r.ev c b) fun y=>opt (bF op x y)
 |.UnaryOp op a _=>bnd (r.ev c a) fun x=>opt (uC op x)
 |.IfExp t a b _=>bnd (r.tst c t) fun x=>bif x then r.ev c a else r.ev c b
 |.Dict ks vs p=>bif Nat.ble ks.length 15 then bnd (gu r c ks vs) fun es=>r6 T p es else fail
 |.List es p=>bnd (sI r c es) fun vs=>zm T p vs
 |.Tuple es _ _=>bnd (sI r c es) fun vs=>bif bZ vs then ret (.tup vs) else fail
 |.ListComp elt [⟨.Name x p,it,ifs,a⟩] sc _=>bif a==0&&fJ c sc then bnd (aI r c it) fun vs=>bnd (ja r sc (.Name x p) elt ifs (bJ sc c.ρ) vs) fun ys=>ret (.lst ys) else fail
 |.Compare l ops es _=>bnd (xW r c l ops es) bool
 |.Call f as [] q=>nY T r c f as q
 |.Attribute o a _=>bif dy o then bnd (r.ev c o) fun ov=>opt (Cz ov a) else fail
 |.Subscript o i _=>(match i with
  |.Slice lo hi none _=>bnd (r.ev c o) fun ov=>bnd (gV r c lo) fun a=>bnd (gV r c hi) fun b=>opt (dd ov a b)
  |i=>bnd (r.ev c o) fun ov=>bnd (r.ev c i) fun iv=>bE ov iv)
 |_=>fail
def kc(r:lT)(c:Cx)(e:PySem.Expr):M Bool:=match e with
 |.UnaryOp .Not a _=>bnd (r.tst c a) fun b=>ret (!b)
 |.BoolOp op es _=>t8 r c op es
 |.IfExp t a b _=>bnd (r.tst c t) fun x=>bif x then r.tst c a else r.tst c b
 |.Compare l ops es _=>xW r c l ops es
 |e=>bnd (r.ev c e) cI
def mq(r:lT)(sc:Scope)(t:PySem.Expr)(body:List Stmt)(k:Ev→M MV):List MV→Ev→M MV
 |[],ρ=>k ρ
 |v::vs,ρ=>bnd (opt ((oA t v).bind fun ps=>bb sc ps ρ)) fun ρ'=>r.ex sc body ρ' (mq r sc t body k vs)
def fk(r:lT)(sc:Scope)(t:PySem.Expr)(v:MV)(ρ:Ev):M Ev:=match t with
 |.Name x _=>opt (store sc x v ρ)
 |.Subscript o i _=>(match i with
  |.Slice ..=>fail
  |i=>bnd (r.ev ⟨sc,ρ⟩ o) fun ov=>bnd (r.ev ⟨sc,ρ⟩ i) fun iv=>bnd (setItem ov iv v) fun _=>ret ρ)
 |_=>fail
def dh(r:lT)(sc:Scope):List PySem.Expr→List MV→Ev→M Ev
 |[],[],ρ=>ret ρ
 |t::ts,v::vs,ρ=>bnd (fk r sc t v ρ) fun ρ'=>dh r sc ts vs ρ'
 |_,_,_=>fail
def gi(r:lT)(sc:Scope)(t:PySem.Expr)(v:MV)(ρ:Ev)(k:Ev→M MV):M MV:=match t with
 |.Name x _=>bnd (opt (store sc x v ρ)) k
 |.Subscript o i _=>(match i with
  |.Slice ..=>fail
  |i=>bnd (r.ev ⟨sc,ρ⟩ o) fun ov=>bnd (r.ev ⟨sc,ρ⟩ i) fun iv=>bnd (setItem ov iv v) fun _=>k ρ)
 |_=>fail
def Mu(vs:List MV)(K:M MV):M MV:=match vs with
 |[]=>K
 |_::_=>fail
def Ce(vs:List MV)(K:MV→List MV→M MV):M MV:=match vs with
 |[]=>fail
 |a::r=>K a r
def dS(r:lT)(sc:Scope):List PySem.Expr→List MV→Ev→(Ev→M MV)→M MV
 |[]=>fun vs ρ k=>Mu vs (k ρ)
 |t::ts=>fun vs ρ k=>Ce vs fun v vs=>gi r sc t v ρ fun ρ'=>dS r sc ts vs ρ' k
def b0:List PySem.Expr→Option (List Str)
 |[]=>some []
 |.Name x _::r=>(b0 r).bind fun l=>bif l.contains x then none else some (x::l)
 |_=>none
def qj(ts:List PySem.Expr):PySem.Expr→Bool
 |.Tuple vs _ _=>ts.any (fun|.Name ..=>false|_=>true)||((b0 ts).isSome&&!vs.all (constantsAlone 8))
 |_=>true
def nG(T:gI)(r:lT)(sc:Scope)(s:Stmt)(ρ:Ev)(k:Ev→M MV):M MV:=match s with
 |.Return (some e) _=>r.ev ⟨sc,ρ⟩ e
 |.Return none _=>ret .none
 |.Pass _=>k ρ
 |.If t a b _=>bnd (r.tst ⟨sc,ρ⟩ t) fun x=>bif x then r.ex sc a ρ k else r.ex sc b ρ k
 |.For t it body [] _=>bnd (fw r ⟨sc,ρ⟩ t it) fun vs=>mq r sc t body k vs ρ
 |.Expr (.Call f as ks q) _=>bnd (r.ev ⟨sc,ρ⟩ (.Call f as ks q)) fun v=>(match v with
  |.none=>k ρ
  |_=>fail)
 |.Assign [t] e _=>(match t with
  |.Tuple ts _ _=>bif qj ts e then
    bnd (r.ev ⟨sc,ρ⟩ e) fun v=>(match v with
    |.tup vs=>dS r sc ts vs ρ k
    |_=>fail) else fail
  |t=>bnd (r.ev ⟨sc,ρ⟩ e) fun v=>gi r sc t v ρ k)
 |_=>fail
def fC(T:gI)(r:lT)(sc:Scope):List Stmt→Ev→(Ev→M MV)→M MV
 |[],ρ,k=>k ρ
 |s::rest,ρ,k=>nG T r sc s ρ fun ρ'=>fC T r sc rest ρ' k
def fE(r:lT)(fn:Fn)(vs:List MV):M MV:=
 bnd (opt (pE fn.params fn.dflts vs)) fun bs=>r.ex fn.scope fn.body (frame fn.scope bs) fun _=>ret .none
def aQ(T:gI):Nat→lT
 |0=>⟨fun _ _=>fail,fun _ _=>fail,fun _ _ _ _=>fail,fun _ _=>fail⟩
 |n+1=>let r:=aQ T n;⟨lM T r,kc r,fC T r,fE r⟩
end
section
open PySem
def KQ:PySem.Expr→Option MV
 |.Constant k _ _=>wE k
 |_=>none
def Gr(body:List Stmt)(f:Str):Option Fn:=match body with
 |[]=>none
 |.FunctionDef n a b _ _ _ sc _ _ _::rest=>bif n==f then some ⟨n,a.args.map (·.arg),a.defaults.filterMap KQ,b,sc⟩ else Gr rest f
 |_::rest=>Gr rest f
def uW(body:List Stmt)(f:Str):Option (List Stmt×Option Str):=match body with
 |[]=>none
 |.ClassDef n bs _ b _ _ _ _ _ _ _::rest=>bif n==f then some (b,match bs with|[.Name x _]=>some x|_=>none) else uW rest f
 |_::rest=>uW rest f
def top:List Stmt:=PySem.Challenge.pw_nn0054_01.main.body
def GR(C m:Str):Option Fn:=match uW top C with
 |none=>none
 |some (b,base)=>match Gr b m with
  |some fn=>some fn
  |none=>match base with
   |none=>none
   |some B=>match uW top B with
    |none=>none
    |some (b',_)=>Gr b' m
def Ln:List (Nat×Nat×Nat):=[(326,12,0),(400,11,0),(463,12,1),(473,12,1),(473,38,0),(473,47,2),(473,56,1),(473,68,0),(473,79,0),(482,12,1),(483,66,0),(483,70,0),(538,13,1),(703,11,1)]
def vC(body:List Stmt)(f:Str):Option MV:=match body with
 |[]=>none
 |.Assign [.Name n _] e _::rest=>bif n==f then KQ e else vC rest f
 |_::rest=>vC rest f
def EO:List (Str×Addr):=[(("condition_names":Str),80),(("condition_of":Str),87),(("string_stem":Str),94),(("condition_number":Str),101),(("six_flags":Str),108),(("flags_of_condition":Str),115),(("reads_flags":Str),122),(("writes_flags":Str),129),(("sure_flags":Str),137),(("operand_size":Str),361),(("flag_mask":Str),368),(("bits_of":Str),373),(("register_mask":Str),380),(("address_mask":Str),387),(("is_string":Str),394),(("writes_first":Str),401),(("reads_first":Str),408),(("string_uses":Str),415),(("implied_uses":Str),422),(("used_masks":Str),429),(("memory_uses":Str),436),(("uses":Str),443),(("shift_count":Str),450),(("sure_mask":Str),457),(("flags_before":Str),464),(("dead_flags":Str),469),(("early_names":Str),532),(("late_ending":Str),539),(("gpr":Str),546),(("high":Str),553),(("_law_take":Str),560),(("_law_bag":Str),567),(("_law_names":Str),574),(("_law_numbers":Str),581),(("_law_register":Str),588),(("_law_mem":Str),595),(("_law_goal":Str),602),(("_law_move":Str),609),(("_law_row":Str),616),(("_law_places":Str),623),(("_law_world":Str),628),(("_law_copy":Str),635),(("_law_spot":Str),642),(("_law_bits":Str),649),(("_law_load":Str),654),(("_law_store":Str),661),(("_law_get":Str),668),(("_law_put":Str),675),(("_law_sign":Str),682),(("_law_szp":Str),687),(("_law_sum":Str),694),(("_law_holds":Str),701),(("_law_shift":Str),708),(("_law_two":Str),715),(("_law_one":Str),720),(("_law_stack":Str),727),(("_law_product":Str),734),(("_law_string":Str),741),(("_law_word":Str),748),(("_law_do":Str),755),(("_law_looks":Str),762),(("_law_sets":Str),769),(("_law_is_dead":Str),776),(("_law_end":Str),781),(("_law_is_used_right":Str),786),(("law":Str),791)]
def xN:List (Str×Addr×Addr):=[(("Operand":Str),175,151),(("Reg":Str),210,193),(("Imm":Str),244,227),(("Mem":Str),297,261),(("Instruction":Str),350,314),(("Register":Str),521,483)]
def re:List (Str×Str×Addr):=[(("Reg":Str),("told":Str),200),(("Imm":Str),("told":Str),234),(("Mem":Str),("told":Str),268),(("Mem":Str),("registers":Str),280),(("Instruction":Str),("told":Str),319),(("Instruction":Str),("memory_at":Str),326)]
def Bd:List Str:=["CONDITIONS","FLAG_NAMES","ONLY_READS","FRESH","FRESH_LANES","LOW_PARTS","HALF_MOVES","HALVES","STACK_NAMES","SHIFT_NAMES","NAMES_8","NAMES_16","NAMES_32","NAMES_64","HIGH_NAMES"]
def vF(C m:Str)(p:Str×Str×Addr):Bool:=p.1==C&&p.2.1==m
def T:gI where
 fn:=fun f=>(EO.lookup f).bind fun _=>Gr top f
 init:=fun C=>(xN.lookup C).bind fun _=>GR C "__init__"
 meth:=fun C m=>(re.find? (vF C m)).bind fun _=>GR C m
 made:=fun p=>(Ln.find? fun x=>x.1==p.line&&x.2.1==p.col).map (·.2.2)
 glob:=fun x=>bif Bd.contains x then vC top x else none
def La(f:Str):Fn:=⟨f,[],[],[],default⟩
def fnOf(f:Str):Fn:=(T.fn f).getD (La f)
def dM(C:Str):Fn:=(T.init C).getD (La C)
def ed(C m:Str):Fn:=(T.meth C m).getD (La m)
def eU(T:gI)(cl:Fn→List MV→M MV):Nat→lT
 |0=>⟨fun _ _=>fail,fun _ _=>fail,fun _ _ _ _=>fail,cl⟩
 |n+1=>let r:=eU T cl n;⟨lM T r,kc r,fC T r,cl⟩
def an(T:gI)(cl:Fn→List MV→M MV)(f:Fn)(vs:List MV):M MV:=fE (eU T cl 20) f vs
def ab(T:gI):Nat→Fn→List MV→M MV
 |0=>fun _ _=>fail
 |c+1=>an T (ab T c)
end
section
open PySem
variable{α β:Type}{T:gI}
def aV(m m':M α):Prop:=∀ H r,m H=some r→m' H=some r
theorem aV.rfl{m:M α}:aV m m:=fun _ _ h=>h
theorem aV.trans{a b c:M α}(x:aV a b)(y:aV b c):aV a c:=fun _ _ h=>y _ _ (x _ _ h)
theorem aV.fail{m:M α}:aV fail m:=fun _ _ h=>by cases h
theorem ak{m m':M α}{f f':α→M β}(h:aV m m')(k:∀ a,aV (f a) (f' a)):aV (bnd m f) (bnd m' f'):=fun H r e=>by
 unfold bnd at e ⊢
 cases q:m H with
 |none=>rw[q] at e;cases e
 |some p=>rw[q] at e;rw[h _ _ q];exact k _ _ _ e
theorem aZ(b:Bool){x x' y y':M α}(h1:aV x x')(h2:aV y y'):aV (bif b then x else y) (bif b then x' else y'):=by cases b<;>assumption
structure Ob(r r':lT):Prop where
 ev:∀ c e,aV (r.ev c e) (r'.ev c e)
 tst:∀ c e,aV (r.tst c e) (r'.tst c e)
 ex:∀ sc ss ρ k k',(∀ ρ,aV (k ρ) (k' ρ))→aV (r.ex sc ss ρ k) (r'.ex sc ss ρ k')
 call:∀ f vs,aV (r.call f vs) (r'.call f vs)
variable{r r':lT}(h:Ob r r')
include h
theorem cJ(c:Cx):∀ es,aV (sI r c es) (sI r' c es)
 |[]=>aV.rfl
 |e::es=>ak (h.ev c e) fun _=>ak (cJ c es) fun _=>aV.rfl
theorem l6(c:Cx):∀ ks es,aV (gu r c ks es) (gu r' c ks es)
 |[],[]=>aV.rfl
 |some k::ks,e::es=>ak (h.ev c k) fun _=>ak (h.ev c e) fun _=>ak (l6 c ks es) fun _=>aV.rfl
 |none::_,_=>aV.fail
 |[],_::_=>aV.fail
 |some _::_,[]=>aV.fail
theorem lK(c:Cx)(op:BoolOp):∀ es,aV (tt r c op es) (tt r' c op es)
 |[]=>aV.fail
 |[e]=>h.ev c e
 |e::e'::es=>ak (h.ev c e) fun v=>ak aV.rfl fun b=>by
  cases op
  ·exact aZ b (lK c _ (e'::es)) aV.rfl
  ·exact aZ b aV.rfl (lK c _ (e'::es))
theorem lP(c:Cx)(op:BoolOp):∀ es,aV (t8 r c op es) (t8 r' c op es)
 |[]=>aV.rfl
 |e::es=>ak (h.tst c e) fun b=>by
  cases op
  ·exact aZ b (lP c _ es) aV.rfl
  ·exact aZ b aV.rfl (lP c _ es)
theorem uc(c:Cx)(l:PySem.Expr):∀ ops es,aV (xW r c l ops es) (xW r' c l ops es):=fun ops es=>by
 unfold xW
 split
 ·exact aZ _ aV.rfl (ak (h.ev c l) fun _=>ak (h.ev c _) fun _=>aV.rfl)
 ·exact aZ _ aV.rfl (ak (h.ev c l) fun _=>ak (h.ev c _) fun _=>ak aV.rfl fun x=>aZ x (ak (h.ev c _) fun _=>aV.rfl) aV.rfl)
 ·exact aV.rfl
theorem lW(c:Cx):∀ x,aV (gV r c x) (gV r' c x)
 |none=>aV.rfl
 |some e=>ak (h.ev c e) fun _=>aV.rfl
theorem qJ(c:Cx)(e:PySem.Expr):aV (aI r c e) (aI r' c e):=by
 unfold aI
 split
 ·exact aZ _ (ak (cJ h c _) fun _=>aV.rfl) (ak (h.ev c _) fun _=>aV.rfl)
 ·exact ak (h.ev c _) fun _=>aV.rfl
theorem xH(c:Cx)(e:PySem.Expr):aV (lO r c e) (lO r' c e):=by
 unfold lO
 split
 ·exact aZ _ (ak (cJ h c _) fun _=>aV.rfl) aV.rfl
 ·exact ak (h.ev c _) fun _=>aV.rfl
theorem sS(c:Cx)(t e:PySem.Expr):aV (fw r c t e) (fw r' c t e):=by
 unfold fw
 split
 ·exact qJ h c e
 ·exact xH h c e
 ·exact aV.rfl
theorem tm(c:Cx):∀ es,aV (DT r c es) (DT r' c es)
 |[]=>aV.rfl
 |e::es=>ak (h.tst c e) fun b=>aZ b (tm c es) aV.rfl
theorem A3(sc:Scope)(t elt:PySem.Expr)(ifs:List PySem.Expr)(ρ:Ev)(v:MV):aV (BS r sc t elt ifs ρ v) (BS r' sc t elt ifs ρ v):=
 ak aV.rfl fun ρ'=>ak (tm h _ ifs) fun b=>aZ b (ak (h.ev _ elt) fun _=>aV.rfl) aV.rfl
omit h in
theorem qO {f f':MV→M (Option MV)} (hf:∀ v,aV (f v) (f' v)):∀ vs,aV (bQ f vs) (bQ f' vs)
 |[]=>aV.rfl
 |v::vs=>ak (hf v) fun o=>ak (qO hf vs) fun ys=>aV.rfl
theorem A9(sc:Scope)(t elt:PySem.Expr)(ifs:List PySem.Expr)(ρ:Ev)(vs:List MV):aV (ja r sc t elt ifs ρ vs) (ja r' sc t elt ifs ρ vs):=qO (A3 h sc t elt ifs ρ) vs
theorem eF(self:Str)(c:Cx):∀ ss fs,aV (cK r self c ss fs) (cK r' self c ss fs)
 |[],fs=>aV.rfl
 |s::ss,fs=>by
  unfold cK
  split
  ·exact aV.rfl
  ·rename_i heq
   cases heq
   exact aZ _ (ak (h.ev c _) fun v=>eF self c _ _) aV.rfl
  ·exact aV.rfl
theorem oZ{go go':Str→Cx→List Stmt→List (Str×MV)→M (List (Str×MV))}(hg:∀ s c ss fs,aV (go s c ss fs) (go' s c ss fs))(fn:Fn)(vs:List MV)(fs:List (Str×MV)):aV (lH go fn vs fs) (lH go' fn vs fs):=by
 unfold lH
 split
 ·exact ak aV.rfl fun bs=>hg _ _ _ _
 ·exact aV.rfl
theorem vS(self:Str)(c:Cx)(ss:List Stmt)(fs:List (Str×MV)):aV (lJ T r self c ss fs) (lJ T r' self c ss fs):=by
 unfold lJ
 split
 ·refine aZ _ (ak (cJ h c _) fun vs=>?_) aV.rfl
  split
  ·exact ak (oZ h (eF h) _ _ _) fun _=>eF h _ _ _ _
  ·exact aV.rfl
 ·exact eF h _ _ _ _
theorem yc(C:Str)(fn:Fn)(vs:List MV):aV (dY T r C fn vs) (dY T r' C fn vs):=ak (oZ h (vS h) _ _ _) fun _=>aV.rfl
theorem xz(c:Cx)(f:PySem.Expr)(as:List PySem.Expr)(q:Pos):aV (nY T r c f as q) (nY T r' c f as q):=by
 unfold nY
 split
 ·refine aZ _ ?_ aV.rfl
  split
  ·exact ak (cJ h c as) fun _=>h.call _ _
  ·split
   ·exact ak (cJ h c as) fun _=>yc h _ _ _
   ·exact ak (cJ h c as) fun _=>aV.rfl
 ·refine aZ _ aV.rfl (ak (h.ev c _) fun ov=>aZ _ aV.rfl ?_)
  split
  ·split
   ·exact aZ _ aV.rfl (ak (cJ h c as) fun _=>h.call _ _)
   ·exact aV.rfl
  ·exact ak aV.rfl fun _=>ak (cJ h c as) fun _=>aV.rfl
 ·exact aV.rfl
theorem jL(c:Cx)(e:PySem.Expr):aV (lM T r c e) (lM T r' c e):=by
 unfold lM
 split
 ·exact aV.rfl
 ·exact aV.rfl
 ·exact lK h c _ _
 ·exact ak (h.ev c _) fun _=>ak (h.ev c _) fun _=>aV.rfl
 ·exact ak (h.ev c _) fun _=>aV.rfl
 ·exact ak (h.tst c _) fun x=>aZ x (h.ev c _) (h.ev c _)
 ·exact aZ _ (ak (l6 h c _ _) fun _=>aV.rfl) aV.rfl
 ·exact ak (cJ h c _) fun _=>aV.rfl
 ·exact ak (cJ h c _) fun _=>aV.rfl
 ·exact aZ _ (ak (qJ h c _) fun _=>ak (A9 h _ _ _ _ _ _) fun _=>aV.rfl) aV.rfl
 ·exact ak (uc h c _ _ _) fun _=>aV.rfl
 ·exact xz h c _ _ _
 ·exact aZ _ (ak (h.ev c _) fun _=>aV.rfl) aV.rfl
 ·split
  ·exact ak (h.ev c _) fun _=>ak (lW h c _) fun _=>ak (lW h c _) fun _=>aV.rfl
  ·exact ak (h.ev c _) fun _=>ak (h.ev c _) fun _=>aV.rfl
 ·exact aV.rfl
theorem io(c:Cx)(e:PySem.Expr):aV (kc r c e) (kc r' c e):=by
 unfold kc
 split
 ·exact ak (h.tst c _) fun _=>aV.rfl
 ·exact lP h c _ _
 ·exact ak (h.tst c _) fun x=>aZ x (h.tst c _) (h.tst c _)
 ·exact uc h c _ _ _
 ·exact ak (h.ev c _) fun _=>aV.rfl
theorem td(sc:Scope)(t:PySem.Expr)(body:List Stmt){k k':Ev→M MV}(hk:∀ ρ,aV (k ρ) (k' ρ)):∀ vs ρ,aV (mq r sc t body k vs ρ) (mq r' sc t body k' vs ρ)
 |[],ρ=>hk ρ
 |v::vs,ρ=>ak aV.rfl fun ρ'=>h.ex _ _ _ _ _ fun ρ=>td sc t body hk vs ρ
theorem nb(sc:Scope)(t:PySem.Expr)(v:MV)(ρ:Ev){k k':Ev→M MV}(hk:∀ ρ,aV (k ρ) (k' ρ)):aV (gi r sc t v ρ k) (gi r' sc t v ρ k'):=by
 unfold gi
 split
 ·exact ak aV.rfl hk
 ·split
  ·exact aV.rfl
  ·exact ak (h.ev _ _) fun _=>ak (h.ev _ _) fun _=>ak aV.rfl fun _=>hk ρ
 ·exact aV.rfl
theorem lc(sc:Scope):∀ ts vs ρ {k k':Ev→M MV},(∀ ρ,aV (k ρ) (k' ρ))→aV (dS r sc ts vs ρ k) (dS r' sc ts vs ρ k')
 |[],[],ρ,_,_,hk=>hk ρ
 |t::ts,v::vs,ρ,_,_,hk=>nb h sc t v ρ fun ρ'=>lc sc ts vs ρ' hk
 |[],_::_,_,_,_,_=>aV.rfl
 |_::_,[],_,_,_,_=>aV.rfl
theorem wS(sc:Scope)(s:Stmt)(ρ:Ev){k k':Ev→M MV}(hk:∀ ρ,aV (k ρ) (k' ρ)):aV (nG T r sc s ρ k) (nG T r' sc s ρ k'):=by
 unfold nG
 split
 ·exact h.ev _ _
 ·exact aV.rfl
 ·exact hk ρ
 ·exact ak (h.tst _ _) fun x=>aZ x (h.ex _ _ _ _ _ hk) (h.ex _ _ _ _ _ hk)
 ·exact ak (sS h _ _ _) fun vs=>td h _ _ _ hk vs ρ
 ·refine ak (h.ev _ _) fun v=>?_
  split
  ·exact hk ρ
  ·exact aV.rfl
 ·split
  ·refine aZ _ (ak (h.ev _ _) fun v=>?_) aV.rfl
   split
   ·exact lc h _ _ _ _ hk
   ·exact aV.rfl
  ·exact ak (h.ev _ _) fun v=>nb h _ _ _ _ hk
 ·exact aV.rfl
theorem iY(sc:Scope):∀ ss ρ {k k':Ev→M MV},(∀ ρ,aV (k ρ) (k' ρ))→aV (fC T r sc ss ρ k) (fC T r' sc ss ρ k')
 |[],ρ,_,_,hk=>hk ρ
 |s::ss,ρ,_,_,hk=>wS h sc s ρ fun ρ'=>iY sc ss ρ' hk
theorem gA(f:Fn)(vs:List MV):aV (fE r f vs) (fE r' f vs):=ak aV.rfl fun _=>h.ex _ _ _ _ _ fun _=>aV.rfl
omit h
theorem t9:∀ n,Ob (aQ T n) (aQ T (n+1))
 |0=>⟨fun _ _=>aV.fail,fun _ _=>aV.fail,fun _ _ _ _ _ _=>aV.fail,fun _ _=>aV.fail⟩
 |n+1=>have h:=t9 n;⟨jL h,io h,fun sc ss ρ k k' hk=>iY h sc ss ρ hk,gA h⟩
theorem tg:∀ (k n:Nat) f vs,aV ((aQ T n).call f vs) ((aQ T (n+k)).call f vs)
 |0,n,f,vs=>aV.rfl
 |k+1,n,f,vs=>(tg k n f vs).trans ((t9 (n+k)).call f vs)
theorem B6{cl:Fn→List MV→M MV}{n:Nat}(h:∀ f vs,aV (cl f vs) ((aQ T n).call f vs)):∀ k,Ob (eU T cl k) (aQ T (n+k))
 |0=>⟨fun _ _=>aV.fail,fun _ _=>aV.fail,fun _ _ _ _ _ _=>aV.fail,h⟩
 |k+1=>have h':=B6 h k;⟨jL h',io h',fun sc ss ρ k k' hk=>iY h' sc ss ρ hk,fun f vs=>(h f vs).trans (tg (k+1) n f vs)⟩
theorem wv:∀ c,∀ f vs,aV (ab T c f vs) ((aQ T (21 * c)).call f vs)
 |0=>fun _ _=>aV.fail
 |c+1=>fun f vs=>gA (B6 (wv c) 20) f vs
theorem tA{cl cl':Fn→List MV→M MV}(h:∀ f vs,aV (cl f vs) (cl' f vs)):∀ k,Ob (eU T cl k) (eU T cl' k)
 |0=>⟨fun _ _=>aV.fail,fun _ _=>aV.fail,fun _ _ _ _ _ _=>aV.fail,h⟩
 |k+1=>have h':=tA h k;⟨jL h',io h',fun sc ss ρ k k' hk=>iY h' sc ss ρ hk,h⟩
theorem oE:∀ c,∀ f vs,aV (ab T c f vs) (ab T (c+1) f vs)
 |0=>fun _ _=>aV.fail
 |c+1=>fun f vs=>gA (tA (oE c) 20) f vs
theorem qS:∀ (k c:Nat) f vs,aV (ab T c f vs) (ab T (c+k) f vs)
 |0,c,f,vs=>aV.rfl
 |k+1,c,f,vs=>(qS k c f vs).trans (oE (c+k) f vs)
end
end Mine
namespace Mine.S
section
open PySem PySem.W PySem.Calls PyProof.Rows
abbrev Le(g h:Heap):Prop:=∀ b o,g.get? b=some o→h.get? b=some o
theorem Le.refl(h:Heap):Le h h:=fun _ _ e=>e
theorem Le.trans{a b c:Heap}(x:Le a b)(y:Le b c):Le a c:=fun _ _ e=>y _ _ (x _ _ e)
def only(h:Heap)(p:Addr→Bool):Heap:=⟨h.objs.mapIdx fun i o=>bif p i then o else ⟨o.cls,o.dict,.freed,o.slots⟩,h.life⟩
theorem l4(h:Heap)(p:Addr→Bool)(a:Addr):(only h p).get? a=bif p a then h.get? a else none:=by
 unfold only Heap.get?
 dsimp only
 rw[Array.getElem?_mapIdx]
 cases h.objs[a]? with
 |none=>cases p a<;>rfl
 |some o=>
  cases hp:p a with
  |true=>simp[hp]
  |false=>simp[hp]
theorem grow{G h:Heap}(k:Le G h)(L:List Addr):∃ G',Le G G'∧Le G' h∧(∀ a∈L,G'.get? a=h.get? a)∧∀ b,G'.get? b≠none→G.get? b≠none∨b∈L:=by
 refine⟨only h fun b=>(G.get? b).isSome||decide (b∈L),fun b o e=>?_,fun b o e=>?_,fun a ha=>?_,fun b hb=>?_⟩
 ·rw[l4,e];exact k b o e
 ·rw[l4] at e
  cases q:(G.get? b).isSome||decide (b∈L) with
  |true=>rw[q] at e;exact e
  |false=>rw[q] at e;cases e
 ·rw[l4,decide_eq_true ha,Bool.or_true];rfl
 ·rw[l4] at hb
  cases q:(G.get? b).isSome with
  |true=>left;intro e;rw[e] at q;cases q
  |false=>
   rw[q,Bool.false_or] at hb
   by_cases hm:b∈L
   ·exact .inr hm
   ·rw[decide_eq_false hm] at hb;exact absurd rfl hb
section
variable{prog:Program}{w:World}{cls:Str→Option Addr}
mutual
inductive bX (prog:Program) (w:World) (cls:Str→Option Addr) (G:Heap) (μ:List Addr):Value→MV→Prop
 |none:bX prog w cls G μ .none .none
 |bool (b:Bool):bX prog w cls G μ (.bool b) (.bool b)
 |int (i:Int) (t:Tok):bX prog w cls G μ (.int i t) (.int i)
 |str (s:Str) (t:Tok):bX prog w cls G μ (.str s t) (.str s)
 |tup {a:Addr} {vs:List Value} {ms:List MV}:G.IsTuple a vs.toArray→aW prog w cls G μ vs ms→bX prog w cls G μ (.ref a) (.tup ms)
 |lst {a:Addr} {vs:List Value} {ms:List MV}:G.PlainList a vs.toArray→aW prog w cls G μ vs ms→bX prog w cls G μ (.ref a) (.lst ms)
 |raw {a:Addr} {vs:List Value} {ms:List MV}:G.IsList a vs.toArray→aW prog w cls G μ vs ms→bX prog w cls G μ (.ref a) (.raw ms)
 |dcs {a:Addr} {kvs:List (Str×Value)} {es:List (Str×MV)}:(a==sysModules)=false→G.DictOf (strKind prog w) a kvs→fq prog w cls G μ kvs es→bX prog w cls G μ (.ref a) (.dcs es)
 |dci {a:Addr} {kvs:List (Int×Value)} {es:List (Int×MV)}:(a==sysModules)=false→G.DictOf (intKind prog w) a kvs→fN prog w cls G μ kvs es→bX prog w cls G μ (.ref a) (.dci es)
 |inst {a d C:Addr} {c:Str} {kvs:List (Str×Value)} {fs:List (Str×MV)}:cls c=some C→G.get? a=some (instObj C d)→G.DictOf (strKind prog w) d kvs→fq prog w cls G μ kvs fs→bX prog w cls G μ (.ref a) (.inst c fs)
 |ref {a:Addr} {i:Nat}:μ[i]?=some a→bX prog w cls G μ (.ref a) (.ref i)
inductive aW (prog:Program) (w:World) (cls:Str→Option Addr) (G:Heap) (μ:List Addr):List Value→List MV→Prop
 |nil:aW prog w cls G μ [] []
 |cons {v:Value} {m:MV} {vs:List Value} {ms:List MV}:bX prog w cls G μ v m→aW prog w cls G μ vs ms→aW prog w cls G μ (v::vs) (m::ms)
inductive fq (prog:Program) (w:World) (cls:Str→Option Addr) (G:Heap) (μ:List Addr):List (Str×Value)→List (Str×MV)→Prop
 |nil:fq prog w cls G μ [] []
 |cons {k:Str} {v:Value} {m:MV} {vs:List (Str×Value)} {ms:List (Str×MV)}:bX prog w cls G μ v m→fq prog w cls G μ vs ms→fq prog w cls G μ ((k,v)::vs) ((k,m)::ms)
inductive fN (prog:Program) (w:World) (cls:Str→Option Addr) (G:Heap) (μ:List Addr):List (Int×Value)→List (Int×MV)→Prop
 |nil:fN prog w cls G μ [] []
 |cons {k:Int} {v:Value} {m:MV} {vs:List (Int×Value)} {ms:List (Int×MV)}:bX prog w cls G μ v m→fN prog w cls G μ vs ms→fN prog w cls G μ ((k,v)::vs) ((k,m)::ms)
end
variable{G G' G'':Heap}{μ μ' μ'':List Addr}
theorem aT{h h':Heap}{a:Addr}{aI:Array Value}(x:h.IsTuple a aI)(k:Le h h'):h'.IsTuple a aI:=let ⟨o,ho,r⟩:=x;⟨o,k _ _ ho,r⟩
theorem aP{h h':Heap}{a:Addr}{aI:Array Value}(x:h.PlainList a aI)(k:Le h h'):h'.PlainList a aI:=let ⟨n,ho⟩:=x;⟨n,k _ _ ho⟩
theorem jv{h h':Heap}{a:Addr}{aI:Array Value}(x:h.IsList a aI)(k:Le h h'):h'.IsList a aI:=let ⟨o,ho,r⟩:=x;⟨o,k _ _ ho,r⟩
theorem bY{K:Type}[DecidableEq K]{knd:KeyKind prog w K}{h h':Heap}{a:Addr}{kvs:List (K×Value)}(x:h.DictOf knd a kvs)(k:Le h h'):h'.DictOf knd a kvs:=let ⟨o,es,ep,ho,r⟩:=x;⟨o,es,ep,k _ _ ho,r⟩
theorem JC{μ μ':List Addr}(x:∃ l,μ'=μ++l){i:Nat}{a:Addr}(e:μ[i]?=some a):μ'[i]?=some a:=by
 obtain⟨l,rfl⟩:=x
 obtain⟨h,_⟩:=List.getElem?_eq_some_iff.mp e
 rw[List.getElem?_append_left h];exact e
mutual
theorem bX.mono (k:Le G G') (x:∃ l,μ'=μ++l):∀ {v:Value} {m:MV},bX prog w cls G μ v m→bX prog w cls G' μ' v m
 |_,_,.none=>.none
 |_,_,.bool b=>.bool b
 |_,_,.int i t=>.int i t
 |_,_,.str s t=>.str s t
 |_,_,.tup h r=>.tup (aT h k) (aW.mono k x r)
 |_,_,.lst h r=>.lst (aP h k) (aW.mono k x r)
 |_,_,.raw h r=>.raw (jv h k) (aW.mono k x r)
 |_,_,.dcs n h r=>.dcs n (bY h k) (fq.mono k x r)
 |_,_,.dci n h r=>.dci n (bY h k) (fN.mono k x r)
 |_,_,.inst h1 h2 h3 r=>.inst h1 (k _ _ h2) (bY h3 k) (fq.mono k x r)
 |_,_,.ref h=>.ref (JC x h)
theorem aW.mono (k:Le G G') (x:∃ l,μ'=μ++l):∀ {v:List Value} {m:List MV},aW prog w cls G μ v m→aW prog w cls G' μ' v m
 |_,_,.nil=>.nil
 |_,_,.cons h r=>.cons (bX.mono k x h) (aW.mono k x r)
theorem fq.mono (k:Le G G') (x:∃ l,μ'=μ++l):∀ {v:List (Str×Value)} {m:List (Str×MV)},fq prog w cls G μ v m→fq prog w cls G' μ' v m
 |_,_,.nil=>.nil
 |_,_,.cons h r=>.cons (bX.mono k x h) (fq.mono k x r)
theorem fN.mono (k:Le G G') (x:∃ l,μ'=μ++l):∀ {v:List (Int×Value)} {m:List (Int×MV)},fN prog w cls G μ v m→fN prog w cls G' μ' v m
 |_,_,.nil=>.nil
 |_,_,.cons h r=>.cons (bX.mono k x h) (fN.mono k x r)
end
theorem aW.length{vs:List Value}{ms:List MV}(h:aW prog w cls G μ vs ms):vs.length=ms.length:=by
 induction vs generalizing ms with
 |nil=>cases h;rfl
 |cons v vs ih=>cases h with|cons _ r=>simp[ih r]
theorem aW.get{vs:List Value}{ms:List MV}(h:aW prog w cls G μ vs ms):∀ {i:Nat} {m:MV},ms[i]?=some m→∃ v,vs[i]?=some v∧bX prog w cls G μ v m:=by
 induction vs generalizing ms with
 |nil=>cases h;intro i m e;simp at e
 |cons v vs ih=>
  cases h with
  |cons h r=>
   intro i m e
   cases i with
   |zero=>simp at e;subst e;exact⟨v,rfl,h⟩
   |succ i=>simpa using ih r (by simpa using e)
theorem aW.append{vs us:List Value}{ms ns:List MV}(h:aW prog w cls G μ vs ms)(h':aW prog w cls G μ us ns):aW prog w cls G μ (vs++us) (ms++ns):=by
 induction vs generalizing ms with
 |nil=>cases h;exact h'
 |cons v vs ih=>cases h with|cons h r=>exact .cons h (ih r)
theorem aW.rev{vs:List Value}{ms:List MV}(h:aW prog w cls G μ vs ms):aW prog w cls G μ vs.reverse ms.reverse:=by
 induction vs generalizing ms with
 |nil=>cases h;exact .nil
 |cons v vs ih=>cases h with|cons h r=>rw[List.reverse_cons,List.reverse_cons];exact(ih r).append (.cons h .nil)
theorem aW.drop{vs:List Value}{ms:List MV}(h:aW prog w cls G μ vs ms):∀ n,aW prog w cls G μ (vs.drop n) (ms.drop n):=by
 induction vs generalizing ms with
 |nil=>cases h;intro n;simp;exact .nil
 |cons v vs ih=>
  cases h with
  |cons h r=>
   intro n
   cases n with
   |zero=>exact .cons h r
   |succ n=>simpa using ih r n
theorem aW.take{vs:List Value}{ms:List MV}(h:aW prog w cls G μ vs ms):∀ n,aW prog w cls G μ (vs.take n) (ms.take n):=by
 induction vs generalizing ms with
 |nil=>cases h;intro n;simp;exact .nil
 |cons v vs ih=>
  cases h with
  |cons h r=>
   intro n
   cases n with
   |zero=>exact .nil
   |succ n=>simpa using aW.cons h (ih r n)
theorem aW.set{vs:List Value}{ms:List MV}(h:aW prog w cls G μ vs ms){v:Value}{m:MV}(hv:bX prog w cls G μ v m):∀ n,aW prog w cls G μ (vs.set n v) (ms.set n m):=by
 induction vs generalizing ms with
 |nil=>cases h;intro n;simp;exact .nil
 |cons u vs ih=>
  cases h with
  |cons h r=>
   intro n
   cases n with
   |zero=>exact .cons hv r
   |succ n=>simpa using aW.cons h (ih r n)
def jF(prog:Program)(w:World)(cls:Str→Option Addr)(G:Heap)(μ:List Addr)(h:Heap)(a:Addr):MO→Prop
 |.lst ms=>∃ vs:List Value,h.PlainList a vs.toArray∧aW prog w cls G μ vs ms
 |.dcs es=>∃ kvs,h.DictOf (strKind prog w) a kvs∧fq prog w cls G μ kvs es∧(a==sysModules)=false
 |.dci es=>∃ kvs,h.DictOf (intKind prog w) a kvs∧fN prog w cls G μ kvs es∧(a==sysModules)=false
structure St(prog:Program)(w:World)(cls:Str→Option Addr)(B G:Heap)(μ:List Addr)(H:Hp)(h:Heap):Prop where
 base:Le B G
 keep:Le G h
 len:μ.length=H.length
 obj:∀ (i:Nat) (a:Addr) (mo:MO),μ[i]?=some a→H[i]?=some mo→jF prog w cls G μ h a mo
 off:∀ a∈μ,G.get? a=none
 nodup:μ.Nodup
structure Nx(P:List Addr)(G:Heap)(μ:List Addr)(s:Shared)(G':Heap)(μ':List Addr)(s':Shared):Prop where
 sub:Le G G'
 pre:∃ l,μ'=μ++l
 keeps:∀ b o,s.heap.get? b=some o→b∉μ→b∉P→s'.heap.get? b=some o
 same:∃ h tk,s'={ s with heap:=h,toks:=tk }
 newμ:∀ a∈μ',a∈μ∨s.heap.get? a=none
 newG:∀ a,G'.get? a≠none→G.get? a≠none∨s.heap.get? a=none
 alive:∀ a,s.heap.get? a≠none→s'.heap.get? a≠none
theorem Nx.refl(P:List Addr)(G:Heap)(μ:List Addr)(s:Shared):Nx P G μ s G μ s:=
 ⟨Le.refl _,⟨[],by simp⟩,fun _ _ e _ _=>e,⟨_,_,rfl⟩,fun _ h=>.inl h,fun _ h=>.inl h,fun _ h=>h⟩
theorem Nx.weaken{P P':List Addr}{s s':Shared}(x:Nx P G μ s G' μ' s')(h:∀ a∈P,a∈P'):Nx P' G μ s G' μ' s':=
 ⟨x.sub,x.pre,fun b o e h1 h2=>x.keeps b o e h1 fun q=>h2 (h _ q),x.same,x.newμ,x.newG,x.alive⟩
theorem aK{h:Heap}{a:Addr}{o:Obj}(e:h.get? a=some o):a < h.objs.size:=Heap.lt_size e
theorem eD{h h':Heap}(k:∀ a,h.get? a≠none→h'.get? a≠none){a:Addr}(e:h'.get? a=none):h.get? a=none:=by
 cases q:h.get? a with
 |none=>rfl
 |some o=>exact absurd e (k a (by rw[q];simp))
theorem Nx.trans'{P Q:List Addr}{s s' s'':Shared}(x:Nx P G μ s G' μ' s')(y:Nx Q G' μ' s' G'' μ'' s'')(hq:∀ a∈Q,a∈P∨s.heap.get? a=none):Nx P G μ s G'' μ'' s'' where
 sub:=x.sub.trans y.sub
 pre:=by
  obtain⟨l,rfl⟩:=x.pre
  obtain⟨l',rfl⟩:=y.pre
  exact⟨l++l',by simp⟩
 keeps:=fun b o e h1 h2=>y.keeps b o (x.keeps b o e h1 h2) (fun q=>(x.newμ b q).elim h1 fun r=>by rw[e] at r;cases r)
  fun q=>(hq b q).elim h2 fun r=>by rw[e] at r;cases r
 same:=by
  obtain⟨h,tk,rfl⟩:=x.same
  obtain⟨h',tk',rfl⟩:=y.same
  exact⟨h',tk',rfl⟩
 newμ:=fun a ha=>(y.newμ a ha).elim (x.newμ a) fun r=>.inr (eD x.alive r)
 newG:=fun a ha=>(y.newG a ha).elim (x.newG a) fun r=>.inr (eD x.alive r)
 alive:=fun a h=>y.alive a (x.alive a h)
theorem Nx.trans{P:List Addr}{s s' s'':Shared}(x:Nx P G μ s G' μ' s')(y:Nx P G' μ' s' G'' μ'' s''):Nx P G μ s G'' μ'' s'':=x.trans' y fun _ h=>.inl h
theorem jF.mono{h h':Heap}{a:Addr}{mo:MO}(x:jF prog w cls G μ h a mo)(k:Le G G')(p:∃ l,μ'=μ++l)(e:h'.get? a=h.get? a):jF prog w cls G' μ' h' a mo:=by
 cases mo with
 |lst ms=>obtain⟨vs,⟨n,ho⟩,q⟩:=x;exact⟨vs,⟨n,e.trans ho⟩,q.mono k p⟩
 |dcs es=>obtain⟨vs,⟨o,es,ep,ho,r⟩,q,n⟩:=x;exact⟨vs,⟨o,es,ep,e.trans ho,r⟩,q.mono k p,n⟩
 |dci es=>obtain⟨vs,⟨o,es,ep,ho,r⟩,q,n⟩:=x;exact⟨vs,⟨o,es,ep,e.trans ho,r⟩,q.mono k p,n⟩
theorem jF.get{h:Heap}{a:Addr}{mo:MO}(x:jF prog w cls G μ h a mo):∃ o,h.get? a=some o:=by
 cases mo with
 |lst ms=>obtain⟨vs,⟨n,ho⟩,q⟩:=x;exact⟨_,ho⟩
 |dcs es=>obtain⟨vs,⟨o,es,ep,ho,r⟩,q⟩:=x;exact⟨o,ho⟩
 |dci es=>obtain⟨vs,⟨o,es,ep,ho,r⟩,q⟩:=x;exact⟨o,ho⟩
theorem St.at{B h:Heap}{H:Hp}(S:St prog w cls B G μ H h){a:Addr}(ha:a∈μ):∃ o,h.get? a=some o:=by
 obtain⟨i,hi⟩:=List.mem_iff_getElem?.mp ha
 obtain⟨hl,_⟩:=List.getElem?_eq_some_iff.mp hi
 have:i < H.length:=S.len▸hl
 exact(S.obj i a H[i] hi (List.getElem?_eq_getElem this)).get
theorem St.lt{B h:Heap}{H:Hp}(S:St prog w cls B G μ H h){a:Addr}(ha:a∈μ):a < h.objs.size:=let ⟨_,e⟩:=S.at ha;aK e
theorem St.other{B h h':Heap}{H:Hp}(S:St prog w cls B G μ H h)(k:Le G h')(k':∀ a∈μ,h'.get? a=h.get? a):St prog w cls B G μ H h':=
 ⟨S.base,k,S.len,fun i a mo h1 h2=>(S.obj i a mo h1 h2).mono (Le.refl _) ⟨[],by simp⟩ (k' a (List.mem_iff_getElem?.mpr ⟨i,h1⟩)),S.off,S.nodup⟩
theorem St.more{B h:Heap}{H:Hp}(S:St prog w cls B G μ H h)(L:List Addr)(hL:∀ a∈L,a∉μ):
  ∃ G',Le G G'∧(∀ a∈L,G'.get? a=h.get? a)∧(∀ b,G'.get? b≠none→G.get? b≠none∨b∈L)∧St prog w cls B G' μ H h:=by
 obtain⟨G',h1,h2,h3,h4⟩:=grow S.keep L
 refine⟨G',h1,h3,h4,S.base.trans h1,h2,S.len,fun i a mo e1 e2=>(S.obj i a mo e1 e2).mono h1 ⟨[],by simp⟩ rfl,fun a ha=>?_,S.nodup⟩
 cases q:G'.get? a with
 |none=>rfl
 |some o=>exact((h4 a (by rw[q];simp)).elim (fun z=>absurd (S.off a ha) z) fun z=>absurd ha (hL a z))
theorem St.push{B h:Heap}{H:Hp}{a:Addr}{mo:MO}(S:St prog w cls B G μ H h)(ha:a∉μ)(hg:G.get? a=none)(r:jF prog w cls G μ h a mo):St prog w cls B G (μ++[a]) (H++[mo]) h:=by
 refine⟨S.base,S.keep,by simp[S.len],fun i b m e1 e2=>?_,fun b hb=>?_,?_⟩
 ·by_cases hi:i < μ.length
  ·rw[List.getElem?_append_left hi] at e1
   rw[List.getElem?_append_left (S.len▸hi)] at e2
   exact(S.obj i b m e1 e2).mono (Le.refl _) ⟨[a],rfl⟩ rfl
  ·have h1:i=μ.length:=by
    obtain⟨hl,_⟩:=List.getElem?_eq_some_iff.mp e1
    simp at hl;omega
   subst h1
   rw[List.getElem?_concat_length] at e1
   rw[S.len,List.getElem?_concat_length] at e2
   cases e1;cases e2
   exact r.mono (Le.refl _) ⟨[a],rfl⟩ rfl
 ·rcases List.mem_append.mp hb with hb|hb
  ·exact S.off b hb
  ·rw[List.mem_singleton.mp hb];exact hg
 ·rw[List.nodup_append]
  exact⟨S.nodup,by simp,fun x hx y hy=>by rw[List.mem_singleton.mp hy];exact fun e=>ha (e▸hx)⟩
theorem St.upd{B h h':Heap}{H:Hp}{i:Nat}{a:Addr}{mo:MO}(S:St prog w cls B G μ H h)(hi:μ[i]?=some a)(hs:Heap.SameBut a h h')(r:jF prog w cls G μ h' a mo):St prog w cls B G μ (H.set i mo) h':=by
 have ha:a∈μ:=List.mem_iff_getElem?.mpr ⟨i,hi⟩
 refine⟨S.base,fun b o e=>(hs.2 b fun q=>?_).trans (S.keep b o e),by simp[S.len],fun j b m e1 e2=>?_,S.off,S.nodup⟩
 ·rw[q,S.off a ha] at e;cases e
 ·obtain⟨hl,hl'⟩:=List.getElem?_eq_some_iff.mp hi
  by_cases hj:i=j
  ·subst hj
   rw[hi] at e1;cases e1
   rw[List.getElem?_set_self (S.len▸hl)] at e2
   cases e2;exact r
  ·rw[List.getElem?_set_ne hj] at e2
   refine(S.obj j b m e1 e2).mono (Le.refl _) ⟨[],by simp⟩ (hs.2 b fun q=>hj ?_)
   subst q
   obtain⟨hl2,hl3⟩:=List.getElem?_eq_some_iff.mp e1
   exact(List.getElem_inj S.nodup).mp (hl'.trans hl3.symm)
end
def IN(sc:Scope)(env:Env):Prop:=∀ (x:Str) (k:NameKind),sc.names.lookup x=some k→env.kindOf x=some k∨(k=.free∧env.kindOf x=some .cell)
structure dV(prog:Program)(w:World)(cls:Str→Option Addr)(G:Heap)(μ:List Addr)(h:Heap)(env:Env)(ρ:Ev):Prop where
 kind:env.scope.kind=.function
 glob:env.globals=mainGlobals
 bi:env.builtins=builtinsNs
 ns:∃ m,h.Ns env.locals m∧∀ x v,(ρ.lookup x).join=some v→env.kindOf x=some .local→∃ u,m x=some u∧bX prog w cls G μ u v
 cell:∀ x v,(ρ.lookup x).join=some v→(env.kindOf x=some .cell∨env.kindOf x=some .free)→∃ c u,env.cells.lookup x=some c∧h.IsCell c (some u)∧bX prog w cls G μ u v
 isCell:∀ x,env.kindOf x=some .cell→∃ c u,env.cells.lookup x=some c∧h.IsCell c u
 privL:env.locals∉μ∧G.get? env.locals=none
 privC:∀ p∈env.cells,p.2∉μ∧G.get? p.2=none∧p.2≠env.locals∧h.get? p.2≠none
 inj:∀ p∈env.cells,∀ q∈env.cells,p.2=q.2→p.1=q.1
def priv(env:Env):List Addr:=env.locals::env.cells.map (·.2)
structure pi(B:Heap)(a:Addr)(fn:Fn):Prop where
 it:∃ o fd,B.get? a=some o∧o.data=.func fd∧fd.body=.stmts fn.body∧fd.scope=fn.scope∧fd.globals=mainGlobals∧fd.closure=[]∧fd.builtins=builtinsNs∧B.CodeRec fd.code fd.qualname∧
  fd.params.posonlyargs=[]∧fd.params.vararg=none∧fd.params.kwonlyargs=[]∧fd.params.kwarg=none∧fd.params.args.map (·.arg)=fn.params∧
  ((fn.dflts=[]∧fd.defaults=.none)∨∃ t vs,fd.defaults=.ref t∧B.IsTuple t vs.toArray∧∀ (prog:Program) (w:World) (cls:Str→Option Addr) (μ:List Addr),aW prog w cls B μ vs fn.dflts)
 co:fn.scope.isCoroutine=false
 gen:fn.scope.isGenerator=false
 kind:fn.scope.kind=.function
 loc:∀ x∈fn.params,fn.scope.names.lookup x=some .local∨fn.scope.names.lookup x=some .cell
 nd:fn.params.Nodup
 dl:fn.dflts.length≤fn.params.length
 names:(fn.scope.names.map (·.1)).Nodup
section
variable{prog:Program}{w:World}{cls:Str→Option Addr}{B G G':Heap}{μ μ':List Addr}{H H':Hp}{s s':Shared}{A:Around}{E:Value→Shared→Prop}
def bf(prog:Program)(w:World)(cls:Str→Option Addr)(B:Heap)(P:List Addr)(G:Heap)(μ:List Addr)(s:Shared)(H':Hp)(v:MV):Value→Shared→Prop:=
 fun r s'=>∃ G' μ',Nx P G μ s G' μ' s'∧St prog w cls B G' μ' H' s'.heap∧bX prog w cls G' μ' r v
theorem dV.next{env:Env}{ρ:Ev}(V:dV prog w cls G μ s.heap env ρ)(x:Nx [] G μ s G' μ' s'):dV prog w cls G' μ' s'.heap env ρ:=by
 have up:∀ b,b∉μ→∀ o,s.heap.get? b=some o→s'.heap.get? b=some o:=fun b hb o e=>x.keeps b o e hb (by simp)
 have cup:∀ c u,(∃ y,env.cells.lookup y=some c)→s.heap.IsCell c u→s'.heap.IsCell c u:=fun c u ⟨y,hy⟩ ⟨o,ho,r⟩=>
  ⟨o,up c (V.privC (y,c) (mem_of_lookup hy)).1 o ho,r⟩
 have gone:∀ a,G.get? a=none→s.heap.get? a≠none→G'.get? a=none:=fun a hg hl=>by
  cases q:G'.get? a with
  |none=>rfl
  |some o=>exact((x.newG a (by rw[q];simp)).elim (fun z=>absurd hg z) fun z=>absurd z hl)
 have off:∀ a,a∉μ→s.heap.get? a≠none→a∉μ':=fun a ha hl q=>(x.newμ a q).elim ha fun z=>absurd z hl
 have hL:s.heap.get? env.locals≠none:=by obtain⟨m,⟨o,_,_,ho,_⟩,_⟩:=V.ns;rw[ho];simp
 refine⟨V.kind,V.glob,V.bi,?_,?_,?_,⟨off _ V.privL.1 hL,gone _ V.privL.2 hL⟩,?_,V.inj⟩
 ·obtain⟨m,⟨o,es,ep,ho,r⟩,q⟩:=V.ns
  exact⟨m,⟨o,es,ep,up _ V.privL.1 o ho,r⟩,fun y v h1 h2=>let ⟨u,h3,h4⟩:=q y v h1 h2;⟨u,h3,h4.mono x.sub x.pre⟩⟩
 ·intro y v h1 h2
  obtain⟨c,u,h3,h4,h5⟩:=V.cell y v h1 h2
  exact⟨c,u,h3,cup c _ ⟨y,h3⟩ h4,h5.mono x.sub x.pre⟩
 ·intro y h1
  obtain⟨c,u,h3,h4⟩:=V.isCell y h1
  exact⟨c,u,h3,cup c _ ⟨y,h3⟩ h4⟩
 ·intro p hp
  obtain⟨h1,h2,h3,h4⟩:=V.privC p hp
  exact⟨off _ h1 h4,gone _ h2 h4,h3,x.alive _ h4⟩
theorem aY{P:List Addr}{r:Value}{v:MV}{tk:Nat}(S:St prog w cls B G μ H s.heap)(q:bX prog w cls G μ r v):bf prog w cls B P G μ s H v r { s with toks:=tk }:=
 ⟨G,μ,⟨Le.refl _,⟨[],by simp⟩,fun _ _ e _ _=>e,⟨_,_,rfl⟩,fun _ h=>.inl h,fun _ h=>.inl h,fun _ h=>h⟩,S,q⟩
theorem aN{P:List Addr}{r:Value}{v:MV}(S:St prog w cls B G μ H s.heap)(q:bX prog w cls G μ r v):bf prog w cls B P G μ s H v r s:=
 ⟨G,μ,Nx.refl _ _ _ _,S,q⟩
theorem bV{h:Heap}:h.get? h.objs.size=none:=by
 cases q:h.get? h.objs.size with
 |none=>rfl
 |some o=>exact absurd (aK q) (Nat.lt_irrefl _)
theorem St.push'{h:Heap}(S:St prog w cls B G μ H h)(o:Obj):St prog w cls B G μ H (h.push o):=
 S.other (fun b x e=>Heap.get?_push_of_some _ (S.keep b x e)) fun a ha=>by
  obtain⟨x,e⟩:=S.at ha
  rw[e,Heap.get?_push_of_some _ e]
theorem St.new{h:Heap}(S:St prog w cls B G μ H h):h.objs.size∉μ:=fun q=>Nat.lt_irrefl _ (S.lt q)
theorem St.newG{h:Heap}(S:St prog w cls B G μ H h):G.get? h.objs.size=none:=by
 cases q:G.get? h.objs.size with
 |none=>rfl
 |some o=>exact absurd (aK (S.keep _ _ q)) (Nat.lt_irrefl _)
theorem gv{h h':Heap}(k:Le h h'):∀ a,h.get? a≠none→h'.get? a≠none:=fun a e=>by
 cases q:h.get? a with
 |none=>exact absurd q e
 |some o=>rw[k a o q];simp
theorem fF{P:List Addr}{v:MV}{h:Heap}{tk:Nat}{r:Value}(L:List Addr)(S:St prog w cls B G μ H s.heap)(k:Le s.heap h)(hL:∀ a∈L,s.heap.get? a=none)
  (q:∀ G',Le G G'→(∀ a∈L,G'.get? a=h.get? a)→bX prog w cls G' μ r v):bf prog w cls B P G μ s H v r { s with heap:=h,toks:=tk }:=by
 have S1:St prog w cls B G μ H h:=S.other (S.keep.trans k) fun a ha=>by obtain⟨o,e⟩:=S.at ha;rw[e,k a o e]
 obtain⟨G',h1,h2,h3,S2⟩:=S1.more L fun a ha hm=>by obtain⟨o,e⟩:=S.at hm;rw[hL a ha] at e;cases e
 exact⟨G',μ,⟨h1,⟨[],by simp⟩,fun b x e _ _=>k b x e,⟨_,_,rfl⟩,fun a ha=>.inl ha,fun a ha=>(h3 a ha).imp id fun z=>hL a z,gv k⟩,S2,q G' h1 h2⟩
theorem ca{P:List Addr}{v:MV}{o:Obj}{tk:Nat}(S:St prog w cls B G μ H s.heap)(hf:o.isFreed=false)
  (q:∀ G',Le G G'→G'.get? s.heap.objs.size=some o→bX prog w cls G' μ (.ref s.heap.objs.size) v):
  bf prog w cls B P G μ s H v (.ref s.heap.objs.size) { s with heap:=s.heap.push o,toks:=tk }:=
 fF [s.heap.objs.size] S (fun b x e=>Heap.get?_push_of_some _ e) (fun a ha=>by rw[List.mem_singleton.mp ha];exact bV)
  fun G' k g=>q G' k ((g _ (.head _)).trans (Heap.get?_push_size _ hf))
theorem f8{P:List Addr}{mo:MO}{h:Heap}{tk:Nat}{a:Addr}(S:St prog w cls B G μ H s.heap)(k:Le s.heap h)(ha:s.heap.get? a=none)
  (q:jF prog w cls G μ h a mo):bf prog w cls B P G μ s (H++[mo]) (.ref H.length) (.ref a) { s with heap:=h,toks:=tk }:=by
 have S1:St prog w cls B G μ H h:=S.other (S.keep.trans k) fun a ha=>by obtain⟨o,e⟩:=S.at ha;rw[e,k a o e]
 have h1:a∉μ:=fun hm=>by obtain⟨o,e⟩:=S.at hm;rw[ha] at e;cases e
 have h2:G.get? a=none:=by
  cases z:G.get? a with
  |none=>rfl
  |some o=>rw[S.keep _ _ z] at ha;cases ha
 refine⟨G,μ++[a],⟨Le.refl _,⟨_,rfl⟩,fun b x e _ _=>k b x e,⟨_,_,rfl⟩,fun b hb=>?_,fun a ha=>.inl ha,gv k⟩,S1.push h1 h2 q,.ref ?_⟩
 ·rcases List.mem_append.mp hb with z|z
  ·exact .inl z
  ·rw[List.mem_singleton.mp z];exact .inr ha
 ·rw[←S.len];exact List.getElem?_concat_length
theorem nR{P:List Addr}{mo:MO}{o:Obj}{tk:Nat}(S:St prog w cls B G μ H s.heap)
  (q:jF prog w cls G μ (s.heap.push o) s.heap.objs.size mo):
  bf prog w cls B P G μ s (H++[mo]) (.ref H.length) (.ref s.heap.objs.size) { s with heap:=s.heap.push o,toks:=tk }:=
 f8 S (fun b x e=>Heap.get?_push_of_some _ e) bV q
theorem ej{h h':Heap}{a:Addr}(hs:Heap.SameBut a h h')(ha:h'.get? a≠none):∀ b,h.get? b≠none→h'.get? b≠none:=fun b e=>by
 by_cases z:b=a
 ·rw[z];exact ha
 ·rw[hs.2 b z];exact e
theorem rp{P:List Addr}{i:Nat}{a:Addr}{mo:MO}{h:Heap}{tk:Nat}{v:MV}{r:Value}(S:St prog w cls B G μ H s.heap)(hi:μ[i]?=some a)(hs:Heap.SameBut a s.heap h)
  (q:jF prog w cls G μ h a mo) (hr:bX prog w cls G μ r v):bf prog w cls B P G μ s (H.set i mo) v r { s with heap:=h,toks:=tk }:=by
 have ha:a∈μ:=List.mem_iff_getElem?.mpr ⟨i,hi⟩
 refine⟨G,μ,⟨Le.refl _,⟨[],by simp⟩,fun b x e h1 _=>(hs.2 b fun z=>h1 (z▸ha)).trans e,⟨_,_,rfl⟩,fun _ h=>.inl h,fun _ h=>.inl h,?_⟩,S.upd hi hs q,hr⟩
 exact ej hs (by obtain⟨o,e⟩:=q.get;rw[e];simp)
theorem pH{a:Int}{n:Nat}(h:a.natAbs < 2 ^ n):Builtin.Int.intBits a≤n:=by
 unfold Builtin.Int.intBits
 split
 ·exact Nat.zero_le _
 ·rename_i h0
  have h1:a.natAbs≠0:=by simpa using h0
  exact(Nat.log2_lt h1).mpr h
theorem Eb{a:Int}(h:sm a=true):a.natAbs < 2 ^ 9000:=Nat.lt_of_lt_of_eq (Nat.blt_eq.mp h) rfl
theorem HI{a:Int}(h:Bs a=true):a.natAbs < 2 ^ 1000:=Nat.blt_eq.mp h
theorem M2{a b:Int}(ha:sm a=true)(hb:sm b=true):IntMulOk a b:=by
 have h1:=pH (Eb ha)
 have h2:=pH (Eb hb)
 unfold IntMulOk Builtin.Int.intTooBig bitsLine
 have:decide ((Builtin.Int.intBits a:Int)+(Builtin.Int.intBits b:Int) > ((2 ^ 27:Nat):Int))=false:=decide_eq_false (by omega)
 rw[this];simp
theorem ON{a b:Int}(hb:sm b=true):Builtin.divisionGoesByPylong a b=false:=by
 have h:=Eb hb
 unfold Builtin.divisionGoesByPylong
 have:∀ (d:Nat),d≤300→(decide (d > 300))=false:=fun d h=>decide_eq_false (by omega)
 dsimp only
 rw[this]
 ·rfl
 ·split
  ·exact Nat.zero_le _
  ·rename_i h0
   have h1:b.natAbs≠0:=by simpa using h0
   have:=(Nat.log2_lt h1).mpr h
   omega
theorem GX{op:Operator}{a b:Int}{t u:Tok}{v:MV}(e:wW op a b=some v)(S:St prog w cls B G μ H s.heap):
  wpAny (model prog w) A (binaryOp op (.int a t) (.int b u)) (bf prog w cls B [] G μ s H v) E s:=by
 have fin:∀ i tk,bf prog w cls B [] G μ s H (.int i) (.int i s.toks) { s with toks:=tk }:=fun i tk=>aY S (.int i _)
 unfold wW at e
 cases op with
 |Add=>cases e;exact PyProof.Rows.add_int (fin _ _)
 |Sub=>cases e;exact PyProof.Rows.sub_int (fin _ _)
 |Mult=>
  dsimp only at e
  cases q:sm a&&sm b with
  |false=>rw[q] at e;cases e
  |true=>
   rw[q] at e;cases e
   obtain⟨q1,q2⟩:=Bool.and_eq_true_iff.mp q
   exact PySem.P.mul_int (fin _ _) (M2 q1 q2)
 |FloorDiv=>
  dsimp only at e
  cases q:sm b&&!(b==0) with
  |false=>rw[q] at e;cases e
  |true=>
   rw[q] at e;cases e
   obtain⟨q1,q2⟩:=Bool.and_eq_true_iff.mp q
   exact floordiv_int (by simpa using q2) (fin _ _) (.inl (ON q1))
 |Mod=>
  dsimp only at e
  cases q:sm b&&!(b==0) with
  |false=>rw[q] at e;cases e
  |true=>
   rw[q] at e;cases e
   obtain⟨q1,q2⟩:=Bool.and_eq_true_iff.mp q
   exact mod_int' (by simpa using q2) (fin _ _)
 |Pow=>
  dsimp only at e
  cases q:Bs a&&jd b with
  |false=>rw[q] at e;cases e
  |true=>
   rw[q] at e;cases e
   obtain⟨q1,q2⟩:=Bool.and_eq_true_iff.mp q
   obtain⟨q3,q4⟩:=Bool.and_eq_true_iff.mp q2
   replace q3:=of_decide_eq_true q3
   replace q4:=of_decide_eq_true q4
   have h1:=pH (HI q1)
   refine pow_int q3 ?_ (fin _ _)
   have h2:(Builtin.Int.intBits a:Int) * b≤1000 * 1000:=Int.mul_le_mul (by omega) (by omega) q3 (by omega)
   omega
 |LShift=>
  dsimp only at e
  cases q:Bs a&&jd b with
  |false=>rw[q] at e;cases e
  |true=>
   rw[q] at e;cases e
   obtain⟨q1,q2⟩:=Bool.and_eq_true_iff.mp q
   obtain⟨q3,q4⟩:=Bool.and_eq_true_iff.mp q2
   replace q3:=of_decide_eq_true q3
   replace q4:=of_decide_eq_true q4
   have h1:=pH (HI q1)
   exact lshift_int q3 (by omega) (fin _ _)
 |RShift=>
  dsimp only at e
  cases q:jd b with
  |false=>rw[q] at e;cases e
  |true=>
   rw[q] at e;cases e
   obtain⟨q3,q4⟩:=Bool.and_eq_true_iff.mp q
   replace q3:=of_decide_eq_true q3
   refine AutoIntOpsIf.rshift ?_
   rw[if_neg (Int.not_lt.mpr q3)]
   split
   ·rename_i hb
    have e2:a.fdiv (2 ^ b.toNat)=if a < 0 then -1 else 0:=by
     have hlt:a.natAbs < 2 ^ b.toNat:=by
      unfold Builtin.Int.intBits at hb
      split at hb
      ·rename_i h0
       have:a=0:=by simpa using h0
       subst this;exact Nat.pow_pos (by decide)
      ·rename_i h0
       have h1:a.natAbs≠0:=by simpa using h0
       exact(Nat.log2_lt h1).mp (by omega)
     have hp:(2:Int) ^ b.toNat=((2 ^ b.toNat:Nat):Int):=by push_cast;rfl
     rw[hp]
     generalize 2 ^ b.toNat=m at hlt
     rw[Int.fdiv_eq_ediv_of_nonneg _ (by omega)]
     split
     ·rw[Int.ediv_eq_iff_of_pos (by omega)];omega
     ·exact Int.ediv_eq_zero_of_lt (by omega) (by omega)
    rw[←e2]
    exact fin _ _
   ·exact fin _ _
 |BitAnd=>cases e;exact and_int (fin _ _)
 |BitOr=>cases e;exact or_int (fin _ _)
 |BitXor=>cases e;exact xor_int (fin _ _)
 |MatMult=>cases e
 |Div=>cases e
end
end
section
open PySem PySem.W PySem.Calls PyProof.Rows PySem.SeqAt
section
variable{prog:Program}{w:World}{cls:Str→Option Addr}{B G G':Heap}{μ μ':List Addr}{H H':Hp}{s s':Shared}{A:Around}{E:Value→Shared→Prop}
theorem bq{n:Nat}(h:n≤100000):n≤sizeLine:=by rw[sizeLine_eq];omega
theorem bH{l:List MV}(h:bZ l=true):l.length≤100000:=Nat.le_of_ble_eq_true h
theorem ln{x:Str}(h:t0 x=true):x.length≤100000:=Nat.le_of_ble_eq_true h
theorem qy(a b:Str):(a++b).length=a.length+b.length:=Str.length_append a b
theorem zv{l b:Addr}{vs ws:List Value}{Q:Value→Shared→Prop}(hl:s.heap.IsList l vs.toArray)(hb:s.heap.IsList b ws.toArray)
  (h:Q (.ref s.heap.objs.size) { s with heap:=s.heap.push { cls:=.type "list",data:=.seq (vs++ws).toArray } }) (hsz:vs.length+ws.length≤sizeLine):
  wpAny (model prog w) A (binaryOp .Add (.ref l) (.ref b)) Q E s:=by
 obtain⟨⟨c1,d1,x1,s1⟩,ho,hc,n,hd⟩:=id hl
 obtain⟨⟨c2,d2,x2,s2⟩,ho2,hc2,n2,hd2⟩:=id hb
 simp only at hc hd hc2 hd2
 subst hc hd hc2 hd2
 have e:vs.toArray++ws.toArray=(vs++ws).toArray:=by simp
 refine concat_meets ⟨_,ho,rfl⟩ ⟨_,ho2,rfl⟩ noFill_list_add seq_list_add PySem.F.slot_list_add PySem.F.entry_list_add (PySem.F.args_list_add_2 _ _) (list_addW l b vs.toArray ws.toArray n n2 d1 d2 s1 s2 (by simpa using hsz)) ⟨ho,ho2,?_⟩
 rw[e];exact h
theorem Hk{op:Operator}{x y v:MV}{a b:Value}(e:bF op x y=some v)(S:St prog w cls B G μ H s.heap)(ra:bX prog w cls G μ a x)(rb:bX prog w cls G μ b y):
  wpAny (model prog w) A (binaryOp op a b) (bf prog w cls B [] G μ s H v) E s:=by
 unfold bF at e
 split at e
 ·cases ra;cases rb;exact GX e S
 ·cases ra;cases rb
  rename_i a b t u
  split at e
  ·cases q:t0 (a++b) with
   |false=>rw[q] at e;cases e
   |true=>
    rw[q] at e;cases e
    have hz:=ln q
    rw[qy] at hz
    exact PyProof.Rows.add_str (fun t' tk=>aY S (.str _ t')) (bq hz)
  ·cases e
 ·cases ra with|@lst a1 vs _ h1 r1=>cases rb with|@lst a2 us _ h2 r2=>
  rename_i a b
  split at e
  ·cases q:bZ (a++b) with
   |false=>rw[q] at e;cases e
   |true=>
    rw[q] at e;cases e
    have hz:=bH q
    rw[List.length_append] at hz
    refine zv (aP h1 S.keep).isList (aP h2 S.keep).isList (ca S rfl fun G' k g=>?_) (bq (by rw[r1.length,r2.length];exact hz))
    exact .lst ⟨_,g⟩ ((r1.append r2).mono k ⟨[],by simp⟩)
  ·cases e
 ·cases e
theorem Io{op:UnaryOp}{x v:MV}{a:Value}(e:uC op x=some v)(S:St prog w cls B G μ H s.heap)(ra:bX prog w cls G μ a x):
  wpAny (model prog w) A (unaryOp op a) (bf prog w cls B [] G μ s H v) E s:=by
 unfold uC at e
 split at e
 ·cases ra;cases e;exact PySem.P.neg_int (aY S (.int _ _))
 ·cases ra;cases e;exact invert_int (aY S (.int _ _))
 ·cases ra;cases e;exact not_of (wpAny_truthy_bool (aN S (.bool _)))
 ·cases e
theorem St.refL{h:Heap}(S:St prog w cls B G μ H h){i:Nat}{a:Addr}{ms:List MV}(hi:μ[i]?=some a)(e:H[i]?=some (.lst ms)):∃ vs:List Value,h.PlainList a vs.toArray∧aW prog w cls G μ vs ms:=S.obj i a _ hi e
theorem wq{h:Heap}(S:St prog w cls B G μ H h):∀ (n:Nat) {v:Value} {m:MV} {d:PyData},bX prog w cls G μ v m→cD H n m=some d→∃ as,Reads h v d as:=by
 intro n
 induction n with
 |zero=>intro v m d _ e;cases e
 |succ n ih=>
  have all:∀ {vs:List Value} {ms:List MV} {ds:List PyData},aW prog w cls G μ vs ms→jf (cD H n) ms=some ds→∃ as,ReadsAll h vs ds as:=by
   intro vs
   induction vs with
   |nil=>intro ms ds r e;cases r;cases e;exact⟨_,.nil⟩
   |cons v vs ihv=>
    intro ms ds r e
    cases r with|cons r1 r2=>
    unfold jf at e
    split at e
    ·cases e
    ·rename_i d hd
     split at e
     ·cases e
     ·rename_i ds' hds
      cases e
      obtain⟨as,q⟩:=ih r1 hd
      obtain⟨bs,p⟩:=ihv r2 hds
      exact⟨_,.cons q p⟩
  intro v m d r e
  cases r with
  |none=>cases e;exact⟨_,.none⟩
  |bool b=>cases e;exact⟨_,.bool b⟩
  |int i t=>cases e;exact⟨_,.int i t⟩
  |str x t=>cases e;exact⟨_,.str x t⟩
  |tup h1 r1=>
   obtain⟨ds,hds,rfl⟩:=Option.map_eq_some_iff.mp e
   obtain⟨as,q⟩:=all r1 hds
   obtain⟨o,ho,hc,k,hd⟩:=aT h1 S.keep
   exact⟨_,.tuple ho hc hd (by simpa using q)⟩
  |lst h1 r1=>
   obtain⟨ds,hds,rfl⟩:=Option.map_eq_some_iff.mp e
   obtain⟨as,q⟩:=all r1 hds
   obtain⟨o,ho,hc,k,hd⟩:=(aP h1 S.keep).isList
   exact⟨_,.list ho hc hd (by simpa using q)⟩
  |raw _ _=>cases e
  |dcs _ _ _=>cases e
  |dci _ _ _=>cases e
  |inst _ _ _ _=>cases e
  |@ref a i hi=>
   have e:(match H[i]? with
    |some (.lst vs)=>(jf (cD H n) vs).map PyData.list
    |_=>none)=some d:=e
   split at e
   ·rename_i ms hm
    obtain⟨vs,h1,r1⟩:=S.refL hi hm
    obtain⟨ds,hds,rfl⟩:=Option.map_eq_some_iff.mp e
    obtain⟨as,q⟩:=all r1 hds
    obtain⟨o,ho,hc,k,hd⟩:=h1.isList
    exact⟨_,.list ho hc hd (by simpa using q)⟩
   ·cases e
theorem Gi{x y:MV}{a b:Value}{z:Bool}(e:Ic H x y=some z)(S:St prog w cls B G μ H s.heap)(ra:bX prog w cls G μ a x)(rb:bX prog w cls G μ b y)(hu:A.units+64 < cLine):
  wpAny (model prog w) A (compareOp .Eq a b) (bf prog w cls B [] G μ s H (.bool z)) E s∧wpAny (model prog w) A (compareOp .NotEq a b) (bf prog w cls B [] G μ s H (.bool (!z))) E s:=by
 unfold Ic at e
 split at e
 ·rename_i da db ha hb
  cases q:SeqAt.shaped da&&SeqAt.shaped db with
  |false=>rw[q] at e;cases e
  |true=>
   rw[q] at e;cases e
   obtain⟨q1,q2⟩:=Bool.and_eq_true_iff.mp q
   obtain⟨as,r1⟩:=wq S 8 ra ha
   obtain⟨bs,r2⟩:=wq S 8 rb hb
   exact⟨SeqAt.compareEq_shaped r1 r2 q1 q2 hu (aN S (.bool _)),SeqAt.compareNe_shaped r1 r2 q1 q2 hu (aN S (.bool _))⟩
 ·cases e
theorem qi{vs:List Value}{ms:List MV}{l:List Str}(r:aW prog w cls G μ vs ms)(e:tZ ms=some l):∃ ts:List Tok,ts.length=l.length∧vs=(l.zip ts).map fun p=>.str p.1 p.2:=by
 induction vs generalizing ms l with
 |nil=>cases r;cases e;exact⟨[],rfl,rfl⟩
 |cons v vs ih=>
  cases r with|cons r1 r2=>
  cases r1 with
  |str x t=>
   obtain⟨l',hl',rfl⟩:=Option.map_eq_some_iff.mp (show(tZ _).map (x::·)=some l from e)
   obtain⟨ts,h1,rfl⟩:=ih r2 hl'
   exact⟨t::ts,by simp[h1],rfl⟩
  |_=>cases e
theorem AO{vs:List Value}{ms:List MV}{l:List Int}(r:aW prog w cls G μ vs ms)(e:qB ms=some l):∃ ts:List Tok,ts.length=l.length∧vs=(l.zip ts).map fun p=>.int p.1 p.2:=by
 induction vs generalizing ms l with
 |nil=>cases r;cases e;exact⟨[],rfl,rfl⟩
 |cons v vs ih=>
  cases r with|cons r1 r2=>
  cases r1 with
  |int x t=>
   obtain⟨l',hl',rfl⟩:=Option.map_eq_some_iff.mp (show(qB _).map (x::·)=some l from e)
   obtain⟨ts,h1,rfl⟩:=ih r2 hl'
   exact⟨t::ts,by simp[h1],rfl⟩
  |_=>cases e
def i8(x:Str):Value→Bool
 |.str y _=>y==x
 |_=>false
def FJ(x:Int):Value→Bool
 |.int y _=>y==x
 |_=>false
theorem xF(x:Str):∀ (l:List Str) (ts:List Tok),ts.length=l.length→((l.zip ts).map fun p=>Value.str p.1 p.2).any (i8 x)=l.contains x
 |[],ts,h=>by simp
 |y::l,[],h=>by simp at h
 |y::l,t::ts,h=>by
  have:=xF x l ts (by simpa using h)
  simp only[List.zip_cons_cons,List.map_cons,List.any_cons,this,i8,List.contains_cons]
  congr 1
  rw[Bool.eq_iff_iff,beq_iff_eq,beq_iff_eq];exact eq_comm
theorem xE(x:Int):∀ (l:List Int) (ts:List Tok),ts.length=l.length→((l.zip ts).map fun p=>Value.int p.1 p.2).any (FJ x)=l.contains x
 |[],ts,h=>by simp
 |y::l,[],h=>by simp at h
 |y::l,t::ts,h=>by
  have:=xE x l ts (by simpa using h)
  simp only[List.zip_cons_cons,List.map_cons,List.any_cons,this,FJ,List.contains_cons]
  congr 1
  rw[Bool.eq_iff_iff,beq_iff_eq,beq_iff_eq];exact eq_comm
theorem nN{x:MV}{a:Value}{vs:List Value}{ms:List MV}{z:Bool}(e:Jz x ms=some z)(ra:bX prog w cls G μ a x)(r:aW prog w cls G μ vs ms):
  ∃ f:Value→Bool,(∀ A':Around,∀ y∈vs.toArray,EqAt A' s y a (f y))∧vs.toArray.any f=z:=by
 unfold Jz at e
 cases ra with
 |str x t=>
  obtain⟨l,hl,rfl⟩:=Option.map_eq_some_iff.mp e
  obtain⟨ts,h1,rfl⟩:=qi r hl
  refine⟨i8 x,fun A' y hy=>?_,?_⟩
  ·simp only[List.mem_toArray,List.mem_map] at hy
   obtain⟨p,_,rfl⟩:=hy
   exact EqAt.str_str _ _ _ _
  ·rw[List.any_toArray];exact xF x l ts h1
 |int x t=>
  obtain⟨l,hl,rfl⟩:=Option.map_eq_some_iff.mp e
  obtain⟨ts,h1,rfl⟩:=AO r hl
  refine⟨FJ x,fun A' y hy=>?_,?_⟩
  ·simp only[List.mem_toArray,List.mem_map] at hy
   obtain⟨p,_,rfl⟩:=hy
   exact EqAt.int_int _ _ _ _
  ·rw[List.any_toArray];exact xE x l ts h1
 |_=>cases e
theorem jm{kvs:List (Str×Value)}{es:List (Str×MV)}(r:fq prog w cls G μ kvs es)(k:Str):(valueAt kvs k).isSome=(es.lookup k).isSome∧∀ m,es.lookup k=some m→∃ v,valueAt kvs k=some v∧bX prog w cls G μ v m:=by
 induction kvs generalizing es with
 |nil=>cases r;exact⟨rfl,fun m e=>by cases e⟩
 |cons p kvs ih=>
  cases r with|@cons a v m _ _ r1 r2=>
  have ih:=ih r2
  unfold valueAt at ih ⊢
  rw[List.find?_cons,List.lookup_cons]
  dsimp only
  by_cases hk:a=k
  ·subst hk
   simp only[decide_true,beq_self_eq_true,Option.map_some]
   exact⟨rfl,fun m' e=>by cases e;exact⟨_,rfl,r1⟩⟩
  ·have h1:(k==a)=false:=by simp;exact fun q=>hk q.symm
   simp only[decide_eq_false hk,h1]
   exact ih
theorem qp{kvs:List (Int×Value)}{es:List (Int×MV)}(r:fN prog w cls G μ kvs es)(k:Int):(valueAt kvs k).isSome=(es.lookup k).isSome∧∀ m,es.lookup k=some m→∃ v,valueAt kvs k=some v∧bX prog w cls G μ v m:=by
 induction kvs generalizing es with
 |nil=>cases r;exact⟨rfl,fun m e=>by cases e⟩
 |cons p kvs ih=>
  cases r with|@cons a v m _ _ r1 r2=>
  have ih:=ih r2
  unfold valueAt at ih ⊢
  rw[List.find?_cons,List.lookup_cons]
  dsimp only
  by_cases hk:a=k
  ·subst hk
   simp only[decide_true,beq_self_eq_true,Option.map_some]
   exact⟨rfl,fun m' e=>by cases e;exact⟨_,rfl,r1⟩⟩
  ·have h1:(k==a)=false:=by simp;exact fun q=>hk q.symm
   simp only[decide_eq_false hk,h1]
   exact ih
theorem BM{x y:MV}{a b:Value}{z:Bool}(e:Ad H x y=some z)(S:St prog w cls B G μ H s.heap)(ra:bX prog w cls G μ a x)(rb:bX prog w cls G μ b y):
  wpAny (model prog w) A (compareOp .In a b) (bf prog w cls B [] G μ s H (.bool z)) E s∧wpAny (model prog w) A (compareOp .NotIn a b) (bf prog w cls B [] G μ s H (.bool (!z))) E s:=by
 unfold Ad at e
 cases rb with
 |lst h1 r1=>
  obtain⟨f,hf,rfl⟩:=nN (s:=s) e ra r1
  have hl:=(aP h1 S.keep).isList
  exact⟨in_listAt f hl (hf _) (aN S (.bool _)),notIn_listAt f hl (hf _) (aN S (.bool _))⟩
 |tup h1 r1=>
  obtain⟨f,hf,rfl⟩:=nN (s:=s) e ra r1
  have hl:=aT h1 S.keep
  exact⟨in_tupleAt f hl (hf _) (aN S (.bool _)),notIn_tupleAt f hl (hf _) (aN S (.bool _))⟩
 |@ref c i hi=>
  dsimp only at e
  split at e
  ·rename_i ms hm
   obtain⟨vs,hl,r1⟩:=S.refL hi hm
   replace hl:=hl.isList
   obtain⟨f,hf,rfl⟩:=nN (s:=s) e ra r1
   exact⟨in_listAt f hl (hf _) (aN S (.bool _)),notIn_listAt f hl (hf _) (aN S (.bool _))⟩
  ·cases e
 |dcs n h1 r1=>
  dsimp only at e
  cases ra with
  |str x t=>
   cases e
   have hm:=(bY h1 S.keep).mapOf
   rw[←(jm r1 x).1]
   exact⟨wpAny_in_of (by simp[PySem.strKind,Value.isStrOf]) n hm (aY S (.bool _)),wpAny_notIn_of (by simp[PySem.strKind,Value.isStrOf]) n hm (aY S (.bool _))⟩
  |_=>cases e
 |_=>cases e
theorem t7{x:MV}{a:Value}{z:Bool}(e:isNone x=some z)(S:St prog w cls B G μ H s.heap)(ra:bX prog w cls G μ a x):
  wpAny (model prog w) A (compareOp .Is a .none) (bf prog w cls B [] G μ s H (.bool z)) E s∧wpAny (model prog w) A (compareOp .IsNot a .none) (bf prog w cls B [] G μ s H (.bool (!z))) E s:=by
 cases ra<;>cases e<;>refine⟨wpAny_is_plain rfl ?_,wpAny_isNot_plain rfl ?_⟩<;>exact aN S (.bool _)
theorem gC{op:CmpOp}{x y:MV}{a b:Value}{z:Bool}(e:xC H op x y=some z)(S:St prog w cls B G μ H s.heap)(ra:bX prog w cls G μ a x)(rb:bX prog w cls G μ b y)(hu:A.units+64 < cLine):
  wpAny (model prog w) A (compareOp op a b) (bf prog w cls B [] G μ s H (.bool z)) E s:=by
 unfold xC at e
 cases op with
 |Eq=>
  dsimp only at e
  split at e
  ·cases ra;cases rb;cases e;exact PyProof.Rows.eq_int (aN S (.bool _))
  ·cases ra;cases rb;cases e;exact PyProof.Rows.eq_str (aN S (.bool _))
  ·exact(Gi e S ra rb hu).1
 |NotEq=>
  dsimp only at e
  split at e
  ·cases ra;cases rb;cases e;exact PyProof.Rows.ne_int (aN S (.bool _))
  ·cases ra;cases rb;cases e;exact PyProof.Rows.ne_str (aN S (.bool _))
  ·obtain⟨z',h1,rfl⟩:=Option.map_eq_some_iff.mp e
   exact(Gi h1 S ra rb hu).2
 |Lt=>
  dsimp only at e
  split at e
  ·cases ra;cases rb;cases e;exact PyProof.Rows.lt_int (aN S (.bool _))
  ·cases e
 |LtE=>
  dsimp only at e
  split at e
  ·cases ra;cases rb;cases e;exact PyProof.Rows.le_int (aN S (.bool _))
  ·cases e
 |Gt=>
  dsimp only at e
  split at e
  ·cases ra;cases rb;cases e;exact PyProof.Rows.gt_int (aN S (.bool _))
  ·cases e
 |GtE=>
  dsimp only at e
  split at e
  ·cases ra;cases rb;cases e;exact PyProof.Rows.ge_int (aN S (.bool _))
  ·cases e
 |In=>exact(BM e S ra rb).1
 |NotIn=>
  obtain⟨z',h1,rfl⟩:=Option.map_eq_some_iff.mp e
  exact(BM h1 S ra rb).2
 |Is=>
  dsimp only at e
  split at e
  ·cases rb;exact(t7 e S ra).1
  ·cases e
 |IsNot=>
  dsimp only at e
  split at e
  ·cases rb
   obtain⟨z',h1,rfl⟩:=Option.map_eq_some_iff.mp e
   exact(t7 h1 S ra).2
  ·cases e
theorem zM{vs:List Value}{ms:List MV}{i:Int}{m:MV}(r:aW prog w cls G μ vs ms)(e:D6 ms i=some m):
  0≤i∧i < 2 ^ 63∧i < vs.length∧∃ v,vs[i.toNat]?=some v∧bX prog w cls G μ v m:=by
 unfold D6 at e
 cases q:decide (0≤i)&&bZ ms with
 |false=>rw[q] at e;cases e
 |true=>
  rw[q] at e
  obtain⟨q1,q2⟩:=Bool.and_eq_true_iff.mp q
  replace q1:=of_decide_eq_true q1
  have h1:=bH q2
  have e:ms[i.toNat]?=some m:=e
  obtain⟨hl,_⟩:=List.getElem?_eq_some_iff.mp e
  have hlen:=r.length
  exact⟨q1,by omega,by omega,r.get e⟩
theorem Ay{x y:MV}{a b:Value}{m:MV}(e:getItem H x y=some m)(S:St prog w cls B G μ H s.heap)(ra:bX prog w cls G μ a x)(rb:bX prog w cls G μ b y):
  wpAny (model prog w) A (PySem.getItem a b) (bf prog w cls B [] G μ s H m) E s:=by
 unfold getItem at e
 cases rb with
 |int i t=>
  dsimp only at e
  cases ra with
  |lst h1 r1=>
   obtain⟨p1,p2,p3,v,hv,rv⟩:=zM r1 e
   exact wpAny_getItem_list (aP h1 S.keep).isList p1 p2 (by simpa using hv) (aN S rv)
  |tup h1 r1=>
   obtain⟨p1,p2,p3,v,hv,rv⟩:=zM r1 e
   exact getItem_tuple (aT h1 S.keep) (by omega) p2 (seqIndex_of p1 (by simpa using p3)) (by simpa using hv) (aN S rv)
  |dci n h1 r1=>
   obtain⟨v,hv,rv⟩:=(qp r1 i).2 m e
   exact wpAny_getItem_of (knd:=PySem.intKind prog w) (k:=i) (by simp[PySem.intKind,Value.isInt]) (bY h1 S.keep).mapOf hv (aY S rv)
  |str x u=>
   dsimp only at e
   cases q:decide (0≤i)&&t0 x with
   |false=>rw[q] at e;cases e
   |true=>
    rw[q] at e
    obtain⟨q1,q2⟩:=Bool.and_eq_true_iff.mp q
    replace q1:=of_decide_eq_true q1
    have hz:=ln q2
    obtain⟨c,hc,rfl⟩:=Option.map_eq_some_iff.mp (show(x.cps[i.toNat]?).map (fun c=>MV.str ⟨#[c]⟩)=some m from e)
    obtain⟨hl,_⟩:=Array.getElem?_eq_some_iff.mp hc
    have hl:i.toNat < x.length:=hl
    refine PySem.P.getItem_str (i:=i) (c:=c) ?_ ?_ (aY S (.str _ _))
    ·rw[decide_eq_false (by omega),decide_eq_false (by omega)];rfl
    ·rw[seqIndex_of q1 (by omega)];exact hc
  |@ref c j hj=>
   dsimp only at e
   split at e
   ·rename_i ms hm
    obtain⟨vs,hl,r1⟩:=S.refL hj hm
    obtain⟨p1,p2,p3,v,hv,rv⟩:=zM r1 e
    exact wpAny_getItem_list hl.isList p1 p2 (by simpa using hv) (aN S rv)
   ·rename_i es hm
    obtain⟨kvs,hd,r1,n⟩:jF prog w cls G μ s.heap c (.dci es):=S.obj j c _ hj hm
    obtain⟨v,hv,rv⟩:=(qp r1 i).2 m e
    exact wpAny_getItem_of (knd:=PySem.intKind prog w) (k:=i) (by simp[PySem.intKind,Value.isInt]) hd.mapOf hv (aY S rv)
   ·cases e
  |_=>cases e
 |str k t=>
  dsimp only at e
  cases ra with
  |dcs n h1 r1=>
   obtain⟨v,hv,rv⟩:=(jm r1 k).2 m e
   exact wpAny_getItem_of (knd:=PySem.strKind prog w) (k:=k) (by simp[PySem.strKind,Value.isStrOf]) (bY h1 S.keep).mapOf hv (aY S rv)
  |@ref c j hj=>
   dsimp only at e
   split at e
   ·rename_i es hm
    obtain⟨kvs,hd,r1,n⟩:jF prog w cls G μ s.heap c (.dcs es):=S.obj j c _ hj hm
    obtain⟨v,hv,rv⟩:=(jm r1 k).2 m e
    exact wpAny_getItem_of (knd:=PySem.strKind prog w) (k:=k) (by simp[PySem.strKind,Value.isStrOf]) hd.mapOf hv (aY S rv)
   ·cases e
  |_=>cases e
 |_=>cases e
end
section
variable{prog:Program}{w:World}{cls:Str→Option Addr}{B G G':Heap}{μ μ':List Addr}{H H':Hp}{s s':Shared}{A:Around}{E:Value→Shared→Prop}
theorem mV{sl:Addr}{b n:Nat}{u:Tok}{Q:Int×Int×Nat→Shared→Prop}(hs:s.heap.IsSliceOf sl .none (.int b u) .none)(hb:b < n)(h:Q ((0:Int),1,b) s):
  wpAny (model prog w) A (Builtin.Slice.sliceApplied (.ref sl) (pure (n:Int))) Q E s:=by
 obtain⟨os,hos,hcs,hds⟩:=id hs
 unfold Builtin.Slice.sliceApplied Builtin.Slice.sliceFields
 refine wpAny_bind (wpAny_bind (wpAny_field hos hds (x:=.none) rfl (wpAny_bind (wpAny_field hos hds (x:=.int b u) rfl (wpAny_bind (wpAny_field hos hds (x:=.none) rfl (wpAny_pure ?_)))))))
 refine wpAny_bind (slicePart_none ?_)
 show wpAny _ _ (if ((1:Int)==0)=true then _ else _) _ _ s
 rw[if_neg (by decide)]
 refine wpAny_bind (slicePart_none (wpAny_bind (slicePart_int (wpAny_bind (wpAny_pure ?_)))))
 show wpAny _ _ (match Builtin.Slice.sliceAdjust none (some (b:Int)) 1 (n:Int) with|(lo,hi)=>pure (lo,(1:Int),Builtin.Slice.slicePlaces lo hi 1)) _ _ s
 have e1:Builtin.Slice.sliceAdjust none (some (b:Int)) 1 (n:Int)=((0:Int),(b:Int)):=by
  unfold Builtin.Slice.sliceAdjust
  have h1:¬ ((1:Int) < 0):=by omega
  have h2:¬ ((b:Int) < 0):=by omega
  simp only[h1,h2,if_false]
  congr 1
  omega
 have e2:Builtin.Slice.slicePlaces (0:Int) (b:Int) 1=b:=by
  unfold Builtin.Slice.slicePlaces
  have h1:(1:Int) > 0:=by omega
  simp only[h1,if_true,Int.ediv_one]
  split<;>omega
 rw[e1]
 show wpAny _ _ (pure ((0:Int),(1:Int),Builtin.Slice.slicePlaces (0:Int) (b:Int) 1)) _ _ s
 rw[e2]
 exact wpAny_pure h
theorem DE(xs:Array Value)(b:Nat)(hb:b≤xs.size):((List.range b).filterMap fun(k:Nat)=>xs[((0:Int)+(k:Int) * 1).toNat]?).toArray=(xs.toList.take b).toArray:=by
 have e:(fun(k:Nat)=>xs[((0:Int)+(k:Int) * 1).toNat]?)=fun k=>xs[0+k]?:=by
  funext k
  have:((0:Int)+(k:Int) * 1).toNat=0+k:=by omega
  rw[this]
 rw[e]
 have:=pick_run xs 0 b
 rw[List.filterMap_map] at this
 have e2:((fun x=>xs[x]?)∘fun x=>0+x)=fun k=>xs[0+k]?:=rfl
 rw[e2] at this
 rw[this,List.drop_zero]
theorem lB{t sl:Addr}{aI:Array Value}{b:Nat}{u:Tok}{Q:Value→Shared→Prop}(ht:IsTup s.heap t aI)(hs:s.heap.IsSliceOf sl .none (.int b u) .none)(hb:b < aI.size)
  (h:Q (.ref s.heap.objs.size) { s with heap:=s.heap.push { cls:=.type "tuple",data:=.seq (aI.toList.take b).toArray } })
  (hsz:aI.size≤sizeLine):wpAny (model prog w) A (PySem.getItem (.ref t) (.ref sl)) Q E s:=by
 have htake:sizeOk (.seq (aI.toList.take b).toArray):=by
  show(aI.toList.take b).toArray.size≤sizeLine
  rw[List.size_toArray,List.length_take,Array.length_toList]
  omega
 obtain⟨os,hos,hcs,hds⟩:=id hs
 have hTs:s.TypeIs (.ref sl) "slice":=⟨os,hos,hcs⟩
 unfold PySem.getItem
 try with_reducible refine wpAny_holding ?_
 first|refine wpAny_bind (wpAny_pure ?_)|skip
 refine wpAny_bind (wpAny_sequenceKey ht.typeIs (by decide) ?_)
 refine wpAny_bind (wpAny_callSpecial?_slot (name:=Str.ofString "__getitem__") ht.typeIs slot_tuple_getitem
  (wpAny_call_entry slot_tuple_getitem ht.typeIs entry_tuple_getitem ?_ (args_tuple_getitem _ _)))
 show wpAny _ _ (Builtin.Tuple.tupleItemsOf (.ref t) >>=_) _ _ s
 refine wpAny_bind (tupleItemsOf_ ht ?_)
 refine wpAny_bind (wpAny_typeOf hTs ?_)
 rw[if_pos (by decide)]
 refine wpAny_bind (mV hs hb ?_)
 have hno:¬ (((0:Int)==0&&(1:Int)==1&&b==aI.size)=true):=by
  have:(b==aI.size)=false:=by rw[beq_eq_false_iff_ne];omega
  rw[this];simp
 show wpAny _ _ (if ((0:Int)==0&&(1:Int)==1&&b==aI.size)=true then _ else _) _ _ s
 rw[if_neg hno,DE aI b (Nat.le_of_lt hb)]
 first
  |exact wpAny_bind (m:=Builtin.Tuple.tupleExact _) (wpAny_newObj_type (wpAny_pure ⟨_,rfl,wpAny_pure h⟩) htake)
  |exact wpAny_bind (m:=Builtin.Tuple.tupleExact _) (wpAny_newObj_type (wpAny_bind (wpAny_pure (wpAny_pure ⟨_,rfl,wpAny_pure h⟩))) htake)
  |exact wpAny_bind (wpAny_bind (m:=Builtin.Tuple.tupleExact _) (wpAny_newObj_type (wpAny_pure (wpAny_pure ⟨_,rfl,wpAny_pure h⟩)) htake))
  |exact wpAny_bind (wpAny_bind (m:=Builtin.Tuple.tupleExact _) (wpAny_newObj_type (wpAny_pure ⟨_,rfl,wpAny_pure h⟩) htake))
def fX(v:Value)(k:Option Int):Prop:=(v=.none∧k=none)∨∃ i t,v=.int i t∧k=some i
theorem fX.part{v:Value}{k:Option Int}(h:fX v k):IsPart v k:=by
 rcases h with⟨rfl,rfl⟩|⟨i,t,rfl,rfl⟩
 ·exact .none
 ·exact .int i t
theorem fX.value{v:Value}{k:Option Int}(h:fX v k):∃ q:Option (Int×Tok),v=partValue q∧q.map (·.1)=k:=by
 rcases h with⟨rfl,rfl⟩|⟨i,t,rfl,rfl⟩
 ·exact⟨none,rfl,rfl⟩
 ·exact⟨some (i,t),rfl,rfl⟩
theorem aW.cut{vs:List Value}{ms:List MV}(h:aW prog w cls G μ vs ms)(lo hi:Option Int):aW prog w cls G μ (kms_pick vs lo hi) (Mine.cut ms lo hi):=by
 unfold kms_pick Mine.cut
 rw[h.length]
 exact(h.drop _).take _
theorem w0{x m:MV}{a lo hi:Value}{i j:Option Int}{sl:Addr}(e:dd x i j=some m)(S:St prog w cls B G μ H s.heap)(ra:bX prog w cls G μ a x)
  (hs:s.heap.IsSliceOf sl lo hi .none) (bl:fX lo i) (bh:fX hi j):
  wpAny (model prog w) A (PySem.getItem a (.ref sl)) (bf prog w cls B [] G μ s H m) E s:=by
 unfold dd at e
 cases ra with
 |@lst c vs ms h1 r1=>
  dsimp only at e
  cases q:bZ ms with
  |false=>rw[q] at e;cases e
  |true=>
   rw[q] at e;cases e
   have hz:=bH q
   refine wpAny_getItem_list_slice (aP h1 S.keep).isList hs bl.part bh.part .none (by simp) ?_ (bq (by simpa [r1.length] using hz))
   rw[kms_pick_eq]
   refine ca S rfl fun G' k g=>?_
   refine .lst ⟨_,g⟩ ?_
   exact(r1.cut i j).mono k ⟨[],by simp⟩
 |@raw c vs ms h1 r1=>
  dsimp only at e
  cases q:bZ ms with
  |false=>rw[q] at e;cases e
  |true=>
   rw[q] at e;cases e
   have hz:=bH q
   refine wpAny_getItem_list_slice (jv h1 S.keep) hs bl.part bh.part .none (by simp) ?_ (bq (by simpa [r1.length] using hz))
   rw[kms_pick_eq]
   refine ca S rfl fun G' k g=>?_
   refine .lst ⟨_,g⟩ ?_
   exact(r1.cut i j).mono k ⟨[],by simp⟩
 |@tup c vs ms h1 r1=>
  dsimp only at e
  have ht:IsTup s.heap c vs.toArray:=aT h1 S.keep
  have hl:=r1.length
  split at e
  ·rename_i p
   cases q:bZ ms&&decide (1≤p)&&decide (p≤ms.length) with
   |false=>rw[q] at e;cases e
   |true=>
    rw[q] at e;cases e
    simp only[Bool.and_eq_true,decide_eq_true_eq] at q
    obtain⟨⟨q1,q2⟩,q3⟩:=q
    have hz:=bH q1
    rcases bl with⟨_,z⟩|⟨p',t,rfl,z⟩
    ·cases z
    ·cases z
     rcases bh with⟨rfl,_⟩|⟨_,_,_,z⟩
     ·obtain⟨n,rfl⟩:∃ n:Nat,p=(n:Int):=⟨p.toNat,by omega⟩
      refine getItem_tuple_from ht hs (by omega) (by simp;omega) ?_ (bq (by simpa [hl] using hz))
      refine ca S rfl fun G' k g=>?_
      refine .tup ⟨_,g,rfl,_,rfl⟩ ?_
      simpa using (r1.drop n).mono k ⟨[],by simp⟩
     ·cases z
  ·rename_i p
   cases q:bZ ms&&decide (0≤p)&&decide (p < ms.length) with
   |false=>rw[q] at e;cases e
   |true=>
    rw[q] at e;cases e
    simp only[Bool.and_eq_true,decide_eq_true_eq] at q
    obtain⟨⟨q1,q2⟩,q3⟩:=q
    have hz:=bH q1
    rcases bh with⟨_,z⟩|⟨p',t,rfl,z⟩
    ·cases z
    ·cases z
     rcases bl with⟨rfl,_⟩|⟨_,_,_,z⟩
     ·obtain⟨n,rfl⟩:∃ n:Nat,p=(n:Int):=⟨p.toNat,by omega⟩
      refine lB ht hs (by simp;omega) ?_ (bq (by simpa [hl] using hz))
      refine ca S rfl fun G' k g=>?_
      refine .tup ⟨_,g,rfl,_,rfl⟩ ?_
      simpa using (r1.take n).mono k ⟨[],by simp⟩
     ·cases z
  ·cases e
 |str x t=>
  dsimp only at e
  cases q:t0 x with
  |false=>rw[q] at e;cases e
  |true=>
   rw[q] at e;cases e
   have hz:=ln q
   obtain⟨u,rfl,rfl⟩:=bl.value
   obtain⟨v,rfl,rfl⟩:=bh.value
   refine wpAny_getItem_str_slice (l:=u) (u:=v) (st:=none) hs rfl ?_
   exact post_val_or_str ⟨Nat.le_trans (Txt.slice_le x _ _) (bq hz),fun t' k=>aY S (.str _ _)⟩
 |_=>cases e
theorem fq.len{kvs:List (Str×Value)}{es:List (Str×MV)}(r:fq prog w cls G μ kvs es):kvs.length=es.length:=by
 induction kvs generalizing es with
 |nil=>cases r;rfl
 |cons p l ih=>cases r with|cons _ r2=>simp[ih r2]
theorem fN.len{kvs:List (Int×Value)}{es:List (Int×MV)}(r:fN prog w cls G μ kvs es):kvs.length=es.length:=by
 induction kvs generalizing es with
 |nil=>cases r;rfl
 |cons p l ih=>cases r with|cons _ r2=>simp[ih r2]
theorem fV{K:Type}[DecidableEq K](p:K×Value)(l:List (K×Value))(k:K)(v:Value)(hn:(p::l).map (·.1)|>.Nodup):
  stored (p::l) k v=if p.1=k then (p.1,v)::l else p::stored l k v:=by
 unfold stored
 by_cases hk:p.1=k
 ·subst hk
  simp only[List.any_cons,decide_true,Bool.true_or,if_true,List.map_cons]
  rw[map_store_of_not_mem l _ v (by simpa using (List.nodup_cons.mp hn).1)]
 ·simp only[List.any_cons,decide_eq_false hk,Bool.false_or,List.map_cons,if_neg hk,List.cons_append]
  split<;>rfl
theorem fq.put{kvs:List (Str×Value)}{es:List (Str×MV)}(r:fq prog w cls G μ kvs es)(hn:(kvs.map (·.1)).Nodup){k:Str}{v:Value}{m:MV}(hv:bX prog w cls G μ v m):
  fq prog w cls G μ (stored kvs k v) (put k m es):=by
 induction kvs generalizing es with
 |nil=>cases r;exact .cons hv .nil
 |cons p l ih=>
  cases r with|@cons a b m' _ ms r1 r2=>
  rw[fV _ _ _ _ hn]
  unfold Mine.put
  dsimp only
  by_cases hk:a=k
  ·subst hk;simp only[beq_self_eq_true,if_true];exact .cons hv r2
  ·rw[if_neg hk,beq_false_of_ne hk];exact .cons r1 (ih r2 (List.nodup_cons.mp hn).2)
theorem fN.put{kvs:List (Int×Value)}{es:List (Int×MV)}(r:fN prog w cls G μ kvs es)(hn:(kvs.map (·.1)).Nodup){k:Int}{v:Value}{m:MV}(hv:bX prog w cls G μ v m):
  fN prog w cls G μ (stored kvs k v) (put k m es):=by
 induction kvs generalizing es with
 |nil=>cases r;exact .cons hv .nil
 |cons p l ih=>
  cases r with|@cons a b m' _ ms r1 r2=>
  rw[fV _ _ _ _ hn]
  unfold Mine.put
  dsimp only
  by_cases hk:a=k
  ·subst hk;simp only[beq_self_eq_true,if_true];exact .cons hv r2
  ·rw[if_neg hk,beq_false_of_ne hk];exact .cons r1 (ih r2 (List.nodup_cons.mp hn).2)
theorem qF{K:Type}[DecidableEq K]{knd:KeyKind prog w K}{h:Heap}{a:Addr}{kvs:List (K×Value)}(x:h.DictOf knd a kvs):(kvs.map (·.1)).Nodup:=let ⟨_,_,_,_,_,_,_,_,n⟩:=x;n
def Ko(prog:Program)(w:World)(cls:Str→Option Addr)(B:Heap)(P:List Addr)(G:Heap)(μ:List Addr)(s:Shared)(H':Hp):Unit→Shared→Prop:=
 fun _ s'=>∃ G' μ',Nx P G μ s G' μ' s'∧St prog w cls B G' μ' H' s'.heap
theorem sE{l:Addr}{aI:Array Value}{k:Int}{t:Tok}{v:Value}{Q:Unit→Shared→Prop}(hp:s.heap.PlainList l aI)(h0:0≤k)(hfit:k < 2 ^ 63)(hn:k < aI.size)
  (hQ:∀ h',h'.PlainList l (aI.setIfInBounds k.toNat v)→Heap.SameBut l s.heap h'→Q () { s with heap:=h' }):wpAny (model prog w) A (PySem.setItem (.ref l) (.int k t) v) Q E s:=by
 have hl:=hp.isList
 obtain⟨n,ho⟩:=hp
 unfold PySem.setItem
 try with_reducible refine wpAny_holding ?_
 first|refine wpAny_bind (wpAny_pure ?_)|skip
 refine wpAny_bind (wpAny_sequenceKey hl.typeIs (by decide) ?_)
 refine wpAny_bind (wpAny_callSpecial?_slot (name:=Str.ofString "__setitem__") hl.typeIs slot_list_setitem (wpAny_call_entry slot_list_setitem hl.typeIs entry_list_setitem ?_ (args_list_setitem _ _ _)))
 show wpAny _ _ (Builtin.List.listSubscript? (.int k t) >>=_) _ _ s
 refine wpAny_bind (wpAny_listSubscript_int (fitsIndex_of h0 hfit) ?_)
 obtain⟨j,rfl⟩:=Int.eq_ofNat_of_zero_le h0
 have hj:j < aI.size:=by omega
 show wpAny _ _ ((seqItemAt l j >>=fun r=>pure (r.map (j,·))) >>=_) _ _ s
 refine wpAny_bind (wpAny_bind (wpAny_seqItemAt ho rfl (wpAny_pure ?_)))
 rw[Array.getElem?_eq_getElem hj]
 show wpAny _ _ (setSeqItemAt l j v >>=_) _ _ s
 have hd':Obj.mapSeq (·.setIfInBounds j v) { cls:=.type "list",data:=.seq aI n }={ cls:=.type "list",data:=.seq (aI.setIfInBounds j v) n }:=by simp[Obj.mapSeq]
 refine wpAny_bind (wpAny_setSeqItemAt ho rfl ?_)
 have hfin:(s.heap.update l (Obj.mapSeq (·.setIfInBounds j v))).PlainList l (aI.setIfInBounds j v):=by
  refine⟨_,(Heap.get?_update_self _ ho (by rw[hd'];rfl)).trans (congrArg some hd')⟩
 first
  |exact wpAny_bind (wpAny_pure (wpAny_pure ⟨.none,rfl,wpAny_pure (hQ _ hfin (Heap.SameBut.update ..))⟩))
  |exact wpAny_pure ⟨.none,rfl,wpAny_pure (hQ _ hfin (Heap.SameBut.update ..))⟩
theorem si{x y m:MV}{a b v:Value}(e:setItem x y m H=some ((),H'))(S:St prog w cls B G μ H s.heap)(ra:bX prog w cls G μ a x)(rb:bX prog w cls G μ b y)(rv:bX prog w cls G μ v m):
  wpAny (model prog w) A (PySem.setItem a b v) (Ko prog w cls B [] G μ s H') E s:=by
 have fin:∀ {i:Nat} {c:Addr} {mo:MO} {h:Heap} {tk:Nat},μ[i]?=some c→Heap.SameBut c s.heap h→jF prog w cls G μ h c mo→H.set i mo=H'→Ko prog w cls B [] G μ s H' () { s with heap:=h,toks:=tk }:=by
  intro i c mo h tk h1 h2 h3 h4
  subst h4
  obtain⟨G',μ',n,S',_⟩:=rp (P:=[]) (tk:=tk) (v:=.none) (r:=.none) S h1 h2 h3 .none
  exact⟨G',μ',n,S'⟩
 unfold setItem at e
 cases ra with
 |@ref c i hi=>
  dsimp only at e
  split at e
  ·rename_i ms k hm
   cases rb with|int _ t=>
   cases q:decide (0≤k)&&decide (k < ms.length)&&bZ ms with
   |false=>rw[q] at e;cases e
   |true=>
    rw[q] at e
    simp only[Bool.and_eq_true,decide_eq_true_eq] at q
    obtain⟨⟨q1,q2⟩,q3⟩:=q
    have hz:=bH q3
    obtain⟨vs,hl,r1⟩:=S.refL hi hm
    have hlen:=r1.length
    refine sE hl q1 (by omega) (by simp;omega) fun h' hl' hs'=>fin (mo:=.lst (ms.set k.toNat m)) hi hs' ⟨vs.set k.toNat v,?_,r1.set rv _⟩ (congrArg Prod.snd (Option.some.inj e))
    simpa using hl'
  ·rename_i es k hm
   cases rb with|str _ t=>
   cases q:Nat.ble es.length 100000 with
   |false=>rw[q] at e;cases e
   |true=>
    rw[q] at e
    have hz:=Nat.le_of_ble_eq_true q
    obtain⟨kvs,hd,r1,n⟩:jF prog w cls G μ s.heap c (.dcs es):=S.obj i c _ hi hm
    refine wpAny_setItem_pairs (knd:=PySem.strKind prog w) (k:=k) (by simp[PySem.strKind,Value.isStrOf]) hd (fun h' hd' hs'=>fin (mo:=.dcs (put k m es)) hi hs' ⟨_,hd',r1.put (qF hd) rv,n⟩ (congrArg Prod.snd (Option.some.inj e))) (bq (by rw[r1.len];exact hz))
  ·rename_i es k hm
   cases rb with|int _ t=>
   cases q:Nat.ble es.length 100000 with
   |false=>rw[q] at e;cases e
   |true=>
    rw[q] at e
    have hz:=Nat.le_of_ble_eq_true q
    obtain⟨kvs,hd,r1,n⟩:jF prog w cls G μ s.heap c (.dci es):=S.obj i c _ hi hm
    refine wpAny_setItem_pairs (knd:=PySem.intKind prog w) (k:=k) (by simp[PySem.intKind,Value.isInt]) hd (fun h' hd' hs'=>fin (mo:=.dci (put k m es)) hi hs' ⟨_,hd',r1.put (qF hd) rv,n⟩ (congrArg Prod.snd (Option.some.inj e))) (bq (by rw[r1.len];exact hz))
  ·cases e
 |_=>cases e
end
section
variable{prog:Program}{w:World}{cls:Str→Option Addr}{B G G':Heap}{μ μ':List Addr}{H H':Hp}{s s':Shared}{A:Around}{E:Value→Shared→Prop}
def k9(f:Str):Value:=
 bif f=="len" then .builtin "len"
 else bif f=="sum" then .builtin "sum"
 else bif f=="str" then .type "str"
 else bif f=="tuple" then .type "tuple"
 else bif f=="list" then .type "list"
 else bif f=="dict" then .type "dict"
 else bif f=="sorted" then .builtin "sorted"
 else bif f=="max" then .builtin "max"
 else bif f=="range" then .type "range"
 else bif f=="enumerate" then .type "enumerate"
 else .type "zip"
theorem St.dcsL{h:Heap}(S:St prog w cls B G μ H h){i:Nat}{a:Addr}{es:List (Str×MV)}(hi:μ[i]?=some a)(e:H[i]?=some (.dcs es)):
  ∃ kvs,h.DictOf (PySem.strKind prog w) a kvs∧fq prog w cls G μ kvs es∧(a==sysModules)=false:=S.obj i a _ hi e
theorem St.dciL{h:Heap}(S:St prog w cls B G μ H h){i:Nat}{a:Addr}{es:List (Int×MV)}(hi:μ[i]?=some a)(e:H[i]?=some (.dci es)):
  ∃ kvs,h.DictOf (PySem.intKind prog w) a kvs∧fN prog w cls G μ kvs es∧(a==sysModules)=false:=S.obj i a _ hi e
theorem p6{x v:MV}{a:Value}(e:Bi H x=some v)(S:St prog w cls B G μ H s.heap)(ra:bX prog w cls G μ a x):
  wpAny (model prog w) A (call (.builtin "len") [a]) (bf prog w cls B [] G μ s H v) E s:=by
 unfold Bi at e
 cases ra with
 |@lst c vs ms h1 r1=>
  dsimp only at e
  cases q:bZ ms with
  |false=>rw[q] at e;cases e
  |true=>
   rw[q] at e;cases e
   have hz:=bH q
   have hl:=r1.length
   refine PyProof.Rows.len_list (aP h1 S.keep).isList (by simp;omega) ?_
   have:=aY (P:=[]) (tk:=s.toks+1+1) S (bX.int (prog:=prog) (w:=w) (cls:=cls) (G:=G) (μ:=μ) (vs.length:Int) (s.toks+1))
   rw[←hl];simpa using this
 |@tup c vs ms h1 r1=>
  dsimp only at e
  cases q:bZ ms with
  |false=>rw[q] at e;cases e
  |true=>
   rw[q] at e;cases e
   have hz:=bH q
   have hl:=r1.length
   refine PyProof.Rows.len_tuple (aT h1 S.keep) (by simp;omega) ?_
   have:=aY (P:=[]) (tk:=s.toks+1+1) S (bX.int (prog:=prog) (w:=w) (cls:=cls) (G:=G) (μ:=μ) (vs.length:Int) (s.toks+1))
   rw[←hl];simpa using this
 |str x t=>
  dsimp only at e
  cases q:t0 x with
  |false=>rw[q] at e;cases e
  |true=>
   rw[q] at e;cases e
   have hz:=ln q
   exact PyProof.Rows.len_str (by omega) (aY S (.int _ _))
 |@ref c i hi=>
  dsimp only at e
  split at e
  ·rename_i ms hm
   obtain⟨vs,h1,r1⟩:=S.refL hi hm
   cases q:bZ ms with
   |false=>rw[q] at e;cases e
   |true=>
    rw[q] at e;cases e
    have hz:=bH q
    have hl:=r1.length
    refine PyProof.Rows.len_list h1.isList (by simp;omega) ?_
    have:=aY (P:=[]) (tk:=s.toks+1+1) S (bX.int (prog:=prog) (w:=w) (cls:=cls) (G:=G) (μ:=μ) (vs.length:Int) (s.toks+1))
    rw[←hl];simpa using this
  ·cases e
 |_=>cases e
theorem DH{vs:List Value}{ms:List MV}{i:Int}(r:aW prog w cls G μ vs ms)(e:ql ms=some i):∃ xs:List (Int×Tok),vs=xs.map (fun p=>.int p.1 p.2)∧(xs.map (·.1)).sum=i:=by
 induction vs generalizing ms i with
 |nil=>cases r;cases e;exact⟨[],rfl,rfl⟩
 |cons v vs ih=>
  cases r with|cons r1 r2=>
  cases r1 with
  |int x t=>
   obtain⟨j,hj,rfl⟩:=Option.map_eq_some_iff.mp (show(ql _).map (x+·)=some i from e)
   obtain⟨xs,rfl,rfl⟩:=ih r2 hj
   exact⟨(x,t)::xs,rfl,by simp⟩
  |_=>cases e
theorem yl{kvs:List (Int×Value)}{vs:List Value}(hl:vs.length=kvs.length)(hv:∀ (j:Nat) (v:Value),vs[j]?=some v→∃ k x,kvs[j]?=some (k,x)∧(PySem.intKind prog w).is k v=true):
  IntsAre vs (kvs.map (·.1)):=by
 induction kvs generalizing vs with
 |nil=>cases vs with|nil=>exact .nil|cons _ _=>simp at hl
 |cons p kvs ih=>
  cases vs with
  |nil=>simp at hl
  |cons v vs=>
   obtain⟨k,x,e,hk⟩:=hv 0 v rfl
   simp at e;subst e
   have:∃ t,v=.int k t:=by
    cases v<;>simp[PySem.intKind,Value.isInt] at hk
    rename_i i t
    exact⟨t,by rw[hk]⟩
   obtain⟨t,rfl⟩:=this
   exact .cons _ _ (ih (by simpa using hl) fun j u hu=>by simpa using hv (j+1) u (by simpa using hu))
theorem vX{vs:List Value}{ns:List Int}(h:IntsAre vs ns):aW prog w cls G μ vs (ns.map .int):=by
 induction h with
 |nil=>exact .nil
 |cons n t _ ih=>exact .cons (.int n t) ih
theorem CE{a b:List Int}(hp:a.Perm b)(hs:a.Pairwise (·≤·)):a=b.mergeSort:=by
 refine List.Perm.eq_of_pairwise (le:=fun x y=>x≤y) (fun _ _ _ _=>Int.le_antisymm) hs ?_ (hp.trans (List.mergeSort_perm b _).symm)
 have:=List.pairwise_mergeSort (le:=fun(x y:Int)=>decide (x≤y)) (fun a b c h1 h2=>by simp at *;omega) (fun a b=>by simp;omega) b
 exact this.imp fun h=>by simpa using h
theorem fN.keys{kvs:List (Int×Value)}{es:List (Int×MV)}(r:fN prog w cls G μ kvs es):kvs.map (·.1)=es.map (·.1):=by
 induction kvs generalizing es with
 |nil=>cases r;rfl
 |cons p l ih=>cases r with|cons _ r2=>simp[ih r2]
theorem fq.keys{kvs:List (Str×Value)}{es:List (Str×MV)}(r:fq prog w cls G μ kvs es):kvs.map (·.1)=es.map (·.1):=by
 induction kvs generalizing es with
 |nil=>cases r;rfl
 |cons p l ih=>cases r with|cons _ r2=>simp[ih r2]
theorem DO{d:Addr}{kvs:List (Int×Value)}{es:List (Int×MV)}(S:St prog w cls B G μ H s.heap)(hh:A.handled=none)(lo:(d==sysModules)=false)(hd:s.heap.DictOf (PySem.intKind prog w) d kvs)
  (r:fN prog w cls G μ kvs es) (hz:es.length≤60):
  wpAny (model prog w) A (call (.builtin "sorted") [.ref d]) (bf prog w cls B [] G μ s H (.lst (vJ es))) E s:=by
 have hlen:=r.len
 obtain⟨ep,hat⟩:=hd.dictAt
 refine call_function_entry kind_sorted plain_sorted entry_sorted (args_sorted1 _) ?_
 unfold Builtin.«sorted»
 refine wpAny_bind (m:=checkCount "sorted" 1 1 _) (wpAny_pure ?_)
 refine wpAny_bind (kdu_collect (A:=A.in1) (kdl_dict (knd:=PySem.intKind prog w) (kvs:=kvs) (ep:=ep) lo) hh hat (bq (by omega)) fun h' tk acc hk hacc=>?_)
 have hl:acc.toList.length=kvs.length:=by rw[Array.length_toList];exact hacc.1
 refine wpAny_bind (wpAny_newList ?_ (by rw[hl];exact bq (by omega)))
 have hI:IntsAre acc.toList (kvs.map (·.1)):=yl hl fun j v e=>hacc.2 j v (by rw[←Array.getElem?_toList];exact e)
 have hoL:(h'.push (seqObj "list" acc.toList.toArray 0)).get? h'.objs.size=some (seqObj "list" acc.toList.toArray 0):=Heap.get?_push_size _ rfl
 show wpAny _ _ _ _ _ { s with heap:=h'.push (seqObj "list" acc.toList.toArray 0),toks:=tk }
 refine wpAny_bind (wpAny_holding (wpAny_call_entry slot_list_sort ⟨_,hoL,rfl⟩ entry_list_sort (list_sort_tree hoL hI (by omega) fun out ns' a1 a2 a3=>⟨_,rfl,?_⟩) (args_list_sort _)))
 refine wpAny_pure ⟨_,rfl,?_⟩
 have e1:ns'=(es.map (·.1)).mergeSort:=by rw[←r.keys];exact CE a2 a3
 subst e1
 have hold:Le s.heap (sortedHeap (h'.push (seqObj "list" acc.toList.toArray 0)) h'.objs.size acc.toList out):=fun b o e=>by
  have e1:=hk b o e
  have hb:b < h'.objs.size:=aK e1
  have hne:h'.objs.size≠b:=(Nat.ne_of_lt hb).symm
  unfold sortedHeap
  rw[Heap.get?_update_other _ _ hne]
  refine Heap.get?_push_of_some _ (Heap.get?_push_of_some _ ?_)
  rw[Heap.get?_update_other _ _ hne]
  exact Heap.get?_push_of_some _ e1
 obtain⟨c,hc⟩:=sortedHeap_at (vs:=acc.toList) (out:=out) hoL
 have hdead:s.heap.get? h'.objs.size=none:=by
  cases q:s.heap.get? h'.objs.size with
  |none=>rfl
  |some o=>exact absurd (aK (hk _ _ q)) (Nat.lt_irrefl _)
 refine fF (h:=sortedHeap (h'.push (seqObj "list" acc.toList.toArray 0)) h'.objs.size acc.toList out) (tk:=tk) [h'.objs.size] S hold (fun a ha=>by rw[List.mem_singleton.mp ha];exact hdead) fun G' k g=>?_
 refine .lst (vs:=out.toList) ⟨c,(g _ (.head _)).trans (hc.trans (by simp[seqObj]))⟩ ?_
 exact vX a1
theorem yf{f:Str}{xs:List MV}{v:MV}{as:List Value}(e:builtin f xs H=some (v,H'))(S:St prog w cls B G μ H s.heap)(ra:aW prog w cls G μ as xs)(hh:A.handled=none)(hB:∃ a,sysModules < a∧B.get? a≠none):
  wpAny (model prog w) A (call (k9 f) as) (bf prog w cls B [] G μ s H' v) E s:=by
 unfold builtin at e
 split at e
 ·rename_i m
  cases ra with|@cons a _ _ _ ra r0=>
  cases r0
  unfold k9
  cases q1:f=="len" with
  |true=>
   rw[q1] at e
   obtain⟨v',hv',e2⟩:=Option.map_eq_some_iff.mp (show(Bi H m).map (·,H)=some (v,H') from e)
   cases e2
   exact p6 hv' S ra
  |false=>
  cases q2:f=="sum" with
  |true=>
   rw[q1,q2] at e
   dsimp only[cond_true,cond_false] at e
   split at e
   ·rename_i l
    cases ra with|@lst c _ _ h1 r1=>
    cases q:bZ l with
    |false=>rw[q] at e;cases e
    |true=>
     rw[q] at e
     obtain⟨i,hi,e2⟩:=Option.map_eq_some_iff.mp (show(ql l).map (fun i=>(MV.int i,H))=some (v,H') from e)
     cases e2
     obtain⟨xs,rfl,rfl⟩:=DH r1 hi
     have hl:s.heap.IsList c (intItems xs.toArray):=by
      have:=(aP h1 S.keep).isList
      simpa [intItems] using this
     refine sum_intListG hh hl fun h' tk t' hk=>?_
     have e3:preSum (numAt xs.toArray) xs.toArray.size=(xs.map (·.1)).sum:=by
      rw[preSum_eq,List.take_of_length_le (by simp)]
     rw[e3]
     exact fF [] S hk (fun a ha=>by cases ha) fun G' k g=>.int _ _
   ·cases e
  |false=>
  cases q3:f=="str" with
  |true=>
   rw[q1,q2,q3] at e
   dsimp only[cond_true,cond_false] at e
   split at e
   ·rename_i i
    cases ra with|int _ t=>
    cases q:decide (0≤i)&&decide (i < 1000) with
    |false=>rw[q] at e;cases e
    |true=>
     rw[q] at e;cases e
     simp only[Bool.and_eq_true,decide_eq_true_eq] at q
     refine PySem.P.str_of_int ?_ (aY S (.str _ _))
     by_cases h0:i.natAbs=0
     ·rw[h0];decide
     ·exact(Nat.log2_lt h0).mpr (Nat.lt_of_lt_of_le (by omega:i.natAbs < 2 ^ 10) (Nat.pow_le_pow_right (by decide) (by decide)))
   ·cases e
  |false=>
  cases q4:f=="tuple" with
  |true=>
   rw[q1,q2,q3,q4] at e
   dsimp only[cond_true,cond_false] at e
   split at e
   ·rename_i l
    cases ra with|@lst c vs _ h1 r1=>
    cases q:bZ l with
    |false=>rw[q] at e;cases e
    |true=>
     rw[q] at e;cases e
     have hz:=bH q
     have hl:=r1.length
     refine call_tuple_list (aP h1 S.keep).isList (fun h' hk=>?_) (bq (by simp;omega))
     have hdead:s.heap.get? h'.objs.size=none:=by
      cases q:s.heap.get? h'.objs.size with
      |none=>rfl
      |some o=>exact absurd (aK (hk _ _ q)) (Nat.lt_irrefl _)
     refine fF (h:=h'.push { cls:=.type "tuple",data:=.seq vs.toArray }) (tk:=s.toks) [h'.objs.size] S (fun b o e=>Heap.get?_push_of_some _ (hk b o e)) (fun a ha=>by rw[List.mem_singleton.mp ha];exact hdead) fun G' k g=>?_
     exact .tup ⟨_,(g _ (.head _)).trans (Heap.get?_push_size _ rfl),rfl,_,rfl⟩ (r1.mono k ⟨[],by simp⟩)
   ·cases e
  |false=>
  cases q5:f=="list" with
  |true=>
   rw[q1,q2,q3,q4,q5] at e
   dsimp only[cond_true,cond_false] at e
   split at e
   ·cases ra with|@ref c i hi=>
    split at e
    ·rename_i l hm
     obtain⟨vs,h1,r1⟩:=S.refL hi hm
     cases q:bZ l with
     |false=>rw[q] at e;cases e
     |true=>
      rw[q] at e;cases e
      have hz:=bH q
      have hl:=r1.length
      obtain⟨o,ho,hc,n,hd⟩:=h1.isList
      refine call_list_seq _ (.inl rfl) ho hc hd (fun h' c' hk hg=>?_) (bq (by simp;omega))
      exact f8 (tk:=s.toks) S hk bV ⟨vs,⟨c',hg⟩,r1⟩
    ·cases e
   ·cases e
  |false=>
  cases q6:f=="dict" with
  |true=>
   rw[q1,q2,q3,q4,q5,q6] at e
   dsimp only[cond_true,cond_false] at e
   have hle:∀ h',Heap.SameBut s.heap.objs.size (s.heap.push { cls:=.type "dict",data:=.dict #[] }) h'→Le s.heap h':=fun h' hs b o e=>by
    rw[hs.2 b (Nat.ne_of_lt (aK e))];exact Heap.get?_push_of_some _ e
   have hsm:(s.heap.objs.size==sysModules)=false:=by
    rw[beq_eq_false_iff_ne]
    obtain⟨a,ha,hb⟩:=hB
    cases z:B.get? a with
    |none=>exact absurd z hb
    |some o=>exact(Nat.ne_of_lt (Nat.lt_trans ha (aK (S.keep _ _ (S.base _ _ z))))).symm
   split at e
   ·cases ra with|@ref c i hi=>
    split at e
    ·rename_i l hm
     obtain⟨kvs,h1,r1,n⟩:=S.dcsL hi hm
     cases q:Nat.ble l.length 100000 with
     |false=>rw[q] at e;cases e
     |true=>
      rw[q] at e;cases e
      have hz:=Nat.le_of_ble_eq_true q
      have hl:=r1.len
      refine kt_call_dict n h1 (bq (by omega)) fun h' hd hs=>?_
      refine f8 (tk:=s.toks) S (hle h' hs) bV ⟨kvs,hd,r1,?_⟩
      exact hsm
    ·rename_i l hm
     obtain⟨kvs,h1,r1,n⟩:=S.dciL hi hm
     cases q:Nat.ble l.length 100000 with
     |false=>rw[q] at e;cases e
     |true=>
      rw[q] at e;cases e
      have hz:=Nat.le_of_ble_eq_true q
      have hl:=r1.len
      refine kt_call_dict n h1 (bq (by omega)) fun h' hd hs=>?_
      refine f8 (tk:=s.toks) S (hle h' hs) bV ⟨kvs,hd,r1,?_⟩
      exact hsm
    ·cases e
   ·cases e
  |false=>
  cases q7:f=="sorted" with
  |true=>
   rw[q1,q2,q3,q4,q5,q6,q7] at e
   dsimp only[cond_true,cond_false] at e
   split at e
   ·cases ra with|@ref c i hi=>
    split at e
    ·rename_i l hm
     obtain⟨kvs,h1,r1,n⟩:=S.dciL hi hm
     cases q:Nat.ble l.length 60 with
     |false=>rw[q] at e;cases e
     |true=>
      rw[q] at e;cases e
      exact DO S hh n h1 r1 (Nat.le_of_ble_eq_true q)
    ·cases e
   ·cases e
  |false=>
   rw[q1,q2,q3,q4,q5,q6,q7] at e
   cases e
 ·rename_i a b
  cases ra with|cons ra r0=>
  cases r0 with|cons rb r0=>
  cases r0;cases ra;cases rb
  cases q:f=="max" with
  |false=>rw[q] at e;cases e
  |true=>
   rw[q] at e;cases e
   rw[eq_of_beq q]
   refine max_two_ints hh fun h' tk hk=>?_
   refine fF [] S hk (fun a ha=>by cases ha) fun G' k g=>?_
   by_cases hab:a < b
   ·rw[if_pos hab,if_pos hab];exact .int _ _
   ·rw[if_neg hab,if_neg hab];exact .int _ _
 ·cases e
end
section
variable{prog:Program}{w:World}{cls:Str→Option Addr}{B G G':Heap}{μ μ':List Addr}{H H':Hp}{s s':Shared}{A:Around}{E:Value→Shared→Prop}
def EB(k:Nat):String:=match k with
 |0=>"str"
 |1=>"list"
 |_=>"dict"
def Eh(k:Nat)(m:Str):String:=match k with
 |0=>bif m=="split" then "str.split" else bif m=="startswith" then "str.startswith" else "str.find"
 |1=>bif m=="index" then "list.index" else bif m=="append" then "list.append" else "list.reverse"
 |_=>"dict.get"
structure LM(s:Shared)(a:Value)(k:Nat)(m:Str):Prop where
 pa:PlainAttrs (EB k)
 slot:Slot (EB k) m (Eh k m)
 ty:typeOf (.builtin (Eh k m))=pure (.type "method_descriptor")
 has:s.TypeIs a (EB k)
 nd:∀ c,a=.ref c→∃ o,s.heap.get? c=some o∧o.dict=none
theorem Fy{x:MV}{a:Value}{m:Str}{k:Nat}(e:dI x m H=some (k,H'))(S:St prog w cls B G μ H s.heap)(ra:bX prog w cls G μ a x):H'=H∧LM s a k m:=by
 unfold dI at e
 cases ra with
 |str x t=>
  dsimp only at e
  cases q:(["split","startswith","find"]:List Str).contains m with
  |false=>rw[q] at e;cases e
  |true=>
   rw[q] at e;cases e
   have hm:m="split"∨m="startswith"∨m="find":=by simpa using List.contains_iff_mem.mp q
   refine⟨rfl,?_⟩
   rcases hm with rfl|rfl|rfl
   ·exact⟨PySem.F.plainAttrs_str,PySem.F.slot_str_split,PySem.F.type_str_split,typeIs_str _ _ _,GM.noRef⟩
   ·exact⟨PySem.F.plainAttrs_str,PySem.F.slot_str_startswith,PySem.F.type_str_startswith,typeIs_str _ _ _,GM.noRef⟩
   ·exact⟨PySem.F.plainAttrs_str,PySem.F.slot_str_find,PySem.F.type_str_find,typeIs_str _ _ _,GM.noRef⟩
 |lst h1 r1=>
  dsimp only at e
  cases q:m=="index" with
  |false=>rw[q] at e;cases e
  |true=>
   rw[q] at e;cases e
   have:=eq_of_beq q
   subst this
   obtain⟨n,ho⟩:=aP h1 S.keep
   exact⟨rfl,PySem.F.plainAttrs_list,PySem.F.slot_list_index,PySem.F.type_list_index,⟨_,ho,rfl⟩,fun c ec=>by cases ec;exact⟨_,ho,rfl⟩⟩
 |@ref c i hi=>
  dsimp only at e
  split at e
  ·rename_i ms hm
   obtain⟨vs,⟨n,ho⟩,r1⟩:=S.refL hi hm
   cases q:m=="append"||m=="reverse" with
   |false=>rw[q] at e;cases e
   |true=>
    rw[q] at e;cases e
    refine⟨rfl,?_⟩
    rcases Bool.or_eq_true_iff.mp q with q|q
    ·have:=eq_of_beq q
     subst this
     exact⟨PySem.F.plainAttrs_list,PySem.F.slot_list_append,PySem.F.type_list_append,⟨_,ho,rfl⟩,fun c ec=>by cases ec;exact⟨_,ho,rfl⟩⟩
    ·have:=eq_of_beq q
     subst this
     exact⟨PySem.F.plainAttrs_list,PySem.F.slot_list_reverse,PySem.F.type_list_reverse,⟨_,ho,rfl⟩,fun c ec=>by cases ec;exact⟨_,ho,rfl⟩⟩
  ·rename_i es hm
   obtain⟨kvs,hd,r1,n⟩:=S.dciL hi hm
   cases q:m=="get" with
   |false=>rw[q] at e;cases e
   |true=>
    rw[q] at e;cases e
    have:=eq_of_beq q
    subst this
    refine⟨rfl,PySem.F.plainAttrs_dict,PySem.F.slot_dict_get,PySem.F.type_dict_get,hd.typeIs,fun c ec=>?_⟩
    cases ec
    obtain⟨o,es,ep,ho,hx,_⟩:=hd
    exact⟨o,ho,hx.2.1⟩
  ·cases e
 |_=>cases e
theorem jW(l:List (Str×Tok)):aW prog w cls G μ (strValues l) ((l.map (·.1)).map .str):=by
 induction l with
 |nil=>exact .nil
 |cons p l ih=>exact .cons (.str p.1 p.2) ih
theorem CU{x:Str}{t:Tok}(hz:x.length≤100000)(S:St prog w cls B G μ H s.heap):
  wpAny (model prog w) A (call (.builtin "str.split") [.str x t]) (bf prog w cls B [] G μ s H (.lst ((Txt.words x).map .str))) E s:=by
 have hn:(Builtin.Str.spaceWords x (x.length+1)).length≤sizeLine:=by
  have e1:=(StrLaws.sw_weight x).1
  have e2:=StrLaws.len_le_wsum (Builtin.Str.spaceWords x (x.length+1))
  have:=sizeLine_eq
  omega
 refine call_meets PySem.F.slot_str_split (typeIs_str _ _ _) PySem.F.entry_str_split (PySem.F.args_str_split_1 _) (meets_str_split_space x t (bq hz) hn) ?_
 cases hw:Builtin.Str.spaceWords x (x.length+1)==[(0,x.length)]
 ·simp only[Bool.false_eq_true,if_false]
  rw[strsFrom_eq]
  refine ca S rfl fun G' k g=>?_
  have e1:(PySem.numbered s.toks (PySem.wordsOf x)).map (·.1)=Txt.words x:=(numbered_texts _ _).trans (if_neg (ne_true_of_eq_false hw)).symm
  rw[←e1]
  exact .lst ⟨_,g⟩ (jW (PySem.numbered s.toks (PySem.wordsOf x)))
 ·simp only[if_true]
  refine ca (tk:=s.toks) S rfl fun G' k g=>?_
  rw[show Txt.words x=[x] from if_pos hw]
  exact .lst (vs:=[.str x t]) ⟨_,g⟩ (jW [(x,t)])
theorem Dk{x y:Str}{t u:Tok}(hz:x.length≤100000)(hy:(y.length==0)=false)(S:St prog w cls B G μ H s.heap):
  wpAny (model prog w) A (call (.builtin "str.split") [.str x t,.str y u]) (bf prog w cls B [] G μ s H (.lst ((Txt.split x y).map .str))) E s:=by
 have hn:(Builtin.Str.partsBetween x (Builtin.Str.occurrences x y 0 x.length (x.length+1)) y.length).length≤sizeLine:=by
  have e1:=StrLaws.occ_length_le x y 0 x.length (x.length+1)
  have:=sizeLine_eq
  rw[length_partsBetween];omega
 cases h1:(decide (x.length < y.length)||decide (Builtin.Str.strKind x < Builtin.Str.strKind y))
 ·cases hf:(Builtin.Str.occurrences x y 0 x.length (x.length+1)).isEmpty
  ·refine call_meets PySem.F.slot_str_split (typeIs_str _ _ _) PySem.F.entry_str_split (PySem.F.args_str_split_2 _ _) (meets_str_split_sep x y t u h1 hy hf (bq hz) hn) ?_
   show wants _ E _ { s with toks:=_,heap:=s.heap.push { cls:=.type "list",data:=.seq (strsFrom s.toks (Builtin.Str.partsBetween x (Builtin.Str.occurrences x y 0 x.length (x.length+1)) y.length)).toArray } }
   rw[strsFrom_eq]
   refine ca S rfl fun G' k g=>?_
   have e1:(PySem.numbered s.toks (Builtin.Str.partsBetween x (Builtin.Str.occurrences x y 0 x.length (x.length+1)) y.length)).map (·.1)=Txt.split x y:=
    (numbered_texts _ _).trans ((if_neg (ne_true_of_eq_false h1)).trans (if_neg (ne_true_of_eq_false hf))).symm
   rw[←e1]
   exact .lst ⟨_,g⟩ (jW (PySem.numbered s.toks _))
  ·refine call_meets PySem.F.slot_str_split (typeIs_str _ _ _) PySem.F.entry_str_split (PySem.F.args_str_split_2 _ _) (meets_str_split_not_found x y t u h1 hy hf) ?_
   refine ca (tk:=s.toks) S rfl fun G' k g=>?_
   rw[show Txt.split x y=[x] from(if_neg (ne_true_of_eq_false h1)).trans (if_pos hf)]
   exact .lst (vs:=[.str x t]) ⟨_,g⟩ (jW [(x,t)])
 ·refine call_meets PySem.F.slot_str_split (typeIs_str _ _ _) PySem.F.entry_str_split (PySem.F.args_str_split_2 _ _) (meets_str_split_cannot_occur x y t u h1) ?_
  refine ca (tk:=s.toks) S rfl fun G' k g=>?_
  rw[show Txt.split x y=[x] from if_pos h1]
  exact .lst (vs:=[.str x t]) ⟨_,g⟩ (jW [(x,t)])
theorem wR{l:List Str}{ts:List Tok}(h:ts.length=l.length)(x:Str):∀ (j:Nat) (hj:j < ((l.zip ts).map fun p=>Value.str p.1 p.2).length) (hj':j < l.length),
  i8 x (((l.zip ts).map fun p=>Value.str p.1 p.2)[j])=(l[j]==x):=by
 intro j hj hj'
 simp[i8]
theorem ER{l:Addr}{vs:List Value}{ms:List MV}{ls:List Str}{x:Str}{t:Tok}(S:St prog w cls B G μ H s.heap)(h1:s.heap.PlainList l vs.toArray)(r1:aW prog w cls G μ vs ms)
  (e:tZ ms=some ls) (hx:ls.contains x=true) (hz:ms.length≤100000):
  wpAny (model prog w) A (call (.builtin "list.index") [.ref l,.str x t]) (bf prog w cls B [] G μ s H (.int (ls.idxOf x:Nat))) E s:=by
 obtain⟨ts,ht,rfl⟩:=qi r1 e
 obtain⟨n,ho⟩:=h1
 have hlen:=r1.length
 have hxm:x∈ls:=List.contains_iff_mem.mp hx
 have hj:ls.idxOf x < ls.length:=List.idxOf_lt_length_iff.mpr hxm
 simp[ht] at hlen
 refine call_meets PySem.F.slot_list_index ⟨_,ho,rfl⟩ PySem.F.entry_list_index (PySem.F.args_list_index_2 _ _)
  (list_indexAt l _ n none #[] (.str x t) (i8 x) (ls.idxOf x) (by simpa [ht] using hj) (by omega) ?_ ?_) ⟨ho,fun y hy=>?_,?_⟩
 ·have:=wR ht x (ls.idxOf x) (by simpa [ht] using hj) hj
  simp only[List.getElem_idxOf hj,beq_self_eq_true] at this
  simpa using this
 ·intro j hjs hlt
  have hjl:j < ls.length:=by omega
  have h2:=wR ht x j (by simpa [ht] using hjl) hjl
  have h3:(ls[j]==x)=false:=by
   have:=List.not_of_lt_findIdx (p:=(·==x)) (xs:=ls) (i:=j) hlt
   simpa using this
  rw[h3] at h2
  simpa using h2
 ·simp only[List.mem_toArray,List.mem_map] at hy
  obtain⟨p,_,rfl⟩:=hy
  exact EqAt.str_str _ _ _ _
 ·exact aY S (.int _ _)
theorem DJ{k:Nat}{x v:MV}{a:Value}{m:Str}{xs:List MV}{as:List Value}{H0 H1:Hp}(e0:dI x m H0=some (k,H1))(e:bx k x m xs H=some (v,H'))(S:St prog w cls B G μ H s.heap)
  (ra:bX prog w cls G μ a x) (rs:aW prog w cls G μ as xs):
  wpAny (model prog w) A (call (.builtin (Eh k m)) (a::as)) (bf prog w cls B [] G μ s H' v) E s:=by
 unfold bx at e
 cases ra with
 |str x t=>
  have hk:k=0:=by
   unfold dI at e0
   dsimp only at e0
   cases q:(["split","startswith","find"]:List Str).contains m with
   |false=>rw[q] at e0;cases e0
   |true=>rw[q] at e0;cases e0;rfl
  subst hk
  dsimp only at e
  split at e
  ·cases rs
   cases q:m=="split"&&t0 x with
   |false=>rw[q] at e;cases e
   |true=>
    rw[q] at e;cases e
    obtain⟨q1,q2⟩:=Bool.and_eq_true_iff.mp q
    have:=eq_of_beq q1
    subst this
    exact CU (ln q2) S
  ·rename_i y
   cases rs with|cons ry r0=>
   cases r0;cases ry with|str _ u=>
   cases q:!(t0 x&&t0 y) with
   |true=>rw[q] at e;cases e
   |false=>
    rw[q] at e
    have q:=Bool.and_eq_true_iff.mp (by simpa using q:(t0 x&&t0 y)=true)
    cases q1:m=="split" with
    |true=>
     rw[q1] at e
     dsimp only[cond_true,cond_false] at e
     have:=eq_of_beq q1
     subst this
     cases q2:y.length==0 with
     |true=>rw[q2] at e;cases e
     |false=>
      rw[q2] at e;cases e
      exact Dk (ln q.1) q2 S
    |false=>
     rw[q1] at e
     cases q2:m=="startswith" with
     |true=>
      rw[q2] at e;cases e
      have:=eq_of_beq q2
      subst this
      exact SC.startswith (aN S (.bool _))
     |false=>
      rw[q2] at e
      cases q3:m=="find" with
      |true=>
       rw[q3] at e;cases e
       have:=eq_of_beq q3
       subst this
       exact SC.find (aY S (.int _ _))
      |false=>rw[q3] at e;cases e
  ·cases e
 |@lst c vs ms h1 r1=>
  dsimp only at e
  split at e
  ·rename_i y
   cases rs with|cons ry r0=>
   cases r0;cases ry with|str _ u=>
   cases q:m=="index"&&bZ ms with
   |false=>rw[q] at e;cases e
   |true=>
    rw[q] at e
    dsimp only[cond_true,cond_false] at e
    obtain⟨q1,q2⟩:=Bool.and_eq_true_iff.mp q
    have:=eq_of_beq q1
    subst this
    have hk:k=1:=by cases e0;rfl
    subst hk
    split at e
    ·rename_i ls hls
     cases q3:ls.contains y with
     |false=>rw[q3] at e;cases e
     |true=>
      rw[q3] at e;cases e
      exact ER S (aP h1 S.keep) r1 hls q3 (bH q2)
    ·cases e
  ·cases e
 |@ref c i hi=>
  dsimp only at e
  split at e
  ·rename_i l hm
   cases rs
   cases q:k==1&&m=="reverse"&&bZ l with
   |false=>rw[q] at e;cases e
   |true=>
    rw[q] at e;cases e
    simp only[Bool.and_eq_true] at q
    obtain⟨⟨q1,q2⟩,q3⟩:=q
    have:=eq_of_beq q1
    subst this
    have:=eq_of_beq q2
    subst this
    obtain⟨vs,⟨n,ho⟩,r1⟩:=S.refL hi hm
    have hl:=r1.length
    have hz:=bH q3
    refine call_meets PySem.F.slot_list_reverse ⟨_,ho,rfl⟩ PySem.F.entry_list_reverse (PySem.F.args_list_reverse_1 _) (AutoSeq1.list_reverse_list_0 c vs.toArray n (bq (by simp;omega))) ⟨ho,?_⟩
    refine rp (mo:=.lst l.reverse) (v:=.none) (tk:=s.toks) S hi (Heap.SameBut.update ..) ⟨vs.reverse,⟨n,?_⟩,r1.rev⟩ .none
    rw[Heap.get?_update_self _ ho (by rw[mapSeq_reverse];rfl),mapSeq_reverse]
  ·rename_i l y hm
   cases rs with|cons ry r0=>
   cases r0
   cases q:k==1&&m=="append"&&bZ l with
   |false=>rw[q] at e;cases e
   |true=>
    rw[q] at e;cases e
    simp only[Bool.and_eq_true] at q
    obtain⟨⟨q1,q2⟩,q3⟩:=q
    have:=eq_of_beq q1
    subst this
    have:=eq_of_beq q2
    subst this
    obtain⟨vs,hp,r1⟩:=S.refL hi hm
    have hl:=r1.length
    have hz:=bH q3
    refine wpAny_list_append_plain hp (fun h' hp' hs=>?_) (bq (by simp;omega))
    refine rp (mo:=.lst (l++[y])) (v:=.none) (tk:=s.toks) S hi hs ⟨vs++[_],?_,r1.append (.cons ry .nil)⟩ .none
    simpa using hp'
  ·rename_i es j d hm
   cases rs with|cons rj r0=>
   cases r0 with|cons rd r0=>
   cases r0;cases rj with|int _ u=>
   cases q:k==2&&m=="get" with
   |false=>rw[q] at e;cases e
   |true=>
    rw[q] at e;cases e
    obtain⟨q1,q2⟩:=Bool.and_eq_true_iff.mp q
    have:=eq_of_beq q1
    subst this
    have:=eq_of_beq q2
    subst this
    obtain⟨kvs,hd,r1,n⟩:=S.dciL hi hm
    refine call_meetsIn PySem.F.slot_dict_get hd.typeIs PySem.F.entry_dict_get (PySem.F.args_dict_get_3 _ _ _) (meets_dict_get_default (PySem.intKind prog w) c (k:=j) (by simp[PySem.intKind,Value.isInt]) n _) ⟨_,hd.mapOf,?_⟩
    refine aY S ?_
    obtain⟨f1,f2⟩:=qp r1 j
    cases z:es.lookup j with
    |none=>
     rw[z] at f1
     have:valueAt kvs j=none:=by simpa using f1
     rw[this];exact rd
    |some m'=>
     obtain⟨v',hv',rv'⟩:=f2 m' z
     rw[hv'];exact rv'
  ·cases e
 |_=>cases e
end
section
variable{prog:Program}{w:World}{cls:Str→Option Addr}{B G G':Heap}{μ μ':List Addr}{H H':Hp}{s s':Shared}{A:Around}{E:Value→Shared→Prop}
def bK:List Str:=["len","sum","str","tuple","list","dict","sorted","max","range","enumerate","zip"]
structure FZ(K:Frag)(C:Addr):Prop where
 cd:∃ cd,clsIn K C=some cd∧cd.hasDict=true
 ga:findIn K (.ref C) "__getattribute__"=some (some (.builtin "object.__getattribute__"))
 fields:∀ a∈cN,findIn K (.ref C) a=some none
 noga:findIn K (.ref C) "__getattr__"=some none
structure wX(K:Frag)(B:Heap)(C:Addr)(fn:Fn):Prop where
 made:makesIn K C=true
 init:∃ fI,findIn K (.ref C) "__init__"=some (some (.ref fI))∧typeIn K (.ref fI)=some (.type "function")∧pi B fI fn∧keepIn K (.ref fI)=true∧
  findCls K (.ref C) (.type "type") "__init__"=some (.val (.ref fI))
 over:plainOver K C=true
 set:findIn K (.ref C) "__setattr__"=some (some (.builtin "object.__setattr__"))
 ga:specialIn K (.ref C) "__getattribute__"=some (some (.builtin "type.__getattribute__"))
 reads:readsIn K C (.type "type")=true
 keep:keepIn K (.ref C)=true
 self:∀ me ps,fn.params=me::ps→fn.scope.names.lookup me=some .local
structure eQ(T:gI)(prog:Program)(w:World)(cls:Str→Option Addr)(B:Heap)(m mb:Str→Option Value)(K:Frag):Prop where
 X:K.In B
 ck:∀ c C,cls c=some C→FZ K C
 g:B.Ns mainGlobals m
 b:B.Ns builtinsNs mb
 fn:∀ f fn,T.fn f=some fn→∃ a,m f=some (.ref a)∧pi B a fn
 init:∀ C fn,T.init C=some fn→∃ a,m C=some (.ref a)∧cls C=some a∧wX K B a fn
 meth:∀ C mth fn,T.meth C mth=some fn→∀ a,cls C=some a→∃ f,findIn K (.ref a) mth=some (some (.ref f))∧typeIn K (.ref f)=some (.type "function")∧keepIn K (.ref f)=true∧pi B f fn
 glob:∀ x v,T.glob x=some v→∃ u,m x=some u∧bX prog w cls B [] u v
 bi:∀ f∈bK,m f=none∧mb f=some (k9 f)
 sysm:∃ a,sysModules < a∧B.get? a≠none
 nolim:B.NoLimit
structure cB(prog:Program)(w:World)(cls:Str→Option Addr)(B:Heap)(c:Cx)(env:Env)(G:Heap)(μ:List Addr)(H:Hp)(s:Shared):Prop where
 S:St prog w cls B G μ H s.heap
 V:dV prog w cls G μ s.heap env c.ρ
 se:IN c.sc env
 tk:1≤s.toks
theorem cB.next{c:Cx}{env:Env}(I:cB prog w cls B c env G μ H s)(n:Nx [] G μ s G' μ' s')(S:St prog w cls B G' μ' H' s'.heap)(tk:1≤s'.toks):cB prog w cls B c env G' μ' H' s':=
 ⟨S,I.V.next n,I.se,tk⟩
theorem bf.lift{P:List Addr}{v:MV}{r:Value}{s'':Shared}(n:Nx [] G μ s G' μ' s')(h:bf prog w cls B P G' μ' s' H v r s'')(hP:∀ a∈P,a∈P∨s.heap.get? a=none:=by exact fun _ h=>.inl h):bf prog w cls B P G μ s H v r s'':=by
 obtain⟨G'',μ'',x,S,q⟩:=h
 exact⟨G'',μ'',(n.weaken (P':=P) fun _ h=>by cases h).trans x,S,q⟩
theorem be{t:Sem Value}{v:MV}{Q:Value→Shared→Prop}(h:wpAny (model prog w) A t (bf prog w cls B [] G μ s H' v) E s)(tk:1≤s.toks)
  (k:∀ r s1 G1 μ1,Nx [] G μ s G1 μ1 s1→St prog w cls B G1 μ1 H' s1.heap→bX prog w cls G1 μ1 r v→1≤s1.toks→Q r s1):wpAny (model prog w) A t Q E s:=
 wpAny_with_toks tk (wpAny_mono h (fun r s1 x ht=>let ⟨G1,μ1,n,S,q⟩:=x;k r s1 G1 μ1 n S q ht) fun _ _ x _=>x)
theorem CN{c:Cx}{x:Str}(h:ez c x=true):c.sc.names.lookup x=some .globalImplicit:=by
 unfold ez at h
 split at h
 ·assumption
 ·cases h
theorem eH{c:Cx}{x:Str}{env:Env}(h:ez c x=true)(se:IN c.sc env):env.kindOf x=some .globalImplicit:=by
 rcases se x _ (CN h) with h|h
 ·exact h
 ·exact absurd h.1 (by decide)
theorem cV{x:Str}(h:ci x=true):(x==("__debug__":Str))=false:=by
 unfold ci at h
 simpa using (Bool.and_eq_true_iff.mp h).1
theorem nU{x:Str}(h:ci x=true):(x==("__classdict__":Str))=false:=by
 unfold ci at h
 simpa using (Bool.and_eq_true_iff.mp h).2
variable{T:gI}{m mb:Str→Option Value}{K:Frag}
theorem St.ns{h:Heap}{a:Addr}{f:Str→Option Value}(S:St prog w cls B G μ H h)(x:B.Ns a f):h.Ns a f:=by
 obtain⟨o,es,ep,ho,r⟩:=x
 exact⟨o,es,ep,S.keep _ _ (S.base _ _ ho),r⟩
theorem ml{c:Cx}{env:Env}{x:Str}{p:Pos}{v:MV}{Q:Value→Shared→Prop}(F:eQ T prog w cls B m mb K)(I:cB prog w cls B c env G μ H s)(hn:ci x=true)(e:name T c x=some v)
  (h:∀ r,bX prog w cls G μ r v→Q r s):wpAny (model prog w) A (eval (.Name x p) env) Q E s:=by
 unfold name at e
 cases hg:ez c x with
 |true=>
  rw[hg] at e
  obtain⟨u,hu,ru⟩:=F.glob x v e
  exact Name_function_global I.V.kind (eH hg I.se) (loadGlobal_global (by rw[I.V.glob];exact I.S.ns F.g) hu (h u (ru.mono I.S.base ⟨μ,rfl⟩))) (cV hn)
 |false=>
  rw[hg] at e
  dsimp only[cond_false] at e
  unfold M1 at e
  cases hh:As (c.sc.names.lookup x) with
  |false=>rw[hh] at e;cases e
  |true=>
   rw[hh] at e
   dsimp only[cond_true] at e
   refine wpAny_Name ?_ (cV hn)
   unfold As at hh
   split at hh
   ·rename_i hk
    have hk:env.kindOf x=some .local:=(I.se x _ hk).resolve_right fun z=>absurd z.1 (by decide)
    obtain⟨mm,hns,q⟩:=I.V.ns
    obtain⟨u,hu,ru⟩:=q x v e hk
    exact wpAny_loadName_local I.V.kind hk hns hu (h u ru)
   ·rename_i hk
    have hk:env.kindOf x=some .cell:=(I.se x _ hk).resolve_right fun z=>absurd z.1 (by decide)
    obtain⟨a,u,hc,hv,ru⟩:=I.V.cell x v e (.inl hk)
    exact wpAny_loadName_cell I.V.kind hk hc hv (h u ru)
   ·rename_i hk
    rcases I.se x _ hk with hk|⟨_,hk⟩
    ·obtain⟨a,u,hc,hv,ru⟩:=I.V.cell x v e (.inr hk)
     exact wpAny_loadName_free I.V.kind hk hc hv (h u ru) (nU hn)
    ·obtain⟨a,u,hc,hv,ru⟩:=I.V.cell x v e (.inl hk)
     exact wpAny_loadName_cell I.V.kind hk hc hv (h u ru)
   ·cases hh
theorem gh{ρ:Ev}{x y:Str}{v:MV}(h:ρ.any (fun p=>p.1==x)=true):((lU ρ x v).lookup y).join=if y=x then some v else (ρ.lookup y).join:=by
 unfold lU
 induction ρ with
 |nil=>cases h
 |cons p r ih=>
  rw[List.map_cons]
  by_cases hp:p.1=x
  ·have hb:(p.1==x)=true:=by simp[hp]
   rw[hb,cond_true,List.lookup_cons]
   by_cases hy:y=x
   ·have:(y==p.1)=true:=by simp[hy,hp]
    rw[if_pos hy,this];rfl
   ·have:(y==p.1)=false:=by simp[hp,hy]
    rw[if_neg hy,this]
    dsimp only
    rw[List.lookup_cons,this]
    dsimp only
    by_cases ha:r.any (fun p=>p.1==x)=true
    ·rw[ih ha,if_neg hy]
    ·congr 1
     have:r.map (fun p=>bif p.1==x then (p.1,some v) else p)=r:=by
      rw[List.map_congr_left (g:=id)]
      ·simp
      ·intro q hq
       have:(q.1==x)=false:=by
        cases z:q.1==x with
        |false=>rfl
        |true=>exact absurd (List.any_eq_true.mpr ⟨q,hq,z⟩) ha
       rw[this];rfl
     rw[this]
  ·have hb:(p.1==x)=false:=by simp[hp]
   rw[hb,cond_false,List.lookup_cons,List.lookup_cons]
   rw[List.any_cons,hb,Bool.false_or] at h
   by_cases hy:y=p.1
   ·have h1:(y==p.1)=true:=by simp[hy]
    rw[h1]
    have:y≠x:=by rw[hy];exact hp
    rw[if_neg this]
   ·have h1:(y==p.1)=false:=by simp[hy]
    rw[h1]
    exact ih h
def own(sc:Scope)(env:Env):List Addr:=env.locals::(env.cells.filter fun p=>sc.names.lookup p.1==some .cell).map (·.2)
theorem fG{c:Cx}{env:Env}{x:Str}{v:MV}{u:Value}{ρ':Ev}(I:cB prog w cls B c env G μ H s)(e:store c.sc x v c.ρ=some ρ')(ru:bX prog w cls G μ u v):
  wpAny (model prog w) A (storeName env x u) (fun _ s'=>Nx (own c.sc env) G μ s G μ s'∧cB prog w cls B ⟨c.sc,ρ'⟩ env G μ H s') E s:=by
 refine wpAny_with_toks I.tk ?_
 have S:=I.S
 have V:=I.V
 have fin:∀ {d:Addr} {h':Heap} {tk:Nat},d∈own c.sc env→(d∉μ)→G.get? d=none→h'.get? d≠none→Heap.SameBut d s.heap h'→Nx (own c.sc env) G μ s G μ { s with heap:=h',toks:=tk }∧St prog w cls B G μ H h':=by
  intro d h' tk hd h1 h2 h3 hs
  refine⟨⟨Le.refl _,⟨[],by simp⟩,fun b o e _ hb=>(hs.2 b fun z=>hb (z▸hd)).trans e,⟨_,_,rfl⟩,fun _ h=>.inl h,fun _ h=>.inl h,?_⟩,S.other (fun b o e=>(hs.2 b fun z=>?_).trans (S.keep b o e)) fun a ha=>hs.2 a fun z=>h1 (z▸ha)⟩
  ·exact ej hs h3
  ·rw[z,h2] at e;cases e
 unfold store at e
 split at e
 ·rename_i hk
  have hk:env.kindOf x=some .local:=(I.se x _ hk).resolve_right fun z=>absurd z.1 (by decide)
  cases ha:c.ρ.any (fun p=>p.1==x) with
  |false=>rw[ha] at e;cases e
  |true=>
   rw[ha] at e;cases e
   obtain⟨mm,hns,q⟩:=V.ns
   refine wpAny_storeName_local hk hns (fun h' hn' hs' ht=>?_) (by rw[V.kind];rfl)
   have hlive:h'.get? env.locals≠none:=by obtain⟨o,_,_,ho,_⟩:=hn';rw[ho];simp
   obtain⟨n,S'⟩:=fin (tk:=s.toks+1) (.head _) V.privL.1 V.privL.2 hlive hs'
   refine⟨n,S',⟨V.kind,V.glob,V.bi,⟨_,hn',fun y z h1 h2=>?_⟩,fun y z h1 h2=>?_,fun y h1=>?_,V.privL,fun p hp=>?_,V.inj⟩,I.se,ht⟩
   ·rw[gh ha] at h1
    by_cases hy:y=x
    ·rw[if_pos hy] at h1;cases h1
     exact⟨u,if_pos hy,ru⟩
    ·rw[if_neg hy] at h1
     obtain⟨u',h3,h4⟩:=q y z h1 h2
     exact⟨u',(if_neg hy).trans h3,h4⟩
   ·rw[gh ha] at h1
    by_cases hy:y=x
    ·subst hy;rw[hk] at h2;rcases h2 with h2|h2<;>cases h2
    ·rw[if_neg hy] at h1
     obtain⟨a,u',h3,⟨o,ho,hd⟩,h5⟩:=V.cell y z h1 h2
     exact⟨a,u',h3,⟨o,(hs'.2 a (V.privC _ (mem_of_lookup h3)).2.2.1).trans ho,hd⟩,h5⟩
   ·obtain⟨a,u',h3,⟨o,ho,hd⟩⟩:=V.isCell y h1
    exact⟨a,u',h3,⟨o,(hs'.2 a (V.privC _ (mem_of_lookup h3)).2.2.1).trans ho,hd⟩⟩
   ·obtain⟨h1,h2,h3,h4⟩:=V.privC p hp
    exact⟨h1,h2,h3,n.alive _ h4⟩
 ·rename_i hk0
  have hk:env.kindOf x=some .cell:=(I.se x _ hk0).resolve_right fun z=>absurd z.1 (by decide)
  cases ha:c.ρ.any (fun p=>p.1==x) with
  |false=>rw[ha] at e;cases e
  |true=>
   rw[ha] at e;cases e
   obtain⟨d,u0,hc,hcell⟩:=V.isCell x hk
   have hm:=mem_of_lookup hc
   obtain⟨p1,p2,p3,p4⟩:=V.privC _ hm
   refine wpAny_storeName_cell V.kind hk hc hcell fun h' hn' hs' ht=>?_
   have hlive:h'.get? d≠none:=by obtain⟨o,ho,_⟩:=hn';rw[ho];simp
   have hown:d∈own c.sc env:=by
    refine List.mem_cons_of_mem _ (List.mem_map.mpr ⟨(x,d),List.mem_filter.mpr ⟨hm,?_⟩,rfl⟩)
    rw[hk0];rfl
   obtain⟨n,S'⟩:=fin (tk:=s.toks) hown p1 p2 hlive hs'
   obtain⟨mm,⟨oL,es,ep,hoL,rL⟩,q⟩:=V.ns
   refine⟨n,S',⟨V.kind,V.glob,V.bi,⟨mm,⟨oL,es,ep,(hs'.2 _ (fun z=>p3 z.symm)).trans hoL,rL⟩,fun y z h1 h2=>?_⟩,fun y z h1 h2=>?_,fun y h1=>?_,V.privL,fun p hp=>?_,V.inj⟩,I.se,ht⟩
   ·rw[gh ha] at h1
    by_cases hy:y=x
    ·subst hy;rw[hk] at h2;cases h2
    ·rw[if_neg hy] at h1
     exact q y z h1 h2
   ·rw[gh ha] at h1
    by_cases hy:y=x
    ·rw[if_pos hy] at h1;cases h1
     subst hy
     exact⟨d,u,hc,hn',ru⟩
    ·rw[if_neg hy] at h1
     obtain⟨a,u',h3,⟨o,ho,hd⟩,h5⟩:=V.cell y z h1 h2
     refine⟨a,u',h3,⟨o,(hs'.2 a fun z=>hy ?_).trans ho,hd⟩,h5⟩
     exact V.inj _ (mem_of_lookup h3) _ hm z
   ·by_cases hy:y=x
    ·subst hy;exact⟨d,some u,hc,hn'⟩
    ·obtain⟨a,u',h3,⟨o,ho,hd⟩⟩:=V.isCell y h1
     refine⟨a,u',h3,⟨o,(hs'.2 a fun z=>hy ?_).trans ho,hd⟩⟩
     exact V.inj _ (mem_of_lookup h3) _ hm z
   ·obtain⟨h1,h2,h3,h4⟩:=V.privC p hp
    exact⟨h1,h2,h3,n.alive _ h4⟩
 ·cases e
end
def bA(A:Around)(n:Nat):Prop:=A.handled=none∧A.depth+4 * n < 1000∧A.units+10 * n+80 < 9900
theorem bA.less{A:Around}{n m:Nat}(h:bA A n)(k:m≤n):bA A m:=⟨h.1,by have:=h.2.1;omega,by have:=h.2.2;omega⟩
theorem bA.u64{A:Around}{n:Nat}(h:bA A n):A.units+64 < cLine:=by have:=h.2.2;unfold cLine;omega
section
variable{prog:Program}{w:World}{cls:Str→Option Addr}{B G G':Heap}{μ μ':List Addr}{H H':Hp}{s s':Shared}{A:Around}{E:Value→Shared→Prop}
variable{T:gI}{m mb:Str→Option Value}
def xO(prog:Program)(w:World)(cls:Str→Option Addr)(B:Heap)(P:List Addr)(G:Heap)(μ:List Addr)(s:Shared)(H':Hp)(vs:List MV):List Value→Shared→Prop:=
 fun rs s'=>∃ G' μ',Nx P G μ s G' μ' s'∧St prog w cls B G' μ' H' s'.heap∧aW prog w cls G' μ' rs vs
def k8(prog:Program)(w:World)(cls:Str→Option Addr)(B:Heap)(P:List Addr)(G:Heap)(μ:List Addr)(s:Shared)(H':Hp)(b:Bool):Bool→Shared→Prop:=
 fun r s'=>∃ G' μ',Nx P G μ s G' μ' s'∧St prog w cls B G' μ' H' s'.heap∧r=b
def mi(prog:Program)(w:World)(cls:Str→Option Addr)(B:Heap)(sc:Scope)(env:Env)(G:Heap)(μ:List Addr)(s:Shared)(k:Ev→M MV)(v:MV)(H':Hp):Flow→Shared→Prop:=
 fun fl s'=>(∃ r,fl=.ret r∧bf prog w cls B (own sc env) G μ s H' v r s')∨
  (fl=.next∧∃ ρ' H1 G' μ',k ρ' H1=some (v,H')∧Nx (own sc env) G μ s G' μ' s'∧cB prog w cls B ⟨sc,ρ'⟩ env G' μ' H1 s')
theorem xO.lift{P:List Addr}{v:List MV}{r:List Value}{s'':Shared}(n:Nx [] G μ s G' μ' s')(h:xO prog w cls B P G' μ' s' H v r s''):xO prog w cls B P G μ s H v r s'':=by
 obtain⟨G'',μ'',x,S,q⟩:=h
 exact⟨G'',μ'',(n.weaken (P':=P) fun _ h=>by cases h).trans x,S,q⟩
theorem k8.lift{P:List Addr}{v:Bool}{r:Bool}{s'':Shared}(n:Nx [] G μ s G' μ' s')(h:k8 prog w cls B P G' μ' s' H v r s''):k8 prog w cls B P G μ s H v r s'':=by
 obtain⟨G'',μ'',x,S,q⟩:=h
 exact⟨G'',μ'',(n.weaken (P':=P) fun _ h=>by cases h).trans x,S,q⟩
theorem jA{t:Sem (List Value)}{v:List MV}{Q:List Value→Shared→Prop}(h:wpAny (model prog w) A t (xO prog w cls B [] G μ s H' v) E s)(tk:1≤s.toks)
  (k:∀ r s1 G1 μ1,Nx [] G μ s G1 μ1 s1→St prog w cls B G1 μ1 H' s1.heap→aW prog w cls G1 μ1 r v→1≤s1.toks→Q r s1):wpAny (model prog w) A t Q E s:=
 wpAny_with_toks tk (wpAny_mono h (fun r s1 x ht=>let ⟨G1,μ1,n,S,q⟩:=x;k r s1 G1 μ1 n S q ht) fun _ _ x _=>x)
theorem r8{t:Sem Bool}{v:Bool}{Q:Bool→Shared→Prop}(h:wpAny (model prog w) A t (k8 prog w cls B [] G μ s H' v) E s)(tk:1≤s.toks)
  (k:∀ s1 G1 μ1,Nx [] G μ s G1 μ1 s1→St prog w cls B G1 μ1 H' s1.heap→1≤s1.toks→Q v s1):wpAny (model prog w) A t Q E s:=
 wpAny_with_toks tk (wpAny_mono h (fun r s1 x ht=>by obtain⟨G1,μ1,n,S,q⟩:=x;subst q;exact k s1 G1 μ1 n S ht) fun _ _ x _=>x)
structure gT(T:gI)(prog:Program)(w:World)(cls:Str→Option Addr)(B:Heap)(n:Nat):Prop where
 ev:∀ {c:Cx} {e:PySem.Expr} {v:MV} {env:Env} {G:Heap} {μ:List Addr} {H H':Hp} {s:Shared} {A:Around} {E:Value→Shared→Prop},
  (aQ T n).ev c e H=some (v,H')→bA A n→cB prog w cls B c env G μ H s→wpAny (model prog w) A (eval e env) (bf prog w cls B [] G μ s H' v) E s
 tst:∀ {c:Cx} {e:PySem.Expr} {b:Bool} {env:Env} {G:Heap} {μ:List Addr} {H H':Hp} {s:Shared} {A:Around} {E:Value→Shared→Prop},
  (aQ T n).tst c e H=some (b,H')→bA A n→cB prog w cls B c env G μ H s→wpAny (model prog w) A (isTrue e env (eval e env)) (k8 prog w cls B [] G μ s H' b) E s
 ex:∀ {sc:Scope} {ss:List Stmt} {ρ:Ev} {k:Ev→M MV} {v:MV} {env:Env} {G:Heap} {μ:List Addr} {H H':Hp} {s:Shared} {A:Around} {E:Value→Shared→Prop},
  (aQ T n).ex sc ss ρ k H=some (v,H')→bA A n→cB prog w cls B ⟨sc,ρ⟩ env G μ H s→wpAny (model prog w) A (execs ss env) (mi prog w cls B sc env G μ s k v H') E s
 call:∀ {fn:Fn} {a:Addr} {vs:List MV} {as:List Value} {v:MV} {G:Heap} {μ:List Addr} {H H':Hp} {s:Shared} {A:Around} {E:Value→Shared→Prop},
  (aQ T n).call fn vs H=some (v,H')→pi B a fn→bA A n→St prog w cls B G μ H s.heap→1≤s.toks→aW prog w cls G μ as vs→wpAny (model prog w) A (PySem.call (.ref a) as) (bf prog w cls B [] G μ s H' v) E s
theorem ag{α β:Type}{x:M α}{f:α→M β}{r:β×Hp}(e:bnd x f H=some r):∃ a H1,x H=some (a,H1)∧f a H1=some r:=by
 unfold bnd at e
 cases q:x H with
 |none=>rw[q] at e;cases e
 |some p=>rw[q] at e;exact⟨p.1,p.2,rfl,e⟩
theorem bB{α:Type}{o:Option α}{a:α}(e:opt o H=some (a,H')):o=some a∧H'=H:=by
 unfold opt at e
 cases o with
 |none=>cases e
 |some b=>cases e;exact⟨rfl,rfl⟩
theorem cx{α:Type}{a b:α}(e:ret a H=some (b,H')):b=a∧H'=H:=by cases e;exact⟨rfl,rfl⟩
theorem rh{n:Nat}{c:Cx}{e:PySem.Expr}{p:Pos}:(aQ T n).ev c (.Starred e p) H=none:=by
 cases n with
 |zero=>rfl
 |succ n=>rfl
variable{n:Nat}{c:Cx}{env:Env}
theorem gB(ih:gT T prog w cls B n)(hr:bA A n){p:Pos}:∀ {es:List PySem.Expr} {vs:List MV} {G:Heap} {μ:List Addr} {H H':Hp} {s:Shared},sI (aQ T n) c es H=some (vs,H')→cB prog w cls B c env G μ H s→
  wpAny (model prog w) A (spliced (backTo p (starEach es env))) (xO prog w cls B [] G μ s H' vs) E s:=by
 intro es
 induction es with
 |nil=>
  intro vs G μ H H' s e I
  cases e
  exact spliced_nil ⟨G,μ,Nx.refl _ _ _ _,I.S,.nil⟩
 |cons x es ihs=>
  intro vs G μ H H' s e I
  obtain⟨v,H1,e1,e⟩:=ag e
  obtain⟨vs',H2,e2,e⟩:=ag e
  obtain⟨rfl,rfl⟩:=cx e
  have hs:starEach (x::es) env=(false,eval x env)::starEach es env:=by
   cases x<;>first|rfl|(rw[rh] at e1;cases e1)
  rw[hs]
  show wpAny _ _ (spliced ((false,eval x env)::backTo p (starEach es env))) _ _ _
  refine spliced_cons (be (ih.ev e1 hr I) I.tk fun r s1 G1 μ1 n1 S1 r1 t1=>?_)
  have I1:=I.next n1 S1 t1
  refine jA (ihs e2 I1) t1 fun rs s2 G2 μ2 n2 S2 r2 t2=>?_
  exact⟨G2,μ2,n1.trans n2,S2,.cons (r1.mono n2.sub n2.pre) r2⟩
theorem dv(p:Pos):∀ {es:List PySem.Expr} {vs:List MV} {H H':Hp},sI (aQ T n) c es H=some (vs,H')→(backTo p (starEach es env)).any (·.1)=false:=by
 intro es
 induction es with
 |nil=>intros;rfl
 |cons x es ihs=>
  intro vs H H' e
  obtain⟨v,H1,e1,e⟩:=ag e
  obtain⟨vs',H2,e2,e⟩:=ag e
  have hs:starEach (x::es) env=(false,eval x env)::starEach es env:=by
   cases x<;>first|rfl|(rw[rh] at e1;cases e1)
  rw[hs]
  exact ihs e2
theorem Fe{k:Const}{v:MV}{j:Nat}{p:Pos}(e:wE k=some v)(S:St prog w cls B G μ H s.heap):wpAny (model prog w) A (eval (.Constant k j p) env) (bf prog w cls B [] G μ s H v) E s:=by
 unfold wE at e
 split at e
 ·cases e;exact wpAny_pure (aN S .none)
 ·cases e;exact wpAny_pure (aN S (.bool _))
 ·cases e;exact wpAny_Constant_int (aY S (.int _ _))
 ·cases e;exact Constant_str (aY S (.str _ _))
 ·cases e
theorem GJ(ih:gT T prog w cls B n)(hr:bA A n){op:BoolOp}{p:Pos}:∀ {es:List PySem.Expr} {v:MV} {G:Heap} {μ:List Addr} {H H':Hp} {s:Shared},tt (aQ T n) c op es H=some (v,H')→cB prog w cls B c env G μ H s→
  wpAny (model prog w) A (boolOp p op (evalEach es env)) (bf prog w cls B [] G μ s H' v) E s:=by
 intro es
 induction es with
 |nil=>intro v G μ H H' s e I;cases e
 |cons x es ihs=>
  intro v G μ H H' s e I
  cases es with
  |nil=>exact ih.ev e hr I
  |cons y es=>
   obtain⟨v1,H1,e1,e⟩:=ag e
   obtain⟨b,H2,e2,e⟩:=ag e
   show wpAny _ _ (do
    let v←eval x env
    standAt p
    let t←holding [v] (truthy v)
    match op,t with
    |.And,false|.Or,true=>pure v
    |_,_=>boolOp p op (evalEach (y::es) env)) _ _ _
   refine wpAny_bind (be (ih.ev e1 hr I) I.tk fun r s1 G1 μ1 n1 S1 r1 t1=>?_)
   unfold cI at e2
   cases r1<;>first|(cases e2;done)|skip
   rename_i b'
   cases e2
   refine wpAny_bind (wpAny_standAt (wpAny_bind (wpAny_holding (wpAny_truthy_bool ?_))))
   have I1:=I.next n1 S1 t1
   cases op<;>cases b
   ·cases e
    exact wpAny_pure ⟨G1,μ1,n1,S1,.bool _⟩
   ·exact wpAny_mono (ihs e I1) (fun _ _ h=>h.lift n1) fun _ _ h=>h
   ·exact wpAny_mono (ihs e I1) (fun _ _ h=>h.lift n1) fun _ _ h=>h
   ·cases e
    exact wpAny_pure ⟨G1,μ1,n1,S1,.bool _⟩
theorem HG(ih:gT T prog w cls B n)(hr:bA A n){op:BoolOp}:∀ {es:List PySem.Expr} {b:Bool} {G:Heap} {μ:List Addr} {H H':Hp} {s:Shared},t8 (aQ T n) c op es H=some (b,H')→cB prog w cls B c env G μ H s→
  wpAny (model prog w) A (allTrue op es env) (k8 prog w cls B [] G μ s H' b) E s:=by
 intro es
 induction es with
 |nil=>
  intro v G μ H H' s e I
  rw[arm_allTrue_nil]
  cases op<;>cases e<;>exact wpAny_pure ⟨G,μ,Nx.refl _ _ _ _,I.S,rfl⟩
 |cons x es ihs=>
  intro v G μ H H' s e I
  obtain⟨b,H1,e1,e⟩:=ag e
  rw[arm_allTrue_cons]
  refine wpAny_bind (r8 (ih.tst e1 hr I) I.tk fun s1 G1 μ1 n1 S1 t1=>?_)
  have I1:=I.next n1 S1 t1
  cases op<;>cases b
  ·cases e
   exact wpAny_pure ⟨G1,μ1,n1,S1,rfl⟩
  ·exact wpAny_mono (ihs e I1) (fun _ _ h=>h.lift n1) fun _ _ h=>h
  ·exact wpAny_mono (ihs e I1) (fun _ _ h=>h.lift n1) fun _ _ h=>h
  ·cases e
   exact wpAny_pure ⟨G1,μ1,n1,S1,rfl⟩
theorem kJ{op:CmpOp}{a b:MV}{z:Bool}(e:dA op a b H=some (z,H')):xC H op a b=some z∧H'=H:=by
 unfold dA at e
 cases q:xC H op a b with
 |none=>rw[q] at e;cases e
 |some x=>rw[q] at e;cases e;exact⟨rfl,rfl⟩
theorem BA(ih:gT T prog w cls B n)(hr:bA A n){l:PySem.Expr}{ops:List CmpOp}{es:List PySem.Expr}{b:Bool}{p:Pos}(e:xW (aQ T n) c l ops es H=some (b,H'))(I:cB prog w cls B c env G μ H s):
  wpAny (model prog w) A (do compareChain p (←eval l env) ops (markedEach ops es (evalEach es env))) (bf prog w cls B [] G μ s H' (.bool b)) E s∧
  wpAny (model prog w) A (do testChain p (←eval l env) ops (markedEach ops es (evalEach es env))) (k8 prog w cls B [] G μ s H' b) E s:=by
 unfold xW at e
 split at e
 ·rename_i op x
  cases hm:behindInMarks op x with
  |true=>rw[hm] at e;cases e
  |false=>
   rw[hm] at e
   obtain⟨a,H1,e1,e⟩:=ag e
   obtain⟨d,H2,e2,e⟩:=ag e
   obtain⟨e3,rfl⟩:=kJ e
   have hmk:markedEach [op] [x] (evalEach [x] env)=[eval x env]:=by
    show[markedBehindIn op x (eval x env)]=_
    rw[markedBehindIn_of_false hm]
   rw[hmk]
   constructor
   ·refine wpAny_bind (be (ih.ev e1 hr I) I.tk fun r s1 G1 μ1 n1 S1 r1 t1=>?_)
    have I1:=I.next n1 S1 t1
    show wpAny _ _ (do
     let rv←holding [r] (eval x env)
     standAt p
     operate [r,rv] (compareOp op r rv)) _ _ _
    refine wpAny_bind (wpAny_holding (be (ih.ev e2 hr I1) t1 fun r' s2 G2 μ2 n2 S2 r2 t2=>?_))
    refine wpAny_bind (wpAny_standAt (wpAny_operating ?_))
    exact wpAny_mono (gC e3 S2 (r1.mono n2.sub n2.pre) r2 hr.u64) (fun _ _ h=>h.lift (n1.trans n2)) fun _ _ h=>h
   ·refine wpAny_bind (be (ih.ev e1 hr I) I.tk fun r s1 G1 μ1 n1 S1 r1 t1=>?_)
    have I1:=I.next n1 S1 t1
    show wpAny _ _ (do
     let rv←holding [r] (eval x env)
     standAt p
     let c←operate [r,rv] (compareOp op r rv)
     holding [c] (truthy c)) _ _ _
    refine wpAny_bind (wpAny_holding (be (ih.ev e2 hr I1) t1 fun r' s2 G2 μ2 n2 S2 r2 t2=>?_))
    refine wpAny_bind (wpAny_standAt (wpAny_bind (wpAny_operating (be (gC e3 S2 (r1.mono n2.sub n2.pre) r2 hr.u64) t2 fun r' s3 G3 μ3 n3 S3 r3 t3=>?_))))
    cases r3
    exact wpAny_holding (wpAny_truthy_bool ⟨G3,μ3,(n1.trans n2).trans n3,S3,rfl⟩)
 ·rename_i op op' x x'
  cases hm:behindInMarks op' x' with
  |true=>rw[hm] at e;cases e
  |false=>
   rw[hm] at e
   obtain⟨a,H1,e1,e⟩:=ag e
   obtain⟨d,H2,e2,e⟩:=ag e
   obtain⟨z,H3,e3,e⟩:=ag e
   obtain⟨e3,rfl⟩:=kJ e3
   have hmk:markedEach [op,op'] [x,x'] (evalEach [x,x'] env)=[eval x env,eval x' env]:=by
    show[eval x env,markedBehindIn op' x' (eval x' env)]=_
    rw[markedBehindIn_of_false hm]
   rw[hmk]
   constructor
   ·refine wpAny_bind (be (ih.ev e1 hr I) I.tk fun r s1 G1 μ1 n1 S1 r1 t1=>?_)
    have I1:=I.next n1 S1 t1
    show wpAny _ _ (do
     let rv←holding [r] (eval x env)
     standAt p
     let c←holding [r,rv] (compareOp op r rv)
     release [r,rv] [c]
     if←holding [c,rv] (truthy c) then compareChain p rv [op'] [eval x' env] else pure c) _ _ _
    refine wpAny_bind (wpAny_holding (be (ih.ev e2 hr I1) t1 fun r' s2 G2 μ2 n2 S2 r2 t2=>?_))
    refine wpAny_bind (wpAny_standAt (wpAny_bind (wpAny_holding (be (gC e3 S2 (r1.mono n2.sub n2.pre) r2 hr.u64) t2 fun r'' s3 G3 μ3 n3 S3 r3 t3=>?_))))
    cases r3
    refine wpAny_bind (wpAny_release (wpAny_bind (wpAny_holding (wpAny_truthy_bool ?_))))
    have n13:=(n1.trans n2).trans n3
    cases z with
    |false=>cases e;exact wpAny_pure ⟨G3,μ3,n13,S3,.bool _⟩
    |true=>
     obtain⟨d',H4,e4,e⟩:=ag (show bnd ((aQ T n).ev c x') (fun d'=>dA op' d d') _=some (b,H') from e)
     obtain⟨e5,rfl⟩:=kJ e
     show wpAny _ _ (do
      let rv←holding [r'] (eval x' env)
      standAt p
      operate [r',rv] (compareOp op' r' rv)) _ _ _
     refine wpAny_bind (wpAny_holding (be (ih.ev e4 hr (I.next n13 S3 t3)) t3 fun q s4 G4 μ4 n4 S4 r4 t4=>?_))
     refine wpAny_bind (wpAny_standAt (wpAny_operating ?_))
     exact wpAny_mono (gC e5 S4 ((r2.mono n3.sub n3.pre).mono n4.sub n4.pre) r4 hr.u64) (fun _ _ h=>h.lift (n13.trans n4)) fun _ _ h=>h
   ·refine wpAny_bind (be (ih.ev e1 hr I) I.tk fun r s1 G1 μ1 n1 S1 r1 t1=>?_)
    have I1:=I.next n1 S1 t1
    show wpAny _ _ (do
     let rv←holding [r] (eval x env)
     standAt p
     let c←holding [r,rv] (compareOp op r rv)
     release [r,rv] [c]
     if←holding [c,rv] (truthy c) then testChain p rv [op'] [eval x' env] else pure false) _ _ _
    refine wpAny_bind (wpAny_holding (be (ih.ev e2 hr I1) t1 fun r' s2 G2 μ2 n2 S2 r2 t2=>?_))
    refine wpAny_bind (wpAny_standAt (wpAny_bind (wpAny_holding (be (gC e3 S2 (r1.mono n2.sub n2.pre) r2 hr.u64) t2 fun r'' s3 G3 μ3 n3 S3 r3 t3=>?_))))
    cases r3
    refine wpAny_bind (wpAny_release (wpAny_bind (wpAny_holding (wpAny_truthy_bool ?_))))
    have n13:=(n1.trans n2).trans n3
    cases z with
    |false=>cases e;exact wpAny_pure ⟨G3,μ3,n13,S3,rfl⟩
    |true=>
     obtain⟨d',H4,e4,e⟩:=ag (show bnd ((aQ T n).ev c x') (fun d'=>dA op' d d') _=some (b,H') from e)
     obtain⟨e5,rfl⟩:=kJ e
     show wpAny _ _ (do
      let rv←holding [r'] (eval x' env)
      standAt p
      let c←operate [r',rv] (compareOp op' r' rv)
      holding [c] (truthy c)) _ _ _
     refine wpAny_bind (wpAny_holding (be (ih.ev e4 hr (I.next n13 S3 t3)) t3 fun q s4 G4 μ4 n4 S4 r4 t4=>?_))
     refine wpAny_bind (wpAny_standAt (wpAny_bind (wpAny_operating (be (gC e5 S4 ((r2.mono n3.sub n3.pre).mono n4.sub n4.pre) r4 hr.u64) t4 fun q' s5 G5 μ5 n5 S5 r5 t5=>?_))))
     cases r5
     exact wpAny_holding (wpAny_truthy_bool ⟨G5,μ5,(n13.trans n4).trans n5,S5,rfl⟩)
 ·cases e
end
section
variable{prog:Program}{w:World}{cls:Str→Option Addr}{B G G':Heap}{μ μ':List Addr}{H H':Hp}{s s':Shared}{A:Around}{E:Value→Shared→Prop}
variable{T:gI}{m mb:Str→Option Value}{K:Frag}{n:Nat}{c:Cx}{env:Env}
theorem uV{o:PySem.Expr}{a:Str}{t:Sem Value}{Q:Value→Shared→Prop}(hp:dy o=true)(h:wpAny (model prog w) A t Q E s):
  wpAny (model prog w) A (attributeBase o a env t) Q E s:=by
 unfold attributeBase
 split
 ·rename_i id p pos
  have:(id==("super":Str))=false:=by simpa [dy] using hp
  rw[if_pos (by simp only[bne,this];rfl)]
  exact h
 ·exact h
theorem zK{es:List DictEntry}{kvs:List (Str×Value)}(h:Pairs (PySem.strKind prog w) es kvs){k:Str}{v:Value}(hv:valueAt kvs k=some v):
  ∃ e,es.find? (·.key.isStr k)=some e∧e.val=v:=by
 induction h with
 |nil=>cases hv
 |@cons e kv es kvs h1 h2 h3 ih=>
  obtain⟨t,ht⟩:=Value.isStrOf_shape h1
  unfold valueAt at hv
  rw[List.find?_cons] at hv ⊢
  rw[ht]
  by_cases hk:kv.1=k
  ·have:(Value.str kv.1 t).isStr k=true:=by simp[Value.isStr,hk]
   rw[this]
   simp only[decide_eq_true hk,Option.map_some] at hv
   exact⟨e,rfl,h2.trans (Option.some.inj hv)⟩
  ·have:(Value.str kv.1 t).isStr k=false:=by simp[Value.isStr,hk]
   rw[this]
   simp only[decide_eq_false hk] at hv
   exact ih hv
theorem AQ{r:Value}{v:MV}(h:bX prog w cls G μ r v):handedIn r=true:=by cases h<;>rfl
theorem JQ{x v:MV}{u:Value}{a:Str}(F:eQ T prog w cls B m mb K)(e:Cz x a=some v)(S:St prog w cls B G μ H s.heap)(ru:bX prog w cls G μ u x):
  wpAny (model prog w) A (getAttr u a true) (bf prog w cls B [] G μ s H v) E s:=by
 unfold Cz at e
 cases ru with
 |@inst b d C cn kvs fs h1 h2 h3 r=>
  dsimp only at e
  cases q:cN.contains a with
  |false=>rw[q] at e;cases e
  |true=>
   rw[q] at e
   dsimp only[cond_true] at e
   obtain⟨w',hw',rw'⟩:=(jm r a).2 v e
   obtain⟨⟨cd,hcd,hhd⟩,hga,hf⟩:=F.ck _ _ h1
   have hfa:=hf a (List.contains_iff_mem.mp q)
   obtain⟨o,es,ep,ho,hx,hd,hk,hp,hn⟩:=bY h3 S.keep
   have I:InstAt s.heap b (instObj C d) C (some o):=⟨S.keep _ _ h2,rfl,rfl,ho⟩
   refine get_value (F.X.keeps (S.base.trans S.keep)) I hga ?_ (AQ rw') (aY S rw')
   obtain⟨en,he,hev⟩:=zK hp hw'
   have hl:lookIn a o=some (some w'):=by
    unfold lookIn
    rw[hd]
    dsimp only
    rw[he]
    dsimp only
    rw[hev]
   unfold findObj
   rw[hcd,Option.bind_some,hfa,Option.bind_some]
   unfold W.ownOf
   rw[if_pos hhd]
   dsimp only
   rw[hl]
   rfl
 |_=>cases e
theorem vR(F:eQ T prog w cls B m mb K)(ih:gT T prog w cls B n)(hr:bA A n){o:PySem.Expr}{a:Str}{p:Pos}{v:MV}(hp:dy o=true)
  (e:bnd ((aQ T n).ev c o) (fun ov=>opt (Cz ov a)) H=some (v,H')) (I:cB prog w cls B c env G μ H s):
  wpAny (model prog w) A (eval (.Attribute o a p) env) (bf prog w cls B [] G μ s H' v) E s:=by
 obtain⟨ov,H1,e1,e⟩:=ag e
 obtain⟨e2,rfl⟩:=bB e
 rw[arm_eval_Attribute]
 refine wpAny_bind (uV hp (be (ih.ev e1 hr I) I.tk fun r s1 G1 μ1 n1 S1 r1 t1=>?_))
 refine wpAny_bind (wpAny_standAt (wpAny_bind (wpAny_holding (be (JQ F e2 S1 r1) t1 fun r' s2 G2 μ2 n2 S2 r2 t2=>?_))))
 exact wpAny_bind (wpAny_letTemporaryGo (wpAny_pure ⟨G2,μ2,n1.trans n2,S2,r2⟩))
theorem uS{x y:MV}{a b:Value}{v:MV}(e:getItem H x y=some v)(S:St prog w cls B G μ H s.heap)(ra:bX prog w cls G μ a x)(rb:bX prog w cls G μ b y):
  ∃ U id,s.TypeIs a U∧typeLookup (.type U) "__getitem__"=pure (some (.builtin id)):=by
 unfold getItem at e
 cases ra with
 |lst h1 r1=>exact⟨_,_,(aP h1 S.keep).isList.typeIs,slot_list_getitem.lookup⟩
 |tup h1 r1=>
  have ht:IsTup s.heap _ _:=aT h1 S.keep
  exact⟨_,_,ht.typeIs,slot_tuple_getitem.lookup⟩
 |dcs n h1 r1=>exact⟨_,_,(bY h1 S.keep).typeIs,slot_dict_getitem.lookup⟩
 |dci n h1 r1=>exact⟨_,_,(bY h1 S.keep).typeIs,slot_dict_getitem.lookup⟩
 |str x t=>exact⟨_,_,typeIs_str _ _ _,PySem.F.slot_str_getitem.lookup⟩
 |@ref d j hj=>
  cases rb with
  |int i t=>
   dsimp only at e
   split at e
   ·rename_i ms hm
    obtain⟨vs,hl,r1⟩:=S.refL hj hm
    exact⟨_,_,hl.isList.typeIs,slot_list_getitem.lookup⟩
   ·rename_i es hm
    obtain⟨kvs,hd,r1,n⟩:=S.dciL hj hm
    exact⟨_,_,hd.typeIs,slot_dict_getitem.lookup⟩
   ·cases e
  |str k t=>
   dsimp only at e
   split at e
   ·rename_i es hm
    obtain⟨kvs,hd,r1,n⟩:=S.dcsL hj hm
    exact⟨_,_,hd.typeIs,slot_dict_getitem.lookup⟩
   ·cases e
  |_=>cases e
 |_=>cases rb<;>cases e
theorem sK{x:MV}{a:Value}{i j:Option Int}{v:MV}(e:dd x i j=some v)(S:St prog w cls B G μ H s.heap)(ra:bX prog w cls G μ a x):
  ∃ U id,s.TypeIs a U∧typeLookup (.type U) "__getitem__"=pure (some (.builtin id)):=by
 unfold dd at e
 cases ra with
 |lst h1 r1=>exact⟨_,_,(aP h1 S.keep).isList.typeIs,slot_list_getitem.lookup⟩
 |raw h1 r1=>exact⟨_,_,(jv h1 S.keep).typeIs,slot_list_getitem.lookup⟩
 |tup h1 r1=>
  have ht:IsTup s.heap _ _:=aT h1 S.keep
  exact⟨_,_,ht.typeIs,slot_tuple_getitem.lookup⟩
 |str x t=>exact⟨_,_,typeIs_str _ _ _,PySem.F.slot_str_getitem.lookup⟩
 |_=>cases e
theorem Do{o i v:MV}(e:bE o i H=some (v,H')):getItem H o i=some v∧H'=H:=by
 unfold bE at e
 cases q:getItem H o i with
 |none=>rw[q] at e;cases e
 |some x=>rw[q] at e;cases e;exact⟨rfl,rfl⟩
theorem EC{n:Nat}{lo hi st:Option PySem.Expr}{p:Pos}:(aQ T n).ev c (.Slice lo hi st p) H=none:=by
 cases n with
 |zero=>rfl
 |succ n=>rfl
theorem Bj(ih:gT T prog w cls B n)(hr:bA A n){o i:PySem.Expr}{p:Pos}{v:MV}(e:bnd ((aQ T n).ev c o) (fun ov=>bnd ((aQ T n).ev c i) fun iv=>bE ov iv) H=some (v,H'))(I:cB prog w cls B c env G μ H s):
  wpAny (model prog w) A (eval (.Subscript o i p) env) (bf prog w cls B [] G μ s H' v) E s:=by
 obtain⟨ov,H1,e1,e⟩:=ag e
 obtain⟨iv,H2,e2,e⟩:=ag e
 obtain⟨e3,rfl⟩:=Do e
 refine Subscript_ (be (ih.ev e1 hr I) I.tk fun r s1 G1 μ1 n1 S1 r1 t1=>?_)
 refine be (ih.ev e2 hr (I.next n1 S1 t1)) t1 fun r' s2 G2 μ2 n2 S2 r2 t2=>?_
 have r1':=r1.mono n2.sub n2.pre
 obtain⟨U,id,hT,hl⟩:=uS (s:=s2) e3 S2 r1' r2
 refine tail_any (ops:=[r,r']) hT hl (wpAny_mono (Ay e3 S2 r1' r2) (fun _ _ h=>h.lift (n1.trans n2)) fun _ _ h=>h) ?_
 cases i<;>first|rfl|(rw[EC] at e2;cases e2)
theorem vE{P:List Addr}{o:Obj}:Nx P G μ s G μ { s with heap:=s.heap.push o }:=
 ⟨Le.refl _,⟨[],by simp⟩,fun _ _ e _ _=>Heap.get?_push_of_some _ e,⟨_,_,rfl⟩,fun _ h=>.inl h,fun _ h=>.inl h,fun a e=>by
  cases q:s.heap.get? a with
  |none=>exact absurd q e
  |some o'=>rw[Heap.get?_push_of_some _ q];simp⟩
def Kx(prog:Program)(w:World)(cls:Str→Option Addr)(B G:Heap)(μ:List Addr)(s:Shared)(H':Hp)(k:Option Int):Value→Shared→Prop:=
 fun r s'=>∃ G' μ',Nx [] G μ s G' μ' s'∧St prog w cls B G' μ' H' s'.heap∧fX r k
theorem Kt{t:Sem Value}{k:Option Int}{Q:Value→Shared→Prop}(h:wpAny (model prog w) A t (Kx prog w cls B G μ s H' k) E s)(tk:1≤s.toks)
  (k:∀ r s1 G1 μ1,Nx [] G μ s G1 μ1 s1→St prog w cls B G1 μ1 H' s1.heap→fX r k→1≤s1.toks→Q r s1):wpAny (model prog w) A t Q E s:=
 wpAny_with_toks tk (wpAny_mono h (fun r s1 x ht=>let ⟨G1,μ1,n,S,q⟩:=x;k r s1 G1 μ1 n S q ht) fun _ _ x _=>x)
theorem wH(ih:gT T prog w cls B n)(hr:bA A n){x:Option PySem.Expr}{k:Option Int}(e:gV (aQ T n) c x H=some (k,H'))(I:cB prog w cls B c env G μ H s):
  wpAny (model prog w) A (evalPart x env) (Kx prog w cls B G μ s H' k) E s:=by
 cases x with
 |none=>
  cases e
  rw[evalPart_none]
  exact wpAny_pure ⟨G,μ,Nx.refl _ _ _ _,I.S,.inl ⟨rfl,rfl⟩⟩
 |some x=>
  obtain⟨v,H1,e1,e⟩:=ag (show bnd ((aQ T n).ev c x) BL H=some (k,H') from e)
  rw[evalPart_some]
  refine be (ih.ev e1 hr I) I.tk fun r s1 G1 μ1 n1 S1 r1 t1=>?_
  unfold BL at e
  cases r1<;>first|(cases e;done)|skip
  rename_i i t
  cases e
  exact⟨G1,μ1,n1,S1,.inr ⟨_,_,rfl,rfl⟩⟩
theorem EK(ih:gT T prog w cls B n)(hr:bA A n){o:PySem.Expr}{lo hi:Option PySem.Expr}{p p':Pos}{v:MV}
  (e:bnd ((aQ T n).ev c o) (fun ov=>bnd (gV (aQ T n) c lo) fun a=>bnd (gV (aQ T n) c hi) fun b=>opt (dd ov a b)) H=some (v,H')) (I:cB prog w cls B c env G μ H s):
  wpAny (model prog w) A (eval (.Subscript o (.Slice lo hi none p') p) env) (bf prog w cls B [] G μ s H' v) E s:=by
 obtain⟨ov,H1,e1,e⟩:=ag e
 obtain⟨a,H2,e2,e⟩:=ag e
 obtain⟨b,H3,e3,e⟩:=ag e
 obtain⟨e4,rfl⟩:=bB e
 refine Subscript_ (be (ih.ev e1 hr I) I.tk fun r s1 G1 μ1 n1 S1 r1 t1=>?_)
 refine wpAny_Slice (Kt (wH ih hr e2 (I.next n1 S1 t1)) t1 fun ra s2 G2 μ2 n2 S2 b2 t2=>?_)
 have n12:=n1.trans n2
 refine Kt (wH ih hr e3 (I.next n12 S2 t2)) t2 fun rb s3 G3 μ3 n3 S3 b3 t3=>?_
 have n13:=n12.trans n3
 rw[evalPart_none]
 refine wpAny_pure ?_
 have r1':=(r1.mono n2.sub n2.pre).mono n3.sub n3.pre
 have S4:=S3.push' { cls:=.type "slice",data:=.fields #[ra,rb,.none] }
 have hs:(s3.heap.push { cls:=.type "slice",data:=.fields #[ra,rb,.none] }).IsSliceOf s3.heap.objs.size ra rb .none:=⟨_,Heap.get?_push_size _ rfl,rfl,rfl⟩
 obtain⟨U,id,hT,hl⟩:=sK (s:={ s3 with heap:=s3.heap.push { cls:=.type "slice",data:=.fields #[ra,rb,.none] } }) e4 S4 r1'
 exact tail_any (ops:=[.ref s3.heap.objs.size,r]) hT hl (wpAny_mono (w0 (s:={ s3 with heap:=s3.heap.push { cls:=.type "slice",data:=.fields #[ra,rb,.none] } }) e4 S4 r1' hs b2 b3) (fun _ _ h=>h.lift (n13.trans vE)) fun _ _ h=>h) rfl
theorem EY(ih:gT T prog w cls B n)(hr:bA A n){es:List PySem.Expr}{k:Nat}{p:Pos}{v:MV}(e:bnd (sI (aQ T n) c es) (fun vs=>bif bZ vs then ret (MV.tup vs) else fail) H=some (v,H'))(I:cB prog w cls B c env G μ H s):
  wpAny (model prog w) A (eval (.Tuple es k p) env) (bf prog w cls B [] G μ s H' v) E s:=by
 obtain⟨vs,H1,e1,e⟩:=ag e
 cases q:bZ vs with
 |false=>rw[q] at e;cases e
 |true=>
  rw[q] at e;cases e
  have hz:=bH q
  refine Tuple_ (jA (gB ih hr e1 I) I.tk fun rs s1 G1 μ1 n1 S1 r1 t1=>?_)
  have hl:=r1.length
  refine wpAny_newTuple ?_ (bq (by omega))
  exact(ca (tk:=s1.toks) S1 rfl fun G' k g=>bX.tup ⟨_,g,rfl,_,rfl⟩ (r1.mono k ⟨[],by simp⟩)).lift n1
theorem Kd(ih:gT T prog w cls B n)(hr:bA A n){es:List PySem.Expr}{p:Pos}{v:MV}(e:bnd (sI (aQ T n) c es) (fun vs=>zm T p vs) H=some (v,H'))(I:cB prog w cls B c env G μ H s):
  wpAny (model prog w) A (eval (.List es p) env) (bf prog w cls B [] G μ s H' v) E s:=by
 obtain⟨vs,H1,e1,e⟩:=ag e
 refine List_ (jA (gB ih hr e1 I) I.tk fun rs s1 G1 μ1 n1 S1 r1 t1=>?_)
 have hl:=r1.length
 unfold zm at e
 cases hm:T.made p with
 |some k=>
  rw[hm] at e
  dsimp only at e
  cases q:k==0&&bZ vs with
  |false=>rw[q] at e;cases e
  |true=>
   rw[q] at e;cases e
   have hz:=bH (Bool.and_eq_true_iff.mp q).2
   refine wpAny_newList ?_ (bq (by omega))
   exact(nR (tk:=s1.toks) (mo:=.lst vs) S1 ⟨rs,⟨_,Heap.get?_push_size _ rfl⟩,r1⟩).lift n1
 |none=>
  rw[hm] at e
  dsimp only at e
  cases q:bZ vs with
  |false=>rw[q] at e;cases e
  |true=>
   rw[q] at e;cases e
   have hz:=bH q
   refine wpAny_newList ?_ (bq (by omega))
   exact(ca (tk:=s1.toks) S1 rfl fun G' k g=>bX.lst ⟨_,g⟩ (r1.mono k ⟨[],by simp⟩)).lift n1
end
section
variable{prog:Program}{w:World}{cls:Str→Option Addr}{B G G':Heap}{μ μ':List Addr}{H H':Hp}{s s':Shared}{A:Around}{E:Value→Shared→Prop}
variable{T:gI}{m mb:Str→Option Value}{K:Frag}{n:Nat}{c:Cx}{env:Env}
structure Fx(prog:Program)(w:World)(cls:Str→Option Addr)(G:Heap)(μ:List Addr)(vs:List (Value×Value))(es:List (MV×MV)):Prop where
 k:aW prog w cls G μ (vs.map (·.1)) (es.map (·.1))
 v:aW prog w cls G μ (vs.map (·.2)) (es.map (·.2))
def N2(prog:Program)(w:World)(cls:Str→Option Addr)(B G:Heap)(μ:List Addr)(s:Shared)(H':Hp)(vs:List (MV×MV)):List (Value×Value)→Shared→Prop:=
 fun rs s'=>∃ G' μ',Nx [] G μ s G' μ' s'∧St prog w cls B G' μ' H' s'.heap∧Fx prog w cls G' μ' rs vs
theorem yS(ih:gT T prog w cls B n)(hr:bA A n){p:Pos}:∀ {ks:List (Option PySem.Expr)} {es:List PySem.Expr} {ps:List (MV×MV)} {G:Heap} {μ:List Addr} {H H':Hp} {s:Shared},
  gu (aQ T n) c ks es H=some (ps,H')→cB prog w cls B c env G μ H s→
  ks.all (·.isSome)=true∧ks.length=es.length∧wpAny (model prog w) A (evalPairs (pairTrees ks es env p)) (N2 prog w cls B G μ s H' ps) E s:=by
 intro ks
 induction ks with
 |nil=>
  intro es ps G μ H H' s e I
  cases es with
  |nil=>
   cases e
   exact⟨rfl,rfl,pairTrees_nil_walk ⟨G,μ,Nx.refl _ _ _ _,I.S,.nil,.nil⟩⟩
  |cons _ _=>cases e
 |cons k ks ihs=>
  intro es ps G μ H H' s e I
  cases k with
  |none=>cases es<;>cases e
  |some k=>
   cases es with
   |nil=>cases e
   |cons x es=>
    obtain⟨kv,H1,e1,e⟩:=ag e
    obtain⟨v,H2,e2,e⟩:=ag e
    obtain⟨vs,H3,e3,e⟩:=ag e
    obtain⟨rfl,rfl⟩:=cx e
    -- the shape does not hang on the state
    have shape:∀ {ks:List (Option PySem.Expr)} {es:List PySem.Expr} {ps:List (MV×MV)} {H H':Hp},gu (aQ T n) c ks es H=some (ps,H')→ks.all (·.isSome)=true∧ks.length=es.length:=by
     intro ks
     induction ks with
     |nil=>intro es ps H H' e;cases es with|nil=>exact⟨rfl,rfl⟩|cons _ _=>cases e
     |cons k ks ih'=>
      intro es ps H H' e
      cases k with
      |none=>cases es<;>cases e
      |some k=>
       cases es with
       |nil=>cases e
       |cons x es=>
        obtain⟨_,_,_,e⟩:=ag e
        obtain⟨_,_,_,e⟩:=ag e
        obtain⟨_,_,e3,e⟩:=ag e
        obtain⟨h1,h2⟩:=ih' e3
        exact⟨by simpa using h1,by simp[h2]⟩
    obtain⟨h1,h2⟩:=shape e3
    refine⟨by simpa using h1,by simp[h2],?_⟩
    refine pairTrees_cons_walk (be (ih.ev e1 hr I) I.tk fun r s1 G1 μ1 n1 S1 r1 t1=>?_)
    refine be (ih.ev e2 hr (I.next n1 S1 t1)) t1 fun r' s2 G2 μ2 n2 S2 r2 t2=>?_
    have n12:=n1.trans n2
    obtain⟨_,_,hw⟩:=ihs (G:=G2) (μ:=μ2) (s:=s2) e3 (I.next n12 S2 t2)
    refine wpAny_mono hw (fun rs s3 x=>?_) fun _ _ h=>h
    obtain⟨G3,μ3,n3,S3,q⟩:=x
    exact⟨G3,μ3,n12.trans n3,S3,.cons ((r1.mono n2.sub n2.pre).mono n3.sub n3.pre) q.k,.cons (r2.mono n3.sub n3.pre) q.v⟩
theorem gR{K:Type}[BEq K][LawfulBEq K]:∀ {l:List K},nodup l=true→l.Nodup
 |[],_=>.nil
 |k::r,h=>by
  obtain⟨h1,h2⟩:=Bool.and_eq_true_iff.mp (show(!r.contains k&&nodup r)=true from h)
  refine List.nodup_cons.mpr ⟨fun hm=>?_,gR h2⟩
  rw[List.contains_iff_mem.mpr hm] at h1;cases h1
theorem p9:∀ {vs:List (Value×Value)} {es:List (MV×MV)} {l:List (Str×MV)},Fx prog w cls G μ vs es→cj es=some l→allStrKeys vs=true∧fq prog w cls G μ (strPairs vs) l:=by
 intro vs
 induction vs with
 |nil=>
  intro es l r e
  obtain⟨rk,rv⟩:=r
  cases es with
  |nil=>cases e;exact⟨rfl,.nil⟩
  |cons _ _=>cases rk
 |cons p vs ih=>
  intro es l r e
  obtain⟨rk,rv⟩:=r
  cases es with
  |nil=>cases rk
  |cons q es=>
   obtain⟨a,b⟩:=p
   obtain⟨x,y⟩:=q
   cases rk with|cons rk1 rk2=>
   cases rv with|cons rv1 rv2=>
   dsimp only at rk1 rv1
   cases rk1 with
   |str t u=>
    obtain⟨l',hl',rfl⟩:=Option.map_eq_some_iff.mp (show(cj es).map ((t,y)::·)=some l from e)
    obtain⟨h1,h2⟩:=ih ⟨rk2,rv2⟩ hl'
    exact⟨h1,.cons rv1 h2⟩
   |_=>cases e
theorem oF:∀ {vs:List (Value×Value)} {es:List (MV×MV)} {l:List (Int×MV)},Fx prog w cls G μ vs es→cP es=some l→allIntKeys vs=true∧fN prog w cls G μ (intKeyPairs vs) l:=by
 intro vs
 induction vs with
 |nil=>
  intro es l r e
  obtain⟨rk,rv⟩:=r
  cases es with
  |nil=>cases e;exact⟨rfl,.nil⟩
  |cons _ _=>cases rk
 |cons p vs ih=>
  intro es l r e
  obtain⟨rk,rv⟩:=r
  cases es with
  |nil=>cases rk
  |cons q es=>
   obtain⟨a,b⟩:=p
   obtain⟨x,y⟩:=q
   cases rk with|cons rk1 rk2=>
   cases rv with|cons rv1 rv2=>
   dsimp only at rk1 rv1
   cases rk1 with
   |int t u=>
    obtain⟨l',hl',rfl⟩:=Option.map_eq_some_iff.mp (show(cP es).map ((t,y)::·)=some l from e)
    obtain⟨h1,h2⟩:=ih ⟨rk2,rv2⟩ hl'
    exact⟨h1,.cons rv1 h2⟩
   |_=>cases e
structure j0(prog:Program)(w:World)(cls:Str→Option Addr)(B G:Heap)(μ:List Addr)(s:Shared)(G1:Heap)(μ1:List Addr)(H1:Hp)(h':Heap)(d:Addr):Prop where
 dead:s.heap.get? d=none
 off:d∉μ1
 offG:G1.get? d=none
 sub:Le G G1
 pre:∃ l,μ1=μ++l
 keeps:∀ b o,s.heap.get? b=some o→b∉μ→h'.get? b=some o
 newμ:∀ a∈μ1,a∈μ∨s.heap.get? a=none
 newG:∀ a,G1.get? a≠none→G.get? a≠none∨s.heap.get? a=none
 alive:∀ a,s.heap.get? a≠none→h'.get? a≠none
 S:St prog w cls B G1 μ1 H1 h'
theorem Ld{o:Obj}{s1:Shared}{G1:Heap}{μ1:List Addr}{H1:Hp}{h':Heap}(ho:o.isFreed=false)(S:St prog w cls B G μ H s.heap)(n1:Nx [] G μ { s with heap:=s.heap.push o } G1 μ1 s1)
  (S1:St prog w cls B G1 μ1 H1 s1.heap) (hs:Heap.SameBut s.heap.objs.size s1.heap h') (hl:h'.get? s.heap.objs.size≠none):j0 prog w cls B G μ s G1 μ1 H1 h' s.heap.objs.size:=by
 have hd:({ s with heap:=s.heap.push o }:Shared).heap.get? s.heap.objs.size=some o:=Heap.get?_push_size _ ho
 have d1:s.heap.objs.size∉μ1:=fun q=>(n1.newμ _ q).elim S.new fun z=>by rw[hd] at z;cases z
 have d2:G1.get? s.heap.objs.size=none:=by
  cases q:G1.get? s.heap.objs.size with
  |none=>rfl
  |some o'=>exact((n1.newG _ (by rw[q];simp)).elim (fun z=>absurd S.newG z) fun z=>by rw[hd] at z;cases z)
 have ne:∀ b o',s.heap.get? b=some o'→b≠s.heap.objs.size:=fun b o' e=>Nat.ne_of_lt (aK e)
 have up:∀ a,s.heap.get? a≠none→(s.heap.push o).get? a≠none:=fun a e=>by
  cases q:s.heap.get? a with
  |none=>exact absurd q e
  |some o'=>rw[Heap.get?_push_of_some _ q];simp
 refine⟨bV,d1,d2,n1.sub,n1.pre,fun b o' e hb=>?_,fun a ha=>(n1.newμ a ha).imp id (eD up),fun a ha=>(n1.newG a ha).imp id (eD up),fun a e=>?_,?_⟩
 ·rw[hs.2 b (ne b o' e)]
  exact n1.keeps b o' (Heap.get?_push_of_some _ e) hb (by simp)
 ·exact ej hs hl a (n1.alive a (up a e))
 ·exact S1.other (fun b o' e=>(hs.2 b fun z=>by rw[z,d2] at e;cases e).trans (S1.keep b o' e)) fun a ha=>hs.2 a fun z=>d1 (z▸ha)
theorem j0.made{s1:Shared}{G1:Heap}{μ1:List Addr}{H1:Hp}{h':Heap}{d:Addr}{mo:MO}{tk:Nat}(f:j0 prog w cls B G μ s G1 μ1 H1 h' d)(sm:∃ h tk,s1={ s with heap:=h,toks:=tk })(r:jF prog w cls G1 μ1 h' d mo):
  bf prog w cls B [] G μ s (H1++[mo]) (.ref H1.length) (.ref d) { s1 with heap:=h',toks:=tk }:=by
 refine⟨G1,μ1++[d],⟨f.sub,?_,fun b o e h1 _=>f.keeps b o e h1,?_,fun a ha=>?_,f.newG,f.alive⟩,f.S.push f.off f.offG r,.ref ?_⟩
 ·obtain⟨l,rfl⟩:=f.pre;exact⟨l++[d],by simp⟩
 ·obtain⟨h,tk',rfl⟩:=sm;exact⟨_,_,rfl⟩
 ·rcases List.mem_append.mp ha with z|z
  ·exact f.newμ a z
  ·rw[List.mem_singleton.mp z];exact .inr f.dead
 ·rw[←f.S.len];exact List.getElem?_concat_length
theorem j0.fixed{s1:Shared}{G1:Heap}{μ1:List Addr}{H1:Hp}{h':Heap}{d:Addr}{v:MV}{tk:Nat}(f:j0 prog w cls B G μ s G1 μ1 H1 h' d)(sm:∃ h tk,s1={ s with heap:=h,toks:=tk })
  (q:∀ G',Le G1 G'→G'.get? d=h'.get? d→bX prog w cls G' μ1 (.ref d) v):bf prog w cls B [] G μ s H1 v (.ref d) { s1 with heap:=h',toks:=tk }:=by
 obtain⟨G',h1,h2,h3,S2⟩:=f.S.more [d] fun a ha=>by rw[List.mem_singleton.mp ha];exact f.off
 refine⟨G',μ1,⟨f.sub.trans h1,f.pre,fun b o e h1 _=>f.keeps b o e h1,?_,f.newμ,fun a ha=>?_,f.alive⟩,S2,q G' h1 (h2 d (.head _))⟩
 ·obtain⟨h,tk',rfl⟩:=sm;exact⟨_,_,rfl⟩
 ·rcases h3 a ha with z|z
  ·exact f.newG a z
  ·rw[List.mem_singleton.mp z];exact .inr f.dead
theorem Jx(F:eQ T prog w cls B m mb K){h:Heap}(S:St prog w cls B G μ H h):(h.objs.size==sysModules)=false:=by
 rw[beq_eq_false_iff_ne]
 obtain⟨a,ha,hb⟩:=F.sysm
 cases z:B.get? a with
 |none=>exact absurd z hb
 |some o=>exact(Nat.ne_of_lt (Nat.lt_trans ha (aK (S.keep _ _ (S.base _ _ z))))).symm
theorem zO{K:Type}[DecidableEq K]{knd:KeyKind prog w K}{h:Heap}{a:Addr}{kvs:List (K×Value)}(x:h.DictOf knd a kvs):h.get? a≠none:=by
 obtain⟨o,_,_,ho,_⟩:=x;rw[ho];simp
theorem pF{K:Type}[DecidableEq K]{knd:KeyKind prog w K}{h h':Heap}{a:Addr}{kvs:List (K×Value)}(x:h.DictOf knd a kvs)(e:h'.get? a=h.get? a):h'.DictOf knd a kvs:=by
 obtain⟨o,es,ep,ho,r⟩:=x;exact⟨o,es,ep,e.trans ho,r⟩
theorem IS(F:eQ T prog w cls B m mb K)(ih:gT T prog w cls B n)(hr:bA A n){ks:List (Option PySem.Expr)}{es:List PySem.Expr}{p:Pos}{v:MV}(hk:ks.length≤15)
  (e0:bnd (gu (aQ T n) c ks es) (fun ps=>r6 T p ps) H=some (v,H')) (I:cB prog w cls B c env G μ H s):
  wpAny (model prog w) A (eval (.Dict ks es p) env) (bf prog w cls B [] G μ s H' v) E s:=by
 obtain⟨ps,H1,e1,e⟩:=ag e0
 clear e0
 have S:=I.S
 have hsm:=Jx F S
 cases ks with
 |nil=>
  cases es with
  |cons _ _=>cases e1
  |nil=>
   cases e1
   refine wpAny_Dict_empty ?_
   have hn:∀ {K:Type} [DecidableEq K] (knd:KeyKind prog w K),(s.heap.push { cls:=.type "dict",data:=.dict #[] }).DictOf knd s.heap.objs.size []:=fun knd=>Heap.DictOf.new s.heap
   unfold r6 at e
   cases hm:T.made p with
   |some k=>
    rw[hm] at e
    dsimp only at e
    cases q1:k==1 with
    |true=>
     rw[q1] at e;cases e
     exact nR (tk:=s.toks) (mo:=.dcs []) S ⟨[],hn _,.nil,hsm⟩
    |false=>
     rw[q1] at e
     cases q2:k==2 with
     |true=>
      rw[q2] at e;cases e
      exact nR (tk:=s.toks) (mo:=.dci []) S ⟨[],hn _,.nil,hsm⟩
     |false=>rw[q2] at e;cases e
   |none=>
    rw[hm] at e;cases e
    exact ca (tk:=s.toks) S rfl fun G' k g=>.dcs hsm (pF (hn _) (g.trans (Heap.get?_push_size _ rfl).symm)) .nil
 |cons k ks=>
  have I0:cB prog w cls B c env G μ H { s with heap:=s.heap.push { cls:=.type "dict",data:=.dict #[] } }:=I.next vE (S.push' _) I.tk
  obtain⟨hall,hlen,hw⟩:=yS (A:=A) (E:=E) (p:=p) (s:={ s with heap:=s.heap.push { cls:=.type "dict",data:=.dict #[] } }) ih hr e1 I0
  have core:∀ {KT:Type} [DecidableEq KT] (knd:KeyKind prog w KT) (R:List (Value×Value)→List (KT×Value)),
    (∀ (rs:List (Value×Value)) (s1:Shared) (G1:Heap) (μ1:List Addr),Fx prog w cls G1 μ1 rs ps→Carries knd rs (R rs)∧((R rs).map (·.1)).Nodup)→
    (∀ rs s1 G1 μ1 h' tk,Nx [] G μ { s with heap:=s.heap.push { cls:=.type "dict",data:=.dict #[] } } G1 μ1 s1→Fx prog w cls G1 μ1 rs ps→h'.DictOf knd s.heap.objs.size (R rs)→j0 prog w cls B G μ s G1 μ1 H1 h' s.heap.objs.size→
     bf prog w cls B [] G μ s H' v (.ref s.heap.objs.size) { s1 with heap:=h',toks:=tk })→
    wpAny (model prog w) A (eval (.Dict (k::ks) es p) env) (bf prog w cls B [] G μ s H' v) E s:=by
   intro KT _ knd R hR fin
   refine wpAny_Dict_walk (knd:=knd) hall hlen (by simp) hk (wpAny_mono hw (fun rs s1 x=>?_) fun _ _ h=>h)
   obtain⟨G1,μ1,n1,S1,q⟩:=x
   obtain⟨h1,h2⟩:=hR rs s1 G1 μ1 q
   have hdict:s1.heap.DictOf knd s.heap.objs.size []:=by
    refine pF (Heap.DictOf.new s.heap) ?_
    have e0:({ s with heap:=s.heap.push { cls:=.type "dict",data:=.dict #[] } }:Shared).heap.get? s.heap.objs.size=some { cls:=.type "dict",data:=.dict #[] }:=Heap.get?_push_size _ rfl
    exact(n1.keeps _ _ e0 S.new (by simp)).trans e0.symm
   refine⟨R rs,h1,hdict,fun h' hd' hs'=>?_⟩
   rw[merged_nil_of_nodup _ h2] at hd'
   exact fin rs s1 G1 μ1 h' _ n1 q hd' (Ld rfl S n1 S1 hs' (zO hd'))
  have same:∀ {G1:Heap} {μ1:List Addr} {s1:Shared},Nx [] G μ { s with heap:=s.heap.push { cls:=.type "dict",data:=.dict #[] } } G1 μ1 s1→∃ h tk,s1={ s with heap:=h,toks:=tk }:=fun n1=>by
   obtain⟨h,tk,rfl⟩:=n1.same;exact⟨_,_,rfl⟩
  have bystr:∀ {l:List (Str×MV)},cj ps=some l→nodup (l.map (·.1))=true→
    (∀ s1 G1 μ1 h' tk kvs,Nx [] G μ { s with heap:=s.heap.push { cls:=.type "dict",data:=.dict #[] } } G1 μ1 s1→fq prog w cls G1 μ1 kvs l→h'.DictOf (PySem.strKind prog w) s.heap.objs.size kvs→j0 prog w cls B G μ s G1 μ1 H1 h' s.heap.objs.size→
     bf prog w cls B [] G μ s H' v (.ref s.heap.objs.size) { s1 with heap:=h',toks:=tk })→
    wpAny (model prog w) A (eval (.Dict (k::ks) es p) env) (bf prog w cls B [] G μ s H' v) E s:=by
   intro l hl hn fin
   refine core (PySem.strKind prog w) strPairs (fun rs s1 G1 μ1 q=>?_) fun rs s1 G1 μ1 h' tk n1 q hd f=>?_
   ·obtain⟨h1,h2⟩:=p9 q hl
    exact⟨carries_strPairs prog w rs h1,by rw[h2.keys];exact gR hn⟩
   ·exact fin s1 G1 μ1 h' tk _ n1 (p9 q hl).2 hd f
  have byint:∀ {l:List (Int×MV)},cP ps=some l→nodup (l.map (·.1))=true→
    (∀ s1 G1 μ1 h' tk kvs,Nx [] G μ { s with heap:=s.heap.push { cls:=.type "dict",data:=.dict #[] } } G1 μ1 s1→fN prog w cls G1 μ1 kvs l→h'.DictOf (PySem.intKind prog w) s.heap.objs.size kvs→j0 prog w cls B G μ s G1 μ1 H1 h' s.heap.objs.size→
     bf prog w cls B [] G μ s H' v (.ref s.heap.objs.size) { s1 with heap:=h',toks:=tk })→
    wpAny (model prog w) A (eval (.Dict (k::ks) es p) env) (bf prog w cls B [] G μ s H' v) E s:=by
   intro l hl hn fin
   refine core (PySem.intKind prog w) intKeyPairs (fun rs s1 G1 μ1 q=>?_) fun rs s1 G1 μ1 h' tk n1 q hd f=>?_
   ·obtain⟨h1,h2⟩:=oF q hl
    exact⟨carries_intKeyPairs prog w rs h1,by rw[h2.keys];exact gR hn⟩
   ·exact fin s1 G1 μ1 h' tk _ n1 (oF q hl).2 hd f
  unfold r6 at e
  cases hm:T.made p with
  |some k'=>
   rw[hm] at e
   dsimp only at e
   cases q1:k'==1 with
   |true=>
    rw[q1] at e
    dsimp only[cond_true] at e
    cases hl:cj ps with
    |none=>rw[hl] at e;cases e
    |some l=>
     rw[hl] at e
     dsimp only at e
     cases hn:nodup (l.map (·.1)) with
     |false=>rw[hn] at e;cases e
     |true=>
      rw[hn] at e;cases e
      exact bystr hl hn fun s1 G1 μ1 h' tk kvs n1 r hd f=>f.made (same n1) ⟨kvs,hd,r,hsm⟩
   |false=>
    rw[q1] at e
    dsimp only[cond_false] at e
    cases q2:k'==2 with
    |false=>rw[q2] at e;cases e
    |true=>
     rw[q2] at e
     dsimp only[cond_true] at e
     cases hl:cP ps with
     |none=>rw[hl] at e;cases e
     |some l=>
      rw[hl] at e
      dsimp only at e
      cases hn:nodup (l.map (·.1)) with
      |false=>rw[hn] at e;cases e
      |true=>
       rw[hn] at e;cases e
       exact byint hl hn fun s1 G1 μ1 h' tk kvs n1 r hd f=>f.made (same n1) ⟨kvs,hd,r,hsm⟩
  |none=>
   rw[hm] at e
   dsimp only at e
   cases hl:cj ps with
   |some l=>
    rw[hl] at e
    dsimp only at e
    cases hn:nodup (l.map (·.1)) with
    |false=>rw[hn] at e;cases e
    |true=>
     rw[hn] at e;cases e
     exact bystr hl hn fun s1 G1 μ1 h' tk kvs n1 r hd f=>f.fixed (same n1) fun G' k g=>.dcs hsm (pF hd g) (r.mono k ⟨[],by simp⟩)
   |none=>
    rw[hl] at e
    dsimp only at e
    cases hl:cP ps with
    |none=>rw[hl] at e;cases e
    |some l=>
     rw[hl] at e
     dsimp only at e
     cases hn:nodup (l.map (·.1)) with
     |false=>rw[hn] at e;cases e
     |true=>
      rw[hn] at e;cases e
      exact byint hl hn fun s1 G1 μ1 h' tk kvs n1 r hd f=>f.fixed (same n1) fun G' k g=>.dci hsm (pF hd g) (r.mono k ⟨[],by simp⟩)
end
theorem dX{α:Type}(a b:List (Str×α))(x:Str):(a++b).lookup x=(a.lookup x).or (b.lookup x):=by
 induction a with
 |nil=>rfl
 |cons p a ih=>
  rw[List.cons_append,List.lookup_cons,List.lookup_cons]
  cases x==p.1 with
  |true=>rfl
  |false=>exact ih
def gW(slots:List (Str×Value))(p:Str×Value):List (Str×Value):=if (slots.lookup p.1).isNone then slots++[p] else slots
theorem rz(l:List (Str×Value)):∀ (slots:List (Str×Value)) (x:Str),(l.foldl gW slots).lookup x=(slots.lookup x).or (l.lookup x):=by
 induction l with
 |nil=>intro slots x;simp
 |cons p l ih=>
  intro slots x
  obtain⟨a,b⟩:=p
  rw[List.foldl_cons,ih,List.lookup_cons]
  unfold gW
  by_cases hx:x=a
  ·subst hx
   cases h:slots.lookup x with
   |none=>simp[dX,h,List.lookup_cons]
   |some v=>simp[h]
  ·have hb:(x==a)=false:=by simp[hx]
   rw[hb]
   cases h:slots.lookup a with
   |none=>simp[dX,hb,List.lookup_cons]
   |some v=>simp
theorem iZ{α:Type}{ns:List Str}{vs:List α}{x:Str}(h:x∉ns):(ns.zip vs).lookup x=none:=by
 induction ns generalizing vs with
 |nil=>rfl
 |cons n ns ih=>
  cases vs with
  |nil=>rfl
  |cons v vs=>
   rw[List.zip_cons_cons,List.lookup_cons]
   have:(x==n)=false:=by simp;exact fun e=>h (e▸List.mem_cons_self)
   rw[this]
   exact ih fun hm=>h (List.mem_cons_of_mem _ hm)
theorem i9{α:Type}{ns:List Str}{vs:List α}{x:Str}(h:x∈ns)(hl:ns.length≤vs.length):((ns.zip vs).lookup x).isSome=true:=by
 induction ns generalizing vs with
 |nil=>cases h
 |cons n ns ih=>
  cases vs with
  |nil=>simp at hl
  |cons v vs=>
   rw[List.zip_cons_cons,List.lookup_cons]
   by_cases hx:x=n
   ·have:(x==n)=true:=by simp[hx]
    rw[this];rfl
   ·have:(x==n)=false:=by simp[hx]
    rw[this]
    exact ih ((List.mem_cons.mp h).resolve_left hx) (by simpa using hl)
theorem A4{ns:List Str}{vs:List Value}(hn:ns.Nodup)(hl:ns.length=vs.length):∀ (f:Str→Option Value),(∀ x∈ns,f x=(ns.zip vs).lookup x)→ns.filterMap (fun x=>(f x).map (x,·))=ns.zip vs:=by
 induction ns generalizing vs with
 |nil=>intro f _;rfl
 |cons n ns ih=>
  intro f hf
  cases vs with
  |nil=>simp at hl
  |cons v vs=>
   obtain⟨h1,h2⟩:=List.nodup_cons.mp hn
   have e1:f n=some v:=by rw[hf n List.mem_cons_self,List.zip_cons_cons,List.lookup_cons];simp
   rw[List.filterMap_cons,e1]
   dsimp only[Option.map_some]
   rw[List.zip_cons_cons]
   congr 1
   refine ih h2 (by simpa using hl) f fun x hx=>?_
   rw[hf x (List.mem_cons_of_mem _ hx),List.zip_cons_cons,List.lookup_cons]
   have:(x==n)=false:=by simp;exact fun e=>h1 (e▸hx)
   rw[this]
theorem kj{α β:Type}(a:List α)(b:List β)(k:Nat)(h:k≤b.length)(h':k≤a.length):a.zip b=(a.take k).zip (b.take k)++(a.drop k).zip (b.drop k):=by
 conv=>lhs;rw[←List.take_append_drop k a,←List.take_append_drop k b]
 exact List.zip_append (by simp;omega)
theorem DR{ns:List Str}{pos ds:List Value}(hn:ns.Nodup)(h1:pos.length≤ns.length)(h2:ns.length≤pos.length+ds.length)(h3:ds.length≤ns.length):
  ns.filterMap (fun x=>((((ns.drop (ns.length - ds.length)).zip ds).foldl gW (ns.zip pos)).lookup x).map (x,·))=ns.zip (pos++ds.drop (pos.length+ds.length - ns.length)):=by
 refine A4 hn (by simp;omega) _ fun x hx=>?_
 rw[rz]
 have e1:ns.zip (pos++ds.drop (pos.length+ds.length - ns.length))=(ns.take pos.length).zip pos++(ns.drop pos.length).zip (ds.drop (pos.length+ds.length - ns.length)):=by
  rw[kj ns _ pos.length (by simp) h1]
  simp
 have e2:ns.zip pos=(ns.take pos.length).zip pos:=by
  rw[kj ns pos pos.length (Nat.le_refl _) h1]
  simp
 rw[e1,e2,dX]
 by_cases hm:x∈ns.take pos.length
 ·obtain⟨v,hv⟩:=Option.isSome_iff_exists.mp (i9 hm (vs:=pos) (by simp;omega))
  rw[hv];rfl
 ·rw[iZ hm,Option.none_or,Option.none_or]
  rw[kj (ns.drop (ns.length - ds.length)) ds (pos.length+ds.length - ns.length) (by omega) (by simp;omega),dX]
  have hm2:x∉(ns.drop (ns.length - ds.length)).take (pos.length+ds.length - ns.length):=fun hq=>hm ?_
  ·rw[iZ hm2,Option.none_or,List.drop_drop]
   congr 2
   congr 1
   omega
  ·have:(ns.drop (ns.length - ds.length)).take (pos.length+ds.length - ns.length)=(ns.take pos.length).drop (ns.length - ds.length):=by
    rw[List.drop_take]
    congr 1
    omega
   rw[this] at hq
   exact List.mem_of_mem_drop hq
theorem lj(f:Str×Value→List (Str×Value)→Sem (ForInStep (List (Str×Value))))(hf:∀ p s,f p s=pure (.yield (gW s p))):
  ∀ (l:List (Str×Value)) (s:List (Str×Value)),forIn l s f=(pure (l.foldl gW s):Sem (List (Str×Value)))
 |[],s=>rfl
 |p::l,s=>by
  rw[List.forIn_cons,hf,pure_bind]
  exact lj f hf l (gW s p)
theorem rX{fd:FuncData}{pos:List Value}{ns:List Str}(h1:fd.params.posonlyargs=[])(h2:fd.params.vararg=none)(h3:fd.params.kwonlyargs=[])(h4:fd.params.kwarg=none)
  (h5:fd.params.args.map (·.arg)=ns) (hn:ns.Nodup) (h6:pos.length≤ns.length):
  ∃ k:Option (Array Value)→Sem (List (Str×Value)),bindArgs fd ⟨pos,[]⟩=seqItems? fd.defaults >>=k∧
   ∀ ds:Option (Array Value),(ds.getD #[]).toList.length≤ns.length→ns.length≤pos.length+(ds.getD #[]).toList.length→
    k ds=pure (ns.zip (pos++(ds.getD #[]).toList.drop (pos.length+(ds.getD #[]).toList.length - ns.length))):=by
 unfold bindArgs
 simp only[h1,h2,h3,h4,h5,List.map_nil,List.nil_append,List.forIn_nil,List.append_nil,Option.isNone_none,Bool.and_true,pure_bind]
 refine⟨_,rfl,fun ds hd1 hd2=>?_⟩
 generalize (ds.getD #[]).toList=dl at hd1 hd2
 have e1:¬ (decide (pos.length > ns.length))=true:=by simp;omega
 rw[if_neg e1]
 have e2:dl.drop (dl.length - ns.length)=dl:=by
  have:dl.length - ns.length=0:=by omega
  rw[this];rfl
 simp only[e2]
 have e3:((ns.take (ns.length - dl.length)).filter fun n=>((ns.zip pos).lookup n).isNone)=[]:=by
  rw[List.filter_eq_nil_iff]
  intro x hx
  have hx':x∈ns.take pos.length:=by
   have:ns.take (ns.length - dl.length)=(ns.take pos.length).take (ns.length - dl.length):=by
    rw[List.take_take];congr 1;omega
   rw[this] at hx
   exact List.mem_of_mem_take hx
  have e2:ns.zip pos=(ns.take pos.length).zip pos:=by
   rw[kj ns pos pos.length (Nat.le_refl _) h6]
   simp
  rw[e2]
  have:=i9 hx' (vs:=pos) (by simp;omega)
  simp[Option.isSome_iff_ne_none.mp this]
 simp only[e3,List.isEmpty_nil,Bool.not_true,Bool.false_eq_true,if_false]
 rw[lj _ (fun p s=>by unfold gW;split<;>rfl),pure_bind]
 rw[DR hn h6 hd2 hd1]
section
variable{kindOf:Str→Option NameKind}
theorem oy:∀ {bs:List (Str×Value)} {f:Str→Option Value} {x:Str},x∉bs.map (·.1)→bindL kindOf bs f x=f x
 |[],_,_,_=>rfl
 |(n,v)::r,f,x,h=>by
  have h1:x≠n:=fun e=>h (by simp[e])
  have h2:x∉r.map (·.1):=fun e=>h (by simp at e ⊢;exact .inr e)
  unfold bindL
  rw[oy h2]
  split
  ·exact if_neg h1
  ·rfl
theorem qA:∀ {bs:List (Str×Value)} {f:Str→Option Value} {x:Str} {v:Value},(bs.map (·.1)).Nodup→bs.lookup x=some v→kindOf x=some .local→bindL kindOf bs f x=some v
 |(n,u)::r,f,x,v,hn,h,hk=>by
  obtain⟨h1,h2⟩:=List.nodup_cons.mp hn
  rw[List.lookup_cons] at h
  unfold bindL
  by_cases hx:x=n
  ·subst hx
   rw[oy h1,if_pos hk,if_pos rfl]
   simpa using h
  ·have:(x==n)=false:=by simp[hx]
   rw[this] at h
   exact qA h2 h hk
theorem oB:∀ {bs:List (Str×Value)} {f:Str→Option Value} {x:Str},x∉bs.map (·.1)→bindC kindOf bs f x=f x
 |[],_,_,_=>rfl
 |(n,v)::r,f,x,h=>by
  have h1:x≠n:=fun e=>h (by simp[e])
  have h2:x∉r.map (·.1):=fun e=>h (by simp at e ⊢;exact .inr e)
  unfold bindC
  rw[oB h2]
  split
  ·rfl
  ·exact if_neg h1
theorem xJ:∀ {bs:List (Str×Value)} {f:Str→Option Value} {x:Str} {v:Value},(bs.map (·.1)).Nodup→bs.lookup x=some v→kindOf x=some .cell→bindC kindOf bs f x=some v
 |(n,u)::r,f,x,v,hn,h,hk=>by
  obtain⟨h1,h2⟩:=List.nodup_cons.mp hn
  rw[List.lookup_cons] at h
  unfold bindC
  by_cases hx:x=n
  ·subst hx
   rw[oB h1,if_neg (by rw[hk];decide),if_pos rfl]
   simpa using h
  ·have:(x==n)=false:=by simp[hx]
   rw[this] at h
   exact xJ h2 h hk
end
theorem dw:∀ (names:List (Str×NameKind)) (k:Nat) (acc:List (Str×Addr)) (x:Str),((x,NameKind.cell)∈names∨(acc.lookup x).isSome=true)→((cellsFrom k names acc).lookup x).isSome=true
 |[],_,_,_,h=>h.resolve_left (by simp)
 |(nm,kd)::r,k,acc,x,h=>by
  unfold cellsFrom
  cases hk:kd==.cell with
  |true=>
   rw[if_pos rfl]
   refine dw r _ _ x ?_
   rcases h with h|h
   ·rcases List.mem_cons.mp h with h|h
    ·cases h;right;simp[List.lookup_cons]
    ·exact .inl h
   ·right
    rw[List.lookup_cons]
    split
    ·rfl
    ·exact h
  |false=>
   rw[if_neg (by simp)]
   refine dw r _ _ x ?_
   rcases h with h|h
   ·rcases List.mem_cons.mp h with h|h
    ·cases h;exact absurd hk (by decide)
    ·exact .inl h
   ·exact .inr h
theorem jz:∀ (names:List (Str×NameKind)) (k:Nat) (acc:List (Str×Addr)),(names.map (·.1)++acc.map (·.1)).Nodup→((cellsFrom k names acc).map (·.1)).Nodup
 |[],k,acc,h=>by simpa [cellsFrom] using h
 |(nm,kd)::r,k,acc,h=>by
  unfold cellsFrom
  rw[List.map_cons,List.cons_append,List.nodup_cons] at h
  split
  ·refine jz r _ _ ?_
   rw[List.map_cons]
   exact(List.perm_middle.nodup_iff).mpr (List.nodup_cons.mpr h)
  ·exact jz r _ _ h.2
section
variable{prog:Program}{w:World}{cls:Str→Option Addr}{B G G':Heap}{μ μ':List Addr}{H H':Hp}{s s':Shared}{A:Around}{E:Value→Shared→Prop}
variable{T:gI}{m mb:Str→Option Value}{K:Frag}{n:Nat}{c:Cx}{env:Env}
theorem vv{ns:List Str}{as:List Value}{vs:List MV}(r:aW prog w cls G μ as vs)(x:Str)(v:MV)(h:(ns.zip vs).lookup x=some v):∃ u,(ns.zip as).lookup x=some u∧bX prog w cls G μ u v:=by
 induction ns generalizing as vs with
 |nil=>cases h
 |cons k ns ih=>
  cases r with
  |nil=>cases h
  |cons r1 r2=>
   rw[List.zip_cons_cons,List.lookup_cons] at h ⊢
   cases hx:x==k with
   |true=>rw[hx] at h;cases h;exact⟨_,rfl,r1⟩
   |false=>rw[hx] at h;exact ih r2 h
theorem ii{sc:Scope}{bs:List (Str×MV)}{x:Str}{v:MV}(hn:(sc.names.map (·.1)).Nodup)(h:((frame sc bs).lookup x).join=some v):bs.lookup x=some v:=by
 unfold frame at h
 generalize sc.names=l at hn h
 induction l with
 |nil=>cases h
 |cons p l ih=>
  obtain⟨h1,h2⟩:=List.nodup_cons.mp hn
  rw[List.filterMap_cons] at h
  split at h
  ·exact ih h2 h
  ·rename_i q hq
   have hq':q=(p.1,bs.lookup p.1):=by
    split at hq<;>first|exact(Option.some.inj hq).symm|cases hq
   subst hq'
   rw[List.lookup_cons] at h
   cases hx:x==p.1 with
   |true=>
    rw[hx] at h
    rw[eq_of_beq hx]
    exact h
   |false=>rw[hx] at h;exact ih h2 h
theorem aW.zipKeys{ns:List Str}{vs:List Value}(hl:ns.length≤vs.length):(ns.zip vs).map (·.1)=ns:=by
 induction ns generalizing vs with
 |nil=>rfl
 |cons n ns ih=>
  cases vs with
  |nil=>simp at hl
  |cons v vs=>rw[List.zip_cons_cons,List.map_cons,ih (by simpa using hl)]
theorem cS{P:List Addr}{h:Heap}{tk:Nat}(k:Le s.heap h):Nx P G μ s G μ { s with heap:=h,toks:=tk }:=
 ⟨Le.refl _,⟨[],by simp⟩,fun b o e _ _=>k b o e,⟨_,_,rfl⟩,fun _ h=>.inl h,fun _ h=>.inl h,gv k⟩
theorem St.grow{h h':Heap}(S:St prog w cls B G μ H h)(k:Le h h'):St prog w cls B G μ H h':=
 S.other (S.keep.trans k) fun a ha=>by obtain⟨o,e⟩:=S.at ha;rw[e,k a o e]
theorem np{P Q:List Addr}{v:MV}{r:Value}{s'':Shared}(n:Nx P G μ s G' μ' s')(h:bf prog w cls B Q G' μ' s' H v r s'')(hq:∀ a∈Q,a∈P∨s.heap.get? a=none):bf prog w cls B P G μ s H v r s'':=by
 obtain⟨G'',μ'',x,S,q⟩:=h
 exact⟨G'',μ'',n.trans' x hq,S,q⟩
theorem nL{sc:Scope}{env:Env}(h:env.scope=sc):IN sc env:=fun x k e=>.inl (by unfold Env.kindOf;rw[h];exact e)
structure u7(prog:Program)(w:World)(cls:Str→Option Addr)(B G:Heap)(μ:List Addr)(s:Shared)(fn:Fn)(us:List Value)(env:Env)(h1:Heap):Prop where
 scope:env.scope=fn.scope
 le:Le s.heap h1
 V:∀ ρ:Ev,(∀ y z,(ρ.lookup y).join=some z→∃ u,(fn.params.zip us).lookup y=some u∧bX prog w cls G μ u z)→dV prog w cls G μ h1 env ρ
 ns:∃ f,h1.Ns env.locals f∧∀ y u,(fn.params.zip us).lookup y=some u→env.kindOf y=some .local→f y=some u
 priv:∀ b∈priv env,s.heap.get? b=none
 fresh:∀ b∈own fn.scope env,s.heap.get? b=none
theorem G9{M:Model}{s₀:Shared}{mm cm:Str→Option Value}{n:Str}{v:Value}{Q:Unit→Shared→Prop}(x:InCallC s₀ env.locals mm env.cells cm s)(hk:env.scope.kind=.function)(hl:env.kindOf n=some .local)
  (h:∀ s',InCallC s₀ env.locals (fun y=>if y=n then some v else mm y) env.cells cm s'→1≤s'.toks→Q () s'):wpAny M A (storeName env n v) Q E s:=by
 refine wpAny_storeName_local hl x.toInCall.ns (fun h' hn' hs'=>h _ ⟨⟨?_,hn',fun b o e=>?_,x.toInCall.fresh⟩,fun k c hc=>?_,x.apart,x.above⟩ (Nat.le_add_left _ _)) (by rw[hk];rfl)
 ·obtain⟨h₁,tk,rfl⟩:=x.toInCall.same
  exact⟨h',_,rfl⟩
 ·exact hs'.extBut b o (Nat.ne_of_lt (Nat.lt_of_lt_of_le (Heap.lt_size e) x.toInCall.fresh)) (x.toInCall.keep b o e)
 ·exact(x.cell k c hc).sameBut hs' (Nat.ne_of_gt (x.above k c (mem_of_lookup hc)))
theorem yB{M:Model}{scope:Scope}{globals:Addr}{binds:List (Str×Value)}{qual:Str}{func:Option Addr}{code:Value}{builtins:Addr}{Q:Env→Shared→Prop}
  (hk:scope.kind=.function) (tk:1≤s.toks∨∃ x v r,binds=(x,v)::r∧scope.names.lookup x=some .local)
  (hkind:∀ x∈binds,scope.names.lookup x.1=some .local∨(scope.names.lookup x.1=some .cell∧((cellsFrom (s.heap.objs.size+1) scope.names []).lookup x.1).isSome=true))
  (hQ:∀ env,env=newEnv scope s.heap.objs.size globals (cellsFrom (s.heap.objs.size+1) scope.names []) qual func code none builtins→
   ∀ s',InCallC s env.locals (bindL env.kindOf binds fun _=>none) env.cells (bindC env.kindOf binds fun _=>none) s'→1≤s'.toks→Q env s'):
  wpAny M A (newFunctionEnv scope globals [] binds qual func code none builtins) Q E s:=by
 rcases tk with tk|⟨x,v,r,rfl,hx⟩
 ·exact wpAny_with_toks tk (wpAny_newFunctionEnv_cells hk hkind fun env he s' x t=>hQ env he s' x t)
 simp only[newFunctionEnv,Option.isSome_none,Bool.false_eq_true,if_false]
 refine wpAny_bind (wpAny_alloc ?_)
 refine wpAny_bind (wpAny_layCells _ (fun name kind cells=>by cases hkc:kind==NameKind.cell<;>simp[hkc]) _ _ _ _ ?_)
 have ok:=cellsFrom_ok scope.names (s.heap.push { cls:=.type "frame",data:=.dict #[] }) (s.heap.objs.size+1) [] ⟨fun _ _ hm=>(nomatch hm),List.Pairwise.nil⟩ (by rw[Heap.size_push];exact Nat.le_refl _)
 rw[Heap.size_push] at ok
 rw[show({ s with heap:=s.heap.push { cls:=.type "frame",data:=.dict #[] } }:Shared).heap.objs.size=s.heap.objs.size+1 from Heap.size_push ..]
 have x0:InCallC s s.heap.objs.size (fun _=>none) (cellsFrom (s.heap.objs.size+1) scope.names []) (fun _=>none) { s with heap:=pushCells (s.heap.push { cls:=.type "frame",data:=.dict #[] }) scope.names }:=
  ⟨⟨⟨_,_,rfl⟩,(Heap.Ns.new s.heap (.type "frame")).keeps (pushCells_keeps _ _),fun b o e=>pushCells_keeps _ _ b o (Heap.get?_push_of_some _ e),Nat.le_refl _⟩,
   fun n c hc=>(ok.empty n c (mem_of_lookup hc)).1,ok.apart,fun n c hm=>(ok.empty n c hm).2⟩
 refine wpAny_bind ?_
 rw[List.forIn_cons]
 refine wpAny_bind (wpAny_bind (G9 (env:=newEnv scope s.heap.objs.size globals (cellsFrom (s.heap.objs.size+1) scope.names []) qual func code none builtins) x0 hk hx fun s' x' t'=>wpAny_pure ?_))
 refine wpAny_with_toks t' (wpAny_bindParams (s₀:=s) (env:=newEnv scope s.heap.objs.size globals (cellsFrom (s.heap.objs.size+1) scope.names []) qual func code none builtins) _ (fun _ _ _=>rfl) hk r _ _ _ _ x' (fun y hy=>hkind y (List.mem_cons_of_mem _ hy)) fun s'' x''=>fun ht=>wpAny_pure (hQ _ rfl s'' ?_ ht))
 have hx':(newEnv scope s.heap.objs.size globals (cellsFrom (s.heap.objs.size+1) scope.names []) qual func code none builtins).kindOf x=some .local:=hx
 unfold bindL bindC
 rw[if_pos hx',if_pos hx']
 exact x''
theorem jn(F:eQ T prog w cls B m mb K){fn:Fn}{a:Addr}{as:List Value}{R:Result→Shared→Prop}(hf:pi B a fn)(hr:A.depth < 1000)
  (S:St prog w cls B G μ H s.heap) (tk:1≤s.toks∨(as≠[]∧∃ x ps,fn.params=x::ps∧fn.scope.names.lookup x=some .local)) (q1:as.length≤fn.params.length) (q2:fn.params.length≤as.length+fn.dflts.length)
  (body:∀ ds:List Value,aW prog w cls G μ ds fn.dflts→∀ env h1 tk1,u7 prog w cls B G μ s fn (as++ds.drop (as.length+fn.dflts.length - fn.params.length)) env h1→1≤tk1→
   ∀ E':Value→Shared→Prop,wpAny (model prog w) (A.deeper env) (execs fn.body env) (fun fl s'=>R (.ok (.ret (match fl with|.ret v=>v|_=>.none))) s') E' { s with heap:=h1,toks:=tk1 }):
  codeAny (model prog w) A (.call (.ref a) ⟨as,[]⟩) R s:=by
 obtain⟨o,fd,ho,hd,hbody,hsc,hgl,hcl,hbi,hcd,p1,p2,p3,p4,p5,hdf⟩:=hf.it
 have keepB:Le B s.heap:=S.base.trans S.keep
 obtain⟨cc,oc,cvs,tq,hc1,hc2,hc3,hc4⟩:=hcd
 have hcd':s.heap.CodeRec fd.code fd.qualname:=⟨cc,oc,cvs,tq,hc1,keepB _ _ hc2,hc3,hc4⟩
 refine(codeAny_call_function (by unfold recursionLimit;exact hr) (keepB _ _ ho) hd (by rw[hsc];exact hf.co) (by rw[hsc];exact hf.gen) hbody hcd' ?_)
 have inner:∀ ds:List Value,aW prog w cls G μ ds fn.dflts→
   wpAny (model prog w) A.in1 (newFunctionEnv fd.scope fd.globals fd.closure (fn.params.zip (as++ds.drop (as.length+fn.dflts.length - fn.params.length))) (fd.qualname++".<locals>.") (some a) fd.code none fd.builtins)
    (fun env s₂=>s₂.heap.NoLimit∧codeAny (model prog w) A (.func fn.body env) R s₂) (fun e s'=>R (.error e) s') s:=by
  intro ds rd
  rw[hcl,hgl,hbi,hsc]
  have hdl:=rd.length
  generalize hus:as++ds.drop (as.length+fn.dflts.length - fn.params.length)=us
  have hul:us.length=fn.params.length:=by rw[←hus];simp;omega
  have hkeys:(fn.params.zip us).map (·.1)=fn.params:=aW.zipKeys (by omega)
  have hmem:∀ x∈fn.params.zip us,x.1∈fn.params:=fun x hx=>by rw[←hkeys];exact List.mem_map_of_mem hx
  have tk':1≤s.toks∨∃ x v r,fn.params.zip us=(x,v)::r∧fn.scope.names.lookup x=some .local:=by
   rcases tk with tk|⟨h1,x,ps,h2,h3⟩
   ·exact .inl tk
   ·cases as with
    |nil=>exact absurd rfl h1
    |cons v as=>exact .inr ⟨x,v,_,by rw[h2,←hus];rfl,h3⟩
  refine yB hf.kind tk' (fun x hx=>?_) fun env he s1 x t1=>?_
  ·rcases hf.loc _ (hmem x hx) with h|h
   ·exact .inl h
   ·exact .inr ⟨h,dw _ _ _ _ (.inl (mem_of_lookup h))⟩
  ·obtain⟨h1,tk1,rfl,hk⟩:=x.done
   have nlim:h1.NoLimit:=(F.nolim.keeps keepB).keeps hk
   refine⟨nlim,codeAny_func ?_⟩
   have hL:env.locals=s.heap.objs.size:=by rw[he];rfl
   have hC:env.cells=cellsFrom (s.heap.objs.size+1) fn.scope.names []:=by rw[he];rfl
   have hS:env.scope=fn.scope:=by rw[he];rfl
   have hK:∀ y,env.kindOf y=fn.scope.names.lookup y:=fun y=>by unfold Env.kindOf;rw[hS]
   have dead:∀ b,s.heap.objs.size≤b→s.heap.get? b=none:=fun b hb=>by
    cases z:s.heap.get? b with
    |none=>rfl
    |some o=>exact absurd (aK z) (Nat.not_lt.mpr hb)
   have offμ:∀ b,s.heap.objs.size≤b→b∉μ:=fun b hb hm=>absurd (S.lt hm) (Nat.not_lt.mpr hb)
   have offG:∀ b,s.heap.objs.size≤b→G.get? b=none:=fun b hb=>by
    cases z:G.get? b with
    |none=>rfl
    |some o=>exact absurd (aK (S.keep _ _ z)) (Nat.not_lt.mpr hb)
   have above:∀ p∈env.cells,s.heap.objs.size+1≤p.2:=fun p hp=>by have:=x.above p.1 p.2 hp;rw[hL] at this;exact this
   have nodup:((fn.params.zip us).map (·.1)).Nodup:=by rw[hkeys];exact hf.nd
   have ent:u7 prog w cls B G μ s fn us env h1:=by
    refine⟨hS,hk,fun ρ hρ=>?_,⟨_,x.toInCall.ns,fun y u hu hk'=>qA nodup hu hk'⟩,fun b hb=>?_,fun b hb=>?_⟩
    ·refine⟨by rw[hS];exact hf.kind,by rw[he];rfl,by rw[he];rfl,⟨_,x.toInCall.ns,fun y z hy hk'=>?_⟩,fun y z hy hk'=>?_,fun y hk'=>?_,?_,fun p hp=>?_,fun p hp q hq e=>?_⟩
     ·obtain⟨u,hu,ru'⟩:=hρ y z hy
      exact⟨u,qA nodup hu hk',ru'⟩
     ·obtain⟨u,hu,ru'⟩:=hρ y z hy
      have hkc:env.kindOf y=some .cell:=by
       rcases hk' with h|h
       ·exact h
       ·have hm:y∈fn.params:=by rw[←hkeys];exact List.mem_map_of_mem (mem_of_lookup hu)
        rw[hK] at h
        rcases hf.loc y hm with h2|h2<;>rw[h2] at h<;>cases h
      have hs:(env.cells.lookup y).isSome=true:=by
       rw[hC];rw[hK] at hkc;exact dw _ _ _ _ (.inl (mem_of_lookup hkc))
      obtain⟨cA,hcA⟩:=Option.isSome_iff_exists.mp hs
      have:=x.cell y cA hcA
      rw[xJ nodup hu hkc] at this
      exact⟨cA,u,hcA,this,ru'⟩
     ·have hs:(env.cells.lookup y).isSome=true:=by
       rw[hC];rw[hK] at hk';exact dw _ _ _ _ (.inl (mem_of_lookup hk'))
      obtain⟨cA,hcA⟩:=Option.isSome_iff_exists.mp hs
      exact⟨cA,_,hcA,x.cell y cA hcA⟩
     ·rw[hL];exact⟨offμ _ (Nat.le_refl _),offG _ (Nat.le_refl _)⟩
     ·have hb:=above p hp
      refine⟨offμ _ (by omega),offG _ (by omega),by rw[hL];exact(Nat.ne_of_lt (Nat.lt_of_succ_le hb)).symm,?_⟩
      have hnd:(env.cells.map (·.1)).Nodup:=by rw[hC];exact jz _ _ _ (by simpa using hf.names)
      obtain⟨oc,hoc,_⟩:=x.cell p.1 p.2 (lookup_of_mem_nodup hnd hp)
      show h1.get? p.2≠none
      rw[hoc];simp
     ·exact name_of_addr x.apart hp (e▸hq)
    ·rcases List.mem_cons.mp hb with rfl|hb
     ·rw[hL];exact dead _ (Nat.le_refl _)
     ·obtain⟨p,hp,rfl⟩:=List.mem_map.mp hb
      have:=above p hp
      exact dead _ (by omega)
    ·rcases List.mem_cons.mp hb with rfl|hb
     ·rw[hL];exact dead _ (Nat.le_refl _)
     ·obtain⟨p,hp,rfl⟩:=List.mem_map.mp hb
      have:=above p (List.mem_filter.mp hp).1
      exact dead _ (by omega)
   have hb:=body ds rd env h1 tk1 (hus▸ent) t1
   exact wpAny_mono (hb _) (fun fl s2 y=>y) fun _ _ h=>h
 obtain⟨k,hk,hk2⟩:=rX (pos:=as) p1 p2 p3 p4 p5 hf.nd q1
 rw[hk]
 rcases hdf with⟨hd0,hdn⟩|⟨t,dvs,hdt,htup,hrep⟩
 ·rw[hdn]
  refine wpAny_bind (wpAny_of_eq (a:=none) rfl ?_)
  rw[hk2 none (by simp) (by rw[hd0] at q2;simpa using q2)]
  have:=inner [] (by rw[hd0];exact .nil)
  refine wpAny_pure ?_
  have e0:∀ k:Nat,((none:Option (Array Value)).getD #[]).toList.drop k=([]:List Value).drop k:=fun k=>rfl
  have e1:∀ k:Nat,as++([]:List Value).drop k=as:=fun k=>by rw[List.drop_nil,List.append_nil]
  rw[e0,e1]
  rw[e1] at this
  exact this
 ·obtain⟨ot,hot,hct,nt,hdt'⟩:=htup
  have hdl:=(hrep prog w cls []).length
  rw[hdt]
  refine wpAny_bind (wpAny_seqItems (keepB _ _ hot) hdt' ?_)
  have:=hf.dl
  rw[hk2 (some dvs.toArray) (by simp;omega) (by simp;omega)]
  have:=inner dvs ((hrep prog w cls []).mono S.base ⟨μ,rfl⟩)
  refine wpAny_pure ?_
  simp only[Option.getD_some]
  rw[hdl]
  exact this
theorem DZ(F:eQ T prog w cls B m mb K){fn:Fn}{a:Addr}{as:List Value}{Q:Value→Shared→Prop}(hf:pi B a fn)(hr:A.depth < 1000)
  (S:St prog w cls B G μ H s.heap) (tk:1≤s.toks) (q1:as.length≤fn.params.length) (q2:fn.params.length≤as.length+fn.dflts.length)
  (body:∀ ds:List Value,aW prog w cls G μ ds fn.dflts→∀ env h1 tk1,u7 prog w cls B G μ s fn (as++ds.drop (as.length+fn.dflts.length - fn.params.length)) env h1→1≤tk1→
   ∀ E':Value→Shared→Prop,wpAny (model prog w) (A.deeper env) (execs fn.body env) (fun fl s'=>Q (match fl with|.ret v=>v|_=>.none) s') E' { s with heap:=h1,toks:=tk1 }):
  wpAny (model prog w) A (PySem.call (.ref a) as) Q E s:=wpAny_call (jn F hf hr S (.inl tk) q1 q2 body)
theorem iP{ps:List Str}{ds vs:List MV}{bs:List (Str×MV)}(e:pE ps ds vs=some bs):vs.length≤ps.length∧ps.length≤vs.length+ds.length∧bs=ps.zip (vs++ds.drop (vs.length+ds.length - ps.length)):=by
 unfold pE at e
 cases q:Nat.ble vs.length ps.length&&Nat.ble ps.length (vs.length+ds.length) with
 |false=>rw[q] at e;cases e
 |true=>
  rw[q] at e
  cases e
  obtain⟨q1,q2⟩:=Bool.and_eq_true_iff.mp q
  exact⟨Nat.le_of_ble_eq_true q1,Nat.le_of_ble_eq_true q2,rfl⟩
theorem wB(F:eQ T prog w cls B m mb K)(ih:gT T prog w cls B n){fn:Fn}{a:Addr}{vs:List MV}{as:List Value}{v:MV}(e0:fE (aQ T n) fn vs H=some (v,H'))(hf:pi B a fn)(hr:bA A (n+1))
  (S:St prog w cls B G μ H s.heap) (tk:1≤s.toks) (rs:aW prog w cls G μ as vs):wpAny (model prog w) A (PySem.call (.ref a) as) (bf prog w cls B [] G μ s H' v) E s:=by
 obtain⟨bs,H1,e1,e⟩:=ag e0
 clear e0
 obtain⟨e2,rfl⟩:=bB e1
 clear e1
 obtain⟨q1,q2,rfl⟩:=iP e2
 have hlen:=rs.length
 refine DZ F hf (by have:=hr.2.1;omega) S tk (by omega) (by omega) fun ds rd env h1 tk1 ent t1 E'=>?_
 have ru:=rs.append (rd.drop (vs.length+fn.dflts.length - fn.params.length))
 rw[←hlen] at ru
 have V:=ent.V (frame fn.scope (fn.params.zip (vs++fn.dflts.drop (vs.length+fn.dflts.length - fn.params.length)))) fun y z hy=>by
  rw[←hlen] at hy
  exact vv ru y z (ii hf.names hy)
 have I1:cB prog w cls B ⟨fn.scope,frame fn.scope (fn.params.zip (vs++fn.dflts.drop (vs.length+fn.dflts.length - fn.params.length)))⟩ env G μ H1 { s with heap:=h1,toks:=tk1 }:=
  ⟨S.grow ent.le,V,nL ent.scope,t1⟩
 refine wpAny_mono (ih.ex e (A:=A.deeper env) ⟨hr.1,by have:=hr.2.1;show A.depth+1+4 * n < 1000;omega,by have:=hr.2.2;show A.units+3+10 * n+80 < 9900;omega⟩ I1) (fun fl s2 y=>?_) fun _ _ h=>h
 rcases y with⟨r,rfl,hp⟩|⟨rfl,ρ',H2,G2,μ2,ek,n2,I2⟩
 ·exact np (cS ent.le) hp fun b hb=>.inr (ent.fresh b hb)
 ·cases ek
  exact⟨G2,μ2,(cS (P:=[]) ent.le).trans' n2 fun b hb=>.inr (ent.fresh b hb),I2.S,.none⟩
end
section
variable{M:Model}{A:Around}{E:Value→Shared→Prop}{s:Shared}
theorem dO{f:Value}{args:List (Bool×Sem Value)}{Q:Args→Shared→Prop}(hp:args.any (·.1)=false)(h:wpAny M A (spliced args) (fun vs s'=>Q ⟨vs,[]⟩ s') E s):wpAny M A (evalArgs f true args []) Q E s:=by
 cases args with
 |nil=>
  unfold evalArgs
  show wpAny M A (spliced [] >>=_) Q E s
  refine wpAny_bind (wpAny_mono h (fun vs s1 hq=>?_) fun _ _ e=>e)
  refine wpAny_bind (wpAny_pure ?_)
  refine wpAny_holding ?_
  exact wpAny_bind (wpAny_pure (wpAny_bind (wpAny_pure (wpAny_pure hq))))
 |cons p rest=>
  obtain⟨b,t⟩:=p
  cases b with
  |true=>simp at hp
  |false=>exact evalArgs_plain h
end
section
variable{prog:Program}{w:World}{cls:Str→Option Addr}{B G G':Heap}{μ μ':List Addr}{H H':Hp}{s s':Shared}{A:Around}{E:Value→Shared→Prop}
variable{T:gI}{m mb:Str→Option Value}{K:Frag}{n:Nat}{c:Cx}{env:Env}
structure mX(prog:Program)(w:World)(cls:Str→Option Addr)(G:Heap)(μ:List Addr)(h:Heap)(x dx C:Addr)(fs:List (Str×MV)):Prop where
 ox:h.get? x=some (instObj C dx)
 od:∃ kvs,h.DictOf (PySem.strKind prog w) dx kvs∧fq prog w cls G μ kvs fs
 xμ:x∉μ
 xG:G.get? x=none
 dμ:dx∉μ
 dG:G.get? dx=none
 ne:x≠dx
theorem AL{es:List DictEntry}{kvs:List (Str×Value)}(h:Pairs (PySem.strKind prog w) es kvs)(hn:(kvs.map (·.1)).Nodup){a:Str}{hsh:Int}{tk:Tok}{v:Value}:
  Pairs (PySem.strKind prog w) (putL a hsh (.str a tk) v es) (stored kvs a v):=by
 induction h with
 |nil=>exact .cons (by simp[PySem.strKind,Value.isStrOf]) rfl .nil
 |@cons e kv es kvs h1 h2 h3 ih=>
  obtain⟨t,ht⟩:=Value.isStrOf_shape h1
  rw[fV _ _ _ _ hn]
  unfold putL
  by_cases hk:kv.1=a
  ·have:e.key.isStr a=true:=by rw[ht];simp[Value.isStr,hk]
   rw[if_pos this,if_pos hk]
   exact .cons h1 rfl h3
  ·have:¬ e.key.isStr a=true:=by rw[ht];simp[Value.isStr,hk]
   rw[if_neg this,if_neg hk]
   exact .cons h1 h2 (ih (List.nodup_cons.mp hn).2)
theorem DC{es:List DictEntry}{a:Str}{tk:Tok}{v:Value}(h:∀ e∈es,∃ k,(PySem.strKind prog w).is k e.key=true∧e.hash=(PySem.strKind prog w).hash k):
  ∀ e∈putL a (PyData.keyHash w.params a) (.str a tk) v es,∃ k,(PySem.strKind prog w).is k e.key=true∧e.hash=(PySem.strKind prog w).hash k:=by
 induction es with
 |nil=>
  intro e he
  rw[List.mem_singleton.mp he]
  exact⟨a,by simp[PySem.strKind,Value.isStrOf],rfl⟩
 |cons d es ih=>
  intro e he
  unfold putL at he
  split at he
  ·rcases List.mem_cons.mp he with rfl|he
   ·exact h d (.head _)
   ·exact h e (.tail _ he)
  ·rcases List.mem_cons.mp he with rfl|he
   ·exact h e (.head _)
   ·exact ih (fun e he=>h e (.tail _ he)) e he
theorem wP{kvs:List (Str×Value)}(hn:(kvs.map (·.1)).Nodup){a:Str}{v:Value}:((stored kvs a v).map (·.1)).Nodup∧∀ x∈(stored kvs a v).map (·.1),x=a∨x∈kvs.map (·.1):=by
 induction kvs with
 |nil=>exact⟨by simp[stored],fun x hx=>by simp[stored] at hx;exact .inl hx⟩
 |cons p kvs ih=>
  rw[fV _ _ _ _ hn]
  obtain⟨h1,h2⟩:=List.nodup_cons.mp hn
  obtain⟨i1,i2⟩:=ih h2
  by_cases hk:p.1=a
  ·rw[if_pos hk]
   exact⟨List.nodup_cons.mpr ⟨h1,h2⟩,fun x hx=>.inr hx⟩
  ·rw[if_neg hk]
   refine⟨List.nodup_cons.mpr ⟨fun hm=>?_,i1⟩,fun x hx=>?_⟩
   ·rcases i2 _ hm with z|z
    ·exact hk z
    ·exact h1 z
   ·rcases List.mem_cons.mp hx with rfl|hx
    ·exact .inr (.head _)
    ·exact(i2 x hx).imp id fun z=>.tail _ z
theorem zP{kvs:List (Str×Value)}(hn:(kvs.map (·.1)).Nodup){a:Str}{v:Value}:(stored kvs a v).length≤kvs.length+1:=by
 unfold stored
 split<;>simp
theorem xq(X:K.In s.heap){x dx C:Addr}{fs:List (Str×MV)}{fn:Fn}(ck:FZ K C)(kk:wX K B C fn)(hh:mX prog w cls G μ s.heap x dx C fs){a:Str}(ha:a∈cN)(hz:fs.length≤100){v:Value}{y:MV}(rv:bX prog w cls G μ v y):
  wpAny (model prog w) A (setAttr (.ref x) a v) (fun _ s'=>∃ h' tk,s'={ s with heap:=h',toks:=tk }∧Heap.SameBut dx s.heap h'∧h'.get? dx≠none∧mX prog w cls G μ h' x dx C (put a y fs)) E s:=by
 obtain⟨hx,⟨kvs,hd,rs⟩,h1,h2,h3,h4,hne⟩:=hh
 obtain⟨⟨oc,odi,dat,osl⟩,es,ep,ho,⟨k1,k2,k3⟩,hdat,hkeys,hpairs,hnd⟩:=hd
 dsimp only at k1 k2 k3 hdat
 subst k1 k2 k3 hdat
 have hl:lookIn a { cls:=.type "dict",dict:=none,data:=.dict es ep,slots:=#[] }≠none:=by
  unfold lookIn
  dsimp only
  split
  ·simp
  ·have:es.toList.any (·.refKey)=false:=by
    rw[List.any_eq_false]
    intro e he
    obtain⟨k,hk,_⟩:=hkeys e (Array.mem_def.mpr he)
    obtain⟨t,ht⟩:=Value.isStrOf_shape hk
    unfold DictEntry.refKey
    rw[ht];simp
   rw[this];simp
 have I:InstAt s.heap x (instObj C dx) C (some { cls:=.type "dict",dict:=none,data:=.dict es ep,slots:=#[] }):=⟨hx,rfl,rfl,ho⟩
 have ht:takerIn K C a=some none:=by unfold takerIn;rw[ck.fields a ha];rfl
 refine set_plain X I kk.set ?_
 have X':K.In ({ s with toks:=s.toks+1 }:Shared).heap:=X
 refine osa_open (s:={ s with toks:=s.toks+1 }) X' I kk.over ht fun b=>?_
 obtain⟨cd,hc,hd'⟩:=ck.cd
 refine wpAny_bind (wpAny_pure (wpAny_bind (wpAny_bind (wpAny_loadPart hx (wpAny_bind ((looks_clsIn X' hc).here ?_))))))
 rw[hd']
 refine wpAny_pure (a:=some dx) (wpAny_bind (wpAny_pure (wpAny_bind ?_)))
 unfold nsSet
 refine wpAny_bind (wpAny_bind (wpAny_askSetting (wpAny_pure (wpAny_bind (wpAny_mkText (wpAny_bind (wpAny_loadPart ho ?_)))))))
 dsimp only
 have cc:(!es.any (·.key.isStr a)&&es.any (·.refKey))=false:=by
  rw[←Array.any_toList,←Array.any_toList]
  unfold lookIn at hl
  dsimp only at hl
  split at hl
  ·rename_i en he
   rw[List.any_eq_true.mpr ⟨en,List.mem_of_find?_eq_some he,List.find?_some he⟩];rfl
  ·split at hl
   ·exact absurd rfl hl
   ·rename_i z;rw[Bool.not_eq_true] at z;rw[z,Bool.and_false]
 rw[aRefKeyMayBeTheName_at,cc]
 refine wpAny_updatePart ho ?_
 have e1:Obj.putName a (PyData.keyHash w.params a) (.str a (s.toks+1)) v { cls:=.type "dict",dict:=none,data:=.dict es ep,slots:=#[] }=dictOf (putL a (PyData.keyHash w.params a) (.str a (s.toks+1)) v es.toList) (putN a es.toList ep):=by
  rw[←putName_dict]
 have hg:(s.heap.update dx (Obj.putName a (PyData.keyHash w.params a) (.str a (s.toks+1)) v)).get? dx=some (dictOf (putL a (PyData.keyHash w.params a) (.str a (s.toks+1)) v es.toList) (putN a es.toList ep)):=by
  rw[Heap.get?_update_self _ ho (by rw[e1];rfl),e1]
 have hp':=AL (hsh:=PyData.keyHash w.params a) (tk:=s.toks+1) (v:=v) hpairs hnd (a:=a)
 have hlen:(putL a (PyData.keyHash w.params a) (.str a (s.toks+1)) v es.toList).length≤101:=by
  have q1:(putL a (PyData.keyHash w.params a) (.str a (s.toks+1)) v es.toList).length=(stored kvs a v).length:=by
   generalize putL a (PyData.keyHash w.params a) (.str a (s.toks+1)) v es.toList=l at hp'
   generalize stored kvs a v=r at hp'
   induction hp' with
   |nil=>rfl
   |cons _ _ _ ih=>simp[ih]
  have q2:=zP hnd (a:=a) (v:=v)
  have q3:=rs.len
  omega
 refine wpAny_bind (wpAny_lookBehind hg (by exact pastItsLine_dict (by rw[List.size_toArray,sizeLine_eq];omega)) ?_)
 have sb:Heap.SameBut dx s.heap (s.heap.update dx (Obj.putName a (PyData.keyHash w.params a) (.str a (s.toks+1)) v)):=Heap.SameBut.update ..
 refine wpAny_pure ⟨s.heap.update dx (Obj.putName a (PyData.keyHash w.params a) (.str a (s.toks+1)) v),s.toks+1+1,rfl,sb,by rw[hg];simp,?_⟩
 refine⟨(sb.2 x hne).trans hx,⟨_,⟨_,_,_,hg,⟨rfl,rfl,rfl⟩,rfl,?_,by simpa using hp',(wP hnd).1⟩,rs.put hnd rv⟩,h1,h2,h3,h4,hne⟩
 intro e he
 exact DC (fun e he=>hkeys e (Array.mem_def.mpr he)) e (by simpa using he)
end
section
variable{prog:Program}{w:World}{cls:Str→Option Addr}{B G G':Heap}{μ μ':List Addr}{H H':Hp}{s s':Shared}{A:Around}{E:Value→Shared→Prop}
variable{T:gI}{m mb:Str→Option Value}{K:Frag}{n:Nat}{c:Cx}{env:Env}{x dx C:Addr}{fs fs':List (Str×MV)}{self:Str}
theorem mX.next(h:mX prog w cls G μ s.heap x dx C fs)(k:Nx [] G μ s G' μ' s'):mX prog w cls G' μ' s'.heap x dx C fs:=by
 obtain⟨hx,⟨kvs,hd,rs⟩,h1,h2,h3,h4,hne⟩:=h
 obtain⟨o,es,ep,ho,r⟩:=hd
 have lx:s.heap.get? x≠none:=by rw[hx];simp
 have ld:s.heap.get? dx≠none:=by rw[ho];simp
 have off:∀ b,b∉μ→s.heap.get? b≠none→b∉μ':=fun b hb hl q=>(k.newμ b q).elim hb hl
 have offG:∀ b,G.get? b=none→s.heap.get? b≠none→G'.get? b=none:=fun b hb hl=>by
  cases q:G'.get? b with
  |none=>rfl
  |some o=>exact((k.newG b (by rw[q];simp)).elim (fun z=>absurd hb z) fun z=>absurd z hl)
 exact⟨k.keeps _ _ hx h1 (by simp),⟨kvs,⟨o,es,ep,k.keeps _ _ ho h3 (by simp),r⟩,rs.mono k.sub k.pre⟩,off _ h1 lx,offG _ h2 lx,off _ h3 ld,offG _ h4 ld,hne⟩
structure dm(s:Shared)(env:Env)(me:Str)(x dx:Addr):Prop where
 kind:env.kindOf me=some .local
 ns:∃ f,s.heap.Ns env.locals f∧f me=some (.ref x)
 off:dx∉priv env
theorem dm.next(h:dm s env self x dx)(k:Nx [] G μ s G' μ' s')(hp:env.locals∉μ):dm s' env self x dx:=by
 obtain⟨f,⟨o,es,ep,ho,r⟩,hf⟩:=h.ns
 exact⟨h.kind,⟨f,⟨o,es,ep,k.keeps _ _ ho hp (by simp),r⟩,hf⟩,h.off⟩
theorem dm.but(h:dm s env self x dx){h':Heap}{tk:Nat}(hs:Heap.SameBut dx s.heap h'):dm { s with heap:=h',toks:=tk } env self x dx:=by
 obtain⟨f,⟨o,es,ep,ho,r⟩,hf⟩:=h.ns
 exact⟨h.kind,⟨f,⟨o,es,ep,(hs.2 _ fun z=>h.off (z▸List.mem_cons_self)).trans ho,r⟩,hf⟩,h.off⟩
theorem dV.but{ρ:Ev}{h h':Heap}{d:Addr}(V:dV prog w cls G μ h env ρ)(hs:Heap.SameBut d h h')(hl:h'.get? d≠none)(hp:d∉priv env):dV prog w cls G μ h' env ρ:=by
 have ne:∀ p∈env.cells,p.2≠d:=fun p hq z=>hp (List.mem_cons_of_mem _ (List.mem_map.mpr ⟨p,hq,z⟩))
 have nl:env.locals≠d:=fun z=>hp (z▸List.mem_cons_self)
 refine⟨V.kind,V.glob,V.bi,?_,fun y v h1 h2=>?_,fun y h1=>?_,V.privL,fun p hq=>?_,V.inj⟩
 ·obtain⟨f,⟨o,es,ep,ho,r⟩,q⟩:=V.ns
  exact⟨f,⟨o,es,ep,(hs.2 _ nl).trans ho,r⟩,q⟩
 ·obtain⟨a,u,h3,⟨o,ho,hd⟩,h5⟩:=V.cell y v h1 h2
  exact⟨a,u,h3,⟨o,(hs.2 _ (ne _ (mem_of_lookup h3))).trans ho,hd⟩,h5⟩
 ·obtain⟨a,u,h3,⟨o,ho,hd⟩⟩:=V.isCell y h1
  exact⟨a,u,h3,⟨o,(hs.2 _ (ne _ (mem_of_lookup h3))).trans ho,hd⟩⟩
 ·obtain⟨h1,h2,h3,h4⟩:=V.privC p hq
  exact⟨h1,h2,h3,ej hs hl _ h4⟩
def jp(prog:Program)(w:World)(cls:Str→Option Addr)(B G:Heap)(μ:List Addr)(s:Shared)(H':Hp)(x dx C:Addr)(fs:List (Str×MV))(s':Shared):Prop:=
 ∃ G' μ',Nx [dx] G μ s G' μ' s'∧St prog w cls B G' μ' H' s'.heap∧mX prog w cls G' μ' s'.heap x dx C fs
theorem jp.lift{s'':Shared}(k:Nx [dx] G μ s G' μ' s')(h:jp prog w cls B G' μ' s' H x dx C fs s''):jp prog w cls B G μ s H x dx C fs s'':=by
 obtain⟨G'',μ'',n,S,q⟩:=h
 exact⟨G'',μ'',k.trans n,S,q⟩
theorem BF{p:Pos}{Q:Value→Shared→Prop}(hk:env.scope.kind=.function)(h:dm s env self x dx)(hn:ci self=true)(q:Q (.ref x) s):wpAny (model prog w) A (eval (.Name self p) env) Q E s:=by
 obtain⟨f,hns,hf⟩:=h.ns
 exact wpAny_Name (wpAny_loadName_local hk h.kind hns hf q) (cV hn)
theorem jx(F:eQ T prog w cls B m mb K)(ih:gT T prog w cls B n)(hr:bA A n){fn:Fn}(ck:FZ K C)(kk:wX K B C fn):∀ {ss:List Stmt} {fs fs':List (Str×MV)} {G:Heap} {μ:List Addr} {H H':Hp} {s:Shared},
  cK (aQ T n) self c ss fs H=some (fs',H')→cB prog w cls B c env G μ H s→dm s env self x dx→mX prog w cls G μ s.heap x dx C fs→
  wpAny (model prog w) A (execs ss env) (fun fl s'=>fl=.next∧jp prog w cls B G μ s H' x dx C fs' s') E s:=by
 intro ss
 induction ss with
 |nil=>
  intro fs fs' G μ H H' s e I sa hh
  cases e
  exact wpAny_execs_nil ⟨rfl,G,μ,Nx.refl _ _ _ _,I.S,hh⟩
 |cons st ss ihs=>
  intro fs fs' G μ H H' s e I sa hh
  have hst:∃ s0 p0 a p1 ex p2,st=.Assign [.Attribute (.Name s0 p0) a p1] ex p2:=by
   cases st with
   |Assign ts ex p2=>
    cases ts with
    |nil=>cases e
    |cons t ts=>
     cases ts with
     |cons _ _=>cases t<;>first|(cases e;done)|(rename_i o _ _;cases o<;>cases e)
     |nil=>
      cases t with
      |Attribute o a p1=>
       cases o with
       |Name s0 p0=>exact⟨_,_,_,_,_,_,rfl⟩
       |_=>cases e
      |_=>cases e
   |_=>cases e
  obtain⟨s0,p0,a,p1,ex,p2,rfl⟩:=hst
  replace e:(bif s0==self&&ci self&&cN.contains a&&Nat.ble fs.length 100 then bnd ((aQ T n).ev c ex) fun v=>cK (aQ T n) self c ss (put a v fs) else fail) H=some (fs',H'):=e
  ·cases q:s0==self&&ci self&&cN.contains a&&Nat.ble fs.length 100 with
   |false=>rw[q] at e;cases e
   |true=>
    rw[q] at e
    simp only[Bool.and_eq_true] at q
    obtain⟨⟨⟨q1,q2⟩,q3⟩,q4⟩:=q
    have:=eq_of_beq q1
    subst this
    obtain⟨v,H1,e1,e⟩:=ag (show bnd ((aQ T n).ev c ex) (fun v=>cK (aQ T n) s0 c ss (put a v fs)) H=some (fs',H') from e)
    refine wpAny_execs_cons (plainObj_wpAny_Assign_Attribute (be (ih.ev e1 hr I) I.tk fun r s1 G1 μ1 n1 S1 r1 t1=>?_) (by cases ex<;>rfl))
    have sa1:=sa.next n1 I.V.privL.1
    have hh1:=hh.next n1
    have I1:=I.next n1 S1 t1
    refine BF I1.V.kind sa1 q2 ?_
    have X1:K.In s1.heap:=F.X.keeps (S1.base.trans S1.keep)
    refine wpAny_with_toks t1 (wpAny_mono (xq X1 ck kk hh1 (List.contains_iff_mem.mp q3) (Nat.le_of_ble_eq_true q4) r1) (fun _ s2 y t2=>?_) fun _ _ h _=>h)
    obtain⟨h2,tk2,rfl,sb,hl,hh2⟩:=y
    have n2:Nx [dx] G1 μ1 s1 G1 μ1 { s1 with heap:=h2,toks:=tk2 }:=
     ⟨Le.refl _,⟨[],by simp⟩,fun b o e _ hb=>(sb.2 b fun z=>hb (by simp[z])).trans e,⟨_,_,rfl⟩,fun _ h=>.inl h,fun _ h=>.inl h,ej sb hl⟩
    have S2:St prog w cls B G1 μ1 H1 h2:=S1.other (fun b o e=>(sb.2 b fun z=>by rw[z,hh1.dG] at e;cases e).trans (S1.keep b o e)) fun b hb=>sb.2 b fun z=>hh1.dμ (z▸hb)
    have I2:cB prog w cls B c env G1 μ1 H1 { s1 with heap:=h2,toks:=tk2 }:=⟨S2,I1.V.but sb hl sa1.off,I1.se,t2⟩
    refine wpAny_mono (ihs e I2 (sa1.but sb) hh2) (fun fl s3 y=>⟨y.1,jp.lift ((n1.weaken fun _ h=>by cases h).trans n2) y.2⟩) fun _ _ h=>h
theorem s9(F:eQ T prog w cls B m mb K){fn:Fn}{fI:Addr}{go:Str→Cx→List Stmt→List (Str×MV)→M (List (Str×MV))}(hf:pi B fI fn)(hr:A.depth < 1000){vs:List MV}{as:List Value}{R:Result→Shared→Prop}
  (hgo:∀ {self:Str} {c:Cx} {env:Env} {s:Shared} {G:Heap} {μ:List Addr} {H:Hp} (E:Value→Shared→Prop),go self c fn.body fs H=some (fs',H')→cB prog w cls B c env G μ H s→dm s env self x dx→mX prog w cls G μ s.heap x dx C fs→
   wpAny (model prog w) (A.deeper env) (execs fn.body env) (fun fl s'=>fl=.next∧jp prog w cls B G μ s H' x dx C fs' s') E s)
  (e:lH go fn vs fs H=some (fs',H')) (S:St prog w cls B G μ H s.heap) (tk:1≤s.toks) (rs:aW prog w cls G μ as vs) (hh:mX prog w cls G μ s.heap x dx C fs)
  (hloc:∀ self ps,fn.params=self::ps→fn.scope.names.lookup self=some .local)
  (hR:∀ s',jp prog w cls B G μ s H' x dx C fs' s'→R (.ok (.ret .none)) s'):
  codeAny (model prog w) A (.call (.ref fI) ⟨.ref x::as,[]⟩) R s:=by
 unfold lH at e
 cases hps:fn.params with
 |nil=>rw[hps] at e;cases e
 |cons self ps=>
  rw[hps] at e
  obtain⟨bs,H1,e1,e⟩:=ag e
  obtain⟨e2,rfl⟩:=bB e1
  clear e1
  obtain⟨q1,q2,rfl⟩:=iP e2
  have hlen:=rs.length
  refine jn F hf hr S (.inl tk) (by rw[hps];simp;omega) (by rw[hps];simp;omega) fun ds rd env h1 tk1 ent t1 E'=>?_
  have ek:(Value.ref x::as).length+fn.dflts.length - fn.params.length=vs.length+fn.dflts.length - ps.length:=by rw[hps];simp;omega
  rw[ek] at ent
  have ru:=rs.append (rd.drop (vs.length+fn.dflts.length - ps.length))
  have hzip:fn.params.zip (Value.ref x::as++ds.drop (vs.length+fn.dflts.length - ps.length))=(self,.ref x)::ps.zip (as++ds.drop (vs.length+fn.dflts.length - ps.length)):=by rw[hps];rfl
  have hnd:=hf.nd
  rw[hps] at hnd
  obtain⟨hn1,hn2⟩:=List.nodup_cons.mp hnd
  have V:=ent.V (frame fn.scope (ps.zip (vs++fn.dflts.drop (vs.length+fn.dflts.length - ps.length)))) fun y z hy=>by
   obtain⟨u,hu,ru'⟩:=vv ru y z (ii hf.names hy)
   refine⟨u,?_,ru'⟩
   rw[hzip,List.lookup_cons]
   have hmem:y∈ps:=by
    have:=mem_of_lookup hu
    exact(List.of_mem_zip this).1
   have:(y==self)=false:=by simp;exact fun e=>hn1 (e▸hmem)
   rw[this];exact hu
  have hK:env.kindOf self=some .local:=by unfold Env.kindOf;rw[ent.scope];exact hloc self ps hps
  obtain⟨f,hns,hf2⟩:=ent.ns
  have sa:dm { s with heap:=h1,toks:=tk1 } env self x dx:=by
   refine⟨hK,⟨f,hns,hf2 self (.ref x) (by rw[hzip];simp[List.lookup_cons]) hK⟩,fun hm=>?_⟩
   have:=ent.priv _ hm
   obtain⟨kvs,⟨o,_,_,ho,_⟩,_⟩:=hh.od
   rw[ho] at this;cases this
  have I1:cB prog w cls B ⟨fn.scope,frame fn.scope (ps.zip (vs++fn.dflts.drop (vs.length+fn.dflts.length - ps.length)))⟩ env G μ H1 { s with heap:=h1,toks:=tk1 }:=
   ⟨S.grow ent.le,V,nL ent.scope,t1⟩
  have hh1:mX prog w cls G μ h1 x dx C fs:=hh.next (s':={ s with heap:=h1,toks:=tk1 }) (cS (P:=[]) ent.le)
  refine wpAny_mono (hgo E' e I1 sa hh1) (fun fl s2 y=>?_) fun _ _ h=>h
  obtain⟨rfl,y⟩:=y
  exact hR _ (jp.lift (cS ent.le) y)
end
theorem bA.deeper{A:Around}{n:Nat}(h:A.handled=none∧A.depth+1+4 * n < 1000∧A.units+3+10 * n+80 < 9900)(e:Env):bA (A.deeper e) n:=
 ⟨h.1,by have:=h.2.1;show A.depth+1+4 * n < 1000;omega,by have:=h.2.2;show A.units+3+10 * n+80 < 9900;omega⟩
section
variable{prog:Program}{w:World}{cls:Str→Option Addr}{B G G':Heap}{μ μ':List Addr}{H H':Hp}{s s':Shared}{A:Around}{E:Value→Shared→Prop}
variable{T:gI}{m mb:Str→Option Value}{K:Frag}{n:Nat}{c:Cx}{env:Env}{x dx C:Addr}{fs fs':List (Str×MV)}{self:Str}
theorem dV.nextP{P:List Addr}{env:Env}{ρ:Ev}(V:dV prog w cls G μ s.heap env ρ)(x:Nx P G μ s G' μ' s')(hP:∀ a∈P,a∉priv env):dV prog w cls G' μ' s'.heap env ρ:=by
 have up:∀ b,b∈priv env→b∉μ→∀ o,s.heap.get? b=some o→s'.heap.get? b=some o:=fun b hp hb o e=>x.keeps b o e hb fun z=>hP b z hp
 have cp:∀ c,(∃ y,env.cells.lookup y=some c)→c∈priv env:=fun c ⟨y,hy⟩=>List.mem_cons_of_mem _ (List.mem_map.mpr ⟨(y,c),mem_of_lookup hy,rfl⟩)
 have cup:∀ c u,(∃ y,env.cells.lookup y=some c)→s.heap.IsCell c u→s'.heap.IsCell c u:=fun c u hy ⟨o,ho,r⟩=>
  ⟨o,up c (cp c hy) (let ⟨y,hy⟩:=hy;(V.privC (y,c) (mem_of_lookup hy)).1) o ho,r⟩
 have gone:∀ a,G.get? a=none→s.heap.get? a≠none→G'.get? a=none:=fun a hg hl=>by
  cases q:G'.get? a with
  |none=>rfl
  |some o=>exact((x.newG a (by rw[q];simp)).elim (fun z=>absurd hg z) fun z=>absurd z hl)
 have off:∀ a,a∉μ→s.heap.get? a≠none→a∉μ':=fun a ha hl q=>(x.newμ a q).elim ha fun z=>absurd z hl
 have hL:s.heap.get? env.locals≠none:=by obtain⟨m,⟨o,_,_,ho,_⟩,_⟩:=V.ns;rw[ho];simp
 refine⟨V.kind,V.glob,V.bi,?_,?_,?_,⟨off _ V.privL.1 hL,gone _ V.privL.2 hL⟩,?_,V.inj⟩
 ·obtain⟨m,⟨o,es,ep,ho,r⟩,q⟩:=V.ns
  exact⟨m,⟨o,es,ep,up _ List.mem_cons_self V.privL.1 o ho,r⟩,fun y v h1 h2=>let ⟨u,h3,h4⟩:=q y v h1 h2;⟨u,h3,h4.mono x.sub x.pre⟩⟩
 ·intro y v h1 h2
  obtain⟨c,u,h3,h4,h5⟩:=V.cell y v h1 h2
  exact⟨c,u,h3,cup c _ ⟨y,h3⟩ h4,h5.mono x.sub x.pre⟩
 ·intro y h1
  obtain⟨c,u,h3,h4⟩:=V.isCell y h1
  exact⟨c,u,h3,cup c _ ⟨y,h3⟩ h4⟩
 ·intro p hp
  obtain⟨h1,h2,h3,h4⟩:=V.privC p hp
  exact⟨off _ h1 h4,gone _ h2 h4,h3,x.alive _ h4⟩
theorem dm.nextP{P:List Addr}(h:dm s env self x dx)(k:Nx P G μ s G' μ' s')(hp:env.locals∉μ)(hP:env.locals∉P):dm s' env self x dx:=by
 obtain⟨f,⟨o,es,ep,ho,r⟩,hf⟩:=h.ns
 exact⟨h.kind,⟨f,⟨o,es,ep,k.keeps _ _ ho hp hP,r⟩,hf⟩,h.off⟩
theorem Ik{as:List PySem.Expr}{q:Pos}(hp:(backTo q (starEach as env)).any (·.1)=false)(hl:as.length≤20):methodCallForm (as.length+([]:List Keyword).length) (backTo q (starEach as env)) (backToKw q (keywordEach [] env))=true:=by
 unfold methodCallForm
 have h1:(backTo q (starEach as env)).all (fun x=>!x.1)=true:=by
  rw[List.all_eq_true]
  intro y hy
  rw[List.any_eq_false] at hp
  simpa using hp y hy
 rw[h1]
 show(true&&true&&decide (as.length+0+0 < 30))=true
 rw[decide_eq_true (by omega)];rfl
theorem eA{o:PySem.Expr}{nm:Str}{ap q:Pos}{ov:Value}{as:List PySem.Expr}{Q:Value→Shared→Prop}(hp:(backTo q (starEach as env)).any (·.1)=false)(hl:as.length≤20)(hap:(ap.endLine==q.line)=true)
  (h:∀ pl,wpAny (model prog w) A (getMethod ov nm pl) (fun fx s2=>wpAny (model prog w) A (callWith q fx.1 fx.2 (backTo q (starEach as env)) []) Q E s2) E s):
  wpAny (model prog w) A (methodCall o nm ap q env ov (as.length+([]:List Keyword).length) (backTo q (starEach as env)) (backToKw q (keywordEach [] env))) Q E s:=by
 unfold methodCall
 rw[Ik hp hl]
 refine wpAny_bind (wpAny_holding (wpAny_mono (h _) (fun fx s2 hq=>?_) fun _ _ e=>e))
 have e1:methodCallPos true o env ap q=pure q:=by
  unfold methodCallPos
  rw[hap];rfl
 rw[e1]
 exact wpAny_bind (wpAny_pure hq)
theorem Cl(F:eQ T prog w cls B m mb K)(ih:gT T prog w cls B n)(hr:bA A n)(hr1:A.depth < 1000)(hr2:∀ e,bA (A.deeper e) n){fn:Fn}(ck:FZ K C)(kk:wX K B C fn){ss:List Stmt}
  (e:lJ T (aQ T n) self c ss fs H=some (fs',H')) (I:cB prog w cls B c env G μ H s) (sa:dm s env self x dx) (hh:mX prog w cls G μ s.heap x dx C fs):
  wpAny (model prog w) A (execs ss env) (fun fl s'=>fl=.next∧jp prog w cls B G μ s H' x dx C fs' s') E s:=by
 unfold lJ at e
 split at e
 ·rename_i b bp i ap s0 p0 as q p1 rest
  cases qq:s0==self&&i=="__init__"&&ez c b&&ci self&&ci b&&ap.endLine==q.line&&Nat.ble as.length 19 with
  |false=>rw[qq] at e;cases e
  |true=>
   rw[qq] at e
   simp only[Bool.and_eq_true] at qq
   obtain⟨⟨⟨⟨⟨⟨q1,q2⟩,q3⟩,q4⟩,q5⟩,q6⟩,q7⟩:=qq
   have:=eq_of_beq q1
   subst this
   have:=eq_of_beq q2
   subst this
   obtain⟨vs,H1,e1,e⟩:=ag (show bnd (sI (aQ T n) c as) _ H=some (fs',H') from e)
   cases hb:T.init b with
   |none=>rw[hb] at e;cases e
   |some fnb=>
    rw[hb] at e
    dsimp only at e
    obtain⟨fs1,H2,e2,e⟩:=ag e
    obtain⟨Cb,hm,hc,kb⟩:=F.init b fnb hb
    obtain⟨fI,kf,kt,kfn,kkp,kfc⟩:=kb.init
    refine wpAny_execs_cons (wpAny_Expr ?_ (by unfold interactive;rw[I.V.kind];rfl) rfl)
    rw[arm_eval_Call]
    refine wpAny_bind (uV rfl ?_)
    refine Name_function_global I.V.kind (eH q3 I.se) (loadGlobal_global (by rw[I.V.glob];exact I.S.ns F.g) hm ?_) (cV q5)
    refine wpAny_bind (wpAny_standAt ?_)
    have X1:K.In s.heap:=F.X.keeps (I.S.base.trans I.S.keep)
    have hpl:(backTo q (starEach (PySem.Expr.Name s0 p0::as) env)).any (·.1)=false:=by
     show(backTo q (starEach as env)).any (·.1)=false
     exact dv q (env:=env) e1
    refine eA hpl (Nat.succ_le_succ (Nat.le_of_ble_eq_true q7)) q6 fun pl=>?_
    refine method_cls X1 kb.ga (cls_value X1 kb.reads kfc rfl ?_)
    refine callWith_of (P:=K.In) (by rw[hpl];rfl) (keeps_K kkp) (dO hpl ?_)
    show wpAny _ _ (spliced ((false,eval (.Name s0 p0) env)::backTo q (starEach as env))) _ _ _
    have n0:Nx [] G μ s G μ { s with toks:=s.toks+1 }:=cS (h:=s.heap) (Le.refl _)
    have I0:cB prog w cls B c env G μ H { s with toks:=s.toks+1 }:=I.next n0 I.S (Nat.le_add_left _ _)
    have sa0:dm { s with toks:=s.toks+1 } env s0 x dx:=⟨sa.kind,sa.ns,sa.off⟩
    refine spliced_cons (BF I.V.kind sa0 q4 ?_)
    refine jA (gB ih hr e1 I0) I0.tk fun rs s1 G1 μ1 n01 S1 r1 t1=>?_
    have n1:=n0.trans n01
    refine⟨F.X.keeps (S1.base.trans S1.keep),?_⟩
    have hh1:=hh.next n1
    have I1:=I.next n1 S1 t1
    have sa1:=sa.next n1 I.V.privL.1
    have b1:wpAny (model prog w) A (PySem.call (.ref fI) (.ref x::rs)) (fun r s'=>r=.none∧jp prog w cls B G1 μ1 s1 H2 x dx C fs1 s') E s1:=
     wpAny_call (s9 F (go:=cK (aQ T n)) kfn hr1 (fun {self c env s G μ H} E' e I sa hh=>jx F ih (hr2 env) ck kk e I sa hh) e2 S1 t1 r1 hh1 kb.self fun s' hs=>⟨rfl,hs⟩)
    refine wpAny_with_toks t1 (wpAny_mono b1 (fun r s2 y t2=>?_) fun _ _ e _=>e)
    obtain⟨rfl,G2,μ2,n2,S2,hh2⟩:=y
    have hdx:∀ a∈[dx],a∉priv env:=fun a ha=>by rw[List.mem_singleton.mp ha];exact sa.off
    have hld:env.locals∉[dx]:=fun z=>sa.off (by rw[←List.mem_singleton.mp z];exact List.mem_cons_self)
    have I2:cB prog w cls B c env G2 μ2 H2 s2:=⟨S2,I1.V.nextP n2 hdx,I1.se,t2⟩
    show wpAny _ _ _ _ _ _
    refine wpAny_mono (jx F ih hr ck kk e I2 (sa1.nextP n2 I1.V.privL.1 hld) hh2) (fun fl s3 y=>⟨y.1,jp.lift ((n1.weaken fun _ h=>by cases h).trans n2) y.2⟩) fun _ _ h=>h
 ·exact jx F ih hr ck kk e I sa hh
theorem mX.inst{G0:Heap}{μ0:List Addr}{s0:Shared}(n:Nx [] G0 μ0 s0 G μ s)(lx0:s0.heap.get? x=none)(ld0:s0.heap.get? dx=none)(S:St prog w cls B G μ H s.heap){cn:Str}(hc:cls cn=some C)(h:mX prog w cls G μ s.heap x dx C fs):
  bf prog w cls B [] G0 μ0 s0 H (.inst cn fs) (.ref x) s:=by
 obtain⟨G',h1,h2,h3,S'⟩:=S.more [x,dx] fun a ha=>by
  rcases List.mem_cons.mp ha with rfl|ha
  ·exact h.xμ
  ·rw[List.mem_singleton.mp ha];exact h.dμ
 obtain⟨kvs,⟨o,es,ep,ho,r⟩,rs⟩:=h.od
 have lx:G'.get? x=some (instObj C dx):=(h2 x List.mem_cons_self).trans h.ox
 have ld:G'.get? dx=some o:=(h2 dx (List.mem_cons_of_mem _ List.mem_cons_self)).trans ho
 refine⟨G',μ,⟨n.sub.trans h1,n.pre,n.keeps,n.same,n.newμ,fun a ha=>?_,n.alive⟩,S',.inst hc lx ⟨o,es,ep,ld,r⟩ (rs.mono h1 ⟨[],by simp⟩)⟩
 rcases h3 a ha with z|hm
 ·exact n.newG a z
 ·right
  rcases List.mem_cons.mp hm with rfl|hm
  ·exact lx0
  ·rw[List.mem_singleton.mp hm];exact ld0
theorem D2(F:eQ T prog w cls B m mb K)(ih:gT T prog w cls B n){cn:Str}{fn:Fn}(hr:bA A (n+1))(hi:T.init cn=some fn){vs:List MV}{as:List Value}{v:MV}
  (e:dY T (aQ T n) cn fn vs H=some (v,H')) (S:St prog w cls B G μ H s.heap) (tk:1≤s.toks) (rs:aW prog w cls G μ as vs):
  ∃ C,m cn=some (.ref C)∧keepIn K (.ref C)=true∧wpAny (model prog w) A (PySem.call (.ref C) as) (bf prog w cls B [] G μ s H' v) E s:=by
 obtain⟨C,hm,hc,kk⟩:=F.init cn fn hi
 refine⟨C,hm,kk.keep,?_⟩
 obtain⟨fs,H1,e1,e⟩:=ag e
 obtain⟨rfl,rfl⟩:=cx e
 obtain⟨fI,kf,kt,kfn,kkp,kfc⟩:=kk.init
 have X:K.In s.heap:=F.X.keeps (S.base.trans S.keep)
 obtain⟨hh,g,d,t,os⟩:=s
 refine wpAny_call (make_core (makes_of X kk.made) (looks_findIn X kf) (fun self=>bind_fn X self kt) (.inl rfl) ?_)
 have hw:(Code.builtin "type.__call__" ⟨.ref C::as,[]⟩).weight=1:=rfl
 have hu:(Code.builtin "type.__call__" ⟨.ref C::as,[]⟩).cUnits=1:=rfl
 have hA:(A.under (.builtin "type.__call__" ⟨.ref C::as,[]⟩)).handled=none∧(A.under (.builtin "type.__call__" ⟨.ref C::as,[]⟩)).depth=A.depth+1∧(A.under (.builtin "type.__call__" ⟨.ref C::as,[]⟩)).units=A.units+1:=
  ⟨hr.1,by show A.depth+_=_;rw[hw],by show A.units+_=_;rw[hu]⟩
 generalize A.under (.builtin "type.__call__" ⟨.ref C::as,[]⟩)=A0 at hA
 obtain⟨a1,a2,a3⟩:=hA
 have r1:=hr.2.1
 have r2:=hr.2.2
 have k:Le hh ((hh.push emptyDict).push (instObj C hh.objs.size)):=fun b o e=>Heap.get?_push_of_some _ (Heap.get?_push_of_some _ e)
 have ck:=F.ck _ _ hc
 have gx:((hh.push emptyDict).push (instObj C hh.objs.size)).get? (hh.objs.size+1)=some (instObj C hh.objs.size):=by heap_get
 have gd:((hh.push emptyDict).push (instObj C hh.objs.size)).get? hh.objs.size=some emptyDict:=by heap_get
 have dead:∀ b,hh.objs.size≤b→hh.get? b=none:=fun b hb=>by
  cases z:hh.get? b with
  |none=>rfl
  |some o=>exact absurd (aK z) (Nat.not_lt.mpr hb)
 have offμ:∀ b,hh.objs.size≤b→b∉μ:=fun b hb hm=>absurd (S.lt hm) (Nat.not_lt.mpr hb)
 have offG:∀ b,hh.objs.size≤b→G.get? b=none:=fun b hb=>by
  cases z:G.get? b with
  |none=>rfl
  |some o=>exact absurd (aK (S.keep _ _ z)) (Nat.not_lt.mpr hb)
 have hh0:mX prog w cls G μ ((hh.push emptyDict).push (instObj C hh.objs.size)) (hh.objs.size+1) hh.objs.size C []:=
  ⟨gx,⟨[],⟨_,_,_,gd,⟨rfl,rfl,rfl⟩,rfl,fun e he=>by simp at he,.nil,by simp⟩,.nil⟩,offμ _ (by omega),offG _ (by omega),offμ _ (by omega),offG _ (by omega),Nat.succ_ne_self _⟩
 have rm:∀ e,bA (A0.deeper e) n:=fun e=>bA.deeper ⟨a1,by omega,by omega⟩ e
 have rm2:∀ e e',bA ((A0.deeper e).deeper e') n:=fun e e'=>bA.deeper (A:=A0.deeper e) ⟨a1,by show A0.depth+1+1+4 * n < 1000;omega,by show A0.units+3+3+10 * n+80 < 9900;omega⟩ e'
 refine s9 (s:=⟨(hh.push emptyDict).push (instObj C hh.objs.size),g,d,t,os⟩) F (go:=lJ T (aQ T n)) kfn (show A0.depth < 1000 by omega) (fun {self c env s G μ H} E' e I sa hf=>?_) e1 (S.grow k) tk rs hh0 kk.self fun s' hs=>?_
 ·exact Cl F ih (rm env) (by show A0.depth+1 < 1000;omega) (rm2 env) ck kk e I sa hf
 ·obtain⟨G2,μ2,n2,S2,hf⟩:=hs
  refine⟨rfl,?_⟩
  have n1:Nx [] G μ ⟨hh,g,d,t,os⟩ G μ ⟨(hh.push emptyDict).push (instObj C hh.objs.size),g,d,t,os⟩:=cS (s:=⟨hh,g,d,t,os⟩) (tk:=t) k
  have n12:Nx [] G μ ⟨hh,g,d,t,os⟩ G2 μ2 s':=n1.trans' n2 fun a ha=>.inr (by rw[List.mem_singleton.mp ha];exact dead _ (Nat.le_refl _))
  exact hf.inst n12 (dead _ (by omega)) (dead _ (by omega)) S2 hc
end
theorem rM(f:Str):(∃ id,k9 f=.builtin id)∨∃ T,k9 f=.type T:=by
 unfold k9
 cases f=="len"<;>dsimp only[cond_true,cond_false]
 case true=>exact .inl ⟨_,rfl⟩
 cases f=="sum"<;>dsimp only[cond_true,cond_false]
 case true=>exact .inl ⟨_,rfl⟩
 cases f=="str"<;>dsimp only[cond_true,cond_false]
 case true=>exact .inr ⟨_,rfl⟩
 cases f=="tuple"<;>dsimp only[cond_true,cond_false]
 case true=>exact .inr ⟨_,rfl⟩
 cases f=="list"<;>dsimp only[cond_true,cond_false]
 case true=>exact .inr ⟨_,rfl⟩
 cases f=="dict"<;>dsimp only[cond_true,cond_false]
 case true=>exact .inr ⟨_,rfl⟩
 cases f=="sorted"<;>dsimp only[cond_true,cond_false]
 case true=>exact .inl ⟨_,rfl⟩
 cases f=="max"<;>dsimp only[cond_true,cond_false]
 case true=>exact .inl ⟨_,rfl⟩
 cases f=="range"<;>dsimp only[cond_true,cond_false]
 case true=>exact .inr ⟨_,rfl⟩
 cases f=="enumerate"<;>dsimp only[cond_true,cond_false]
 case true=>exact .inr ⟨_,rfl⟩
 exact .inr ⟨_,rfl⟩
theorem xm{f:Str}{xs:List MV}{H:Hp}{r:MV×Hp}(e:builtin f xs H=some r):f∈bK:=by
 apply Decidable.byContradiction
 intro h
 have k:∀ x∈bK,(f==x)=false:=fun x hx=>by
  cases q:f==x with
  |false=>rfl
  |true=>rw[eq_of_beq q] at h;exact absurd hx h
 unfold builtin at e
 split at e
 ·rw[k "len" (by simp[bK]),k "sum" (by simp[bK]),k "str" (by simp[bK]),k "tuple" (by simp[bK]),k "list" (by simp[bK]),k "dict" (by simp[bK]),k "sorted" (by simp[bK])] at e
  cases e
 ·rw[k "max" (by simp[bK])] at e
  cases e
 ·cases e
section
variable{prog:Program}{w:World}{cls:Str→Option Addr}{B G G':Heap}{μ μ':List Addr}{H H':Hp}{s s':Shared}{A:Around}{E:Value→Shared→Prop}
variable{T:gI}{m mb:Str→Option Value}{K:Frag}{n:Nat}{c:Cx}{env:Env}
theorem Di{kvs:List (Str×Value)}{h:Heap}{d:Addr}(hd:h.DictOf (PySem.strKind prog w) d kvs){a:Str}(hv:valueAt kvs a=none):∃ o,h.get? d=some o∧lookIn a o=some none:=by
 obtain⟨o,es,ep,ho,_,hdat,hkeys,hpairs,hnd⟩:=hd
 refine⟨o,ho,?_⟩
 have h1:es.toList.find? (·.key.isStr a)=none:=by
  clear hkeys hnd
  generalize es.toList=l at hpairs
  induction hpairs with
  |nil=>rfl
  |@cons e kv es kvs h1 h2 h3 ih=>
   obtain⟨t,ht⟩:=Value.isStrOf_shape h1
   unfold valueAt at hv
   rw[List.find?_cons] at hv ⊢
   by_cases hk:kv.1=a
   ·simp only[decide_eq_true hk,Option.map_some] at hv;cases hv
   ·have:(Value.str kv.1 t).isStr a=false:=by simp[Value.isStr,hk]
    rw[ht,this]
    simp only[decide_eq_false hk] at hv
    exact ih hv
 have h2:es.toList.any (·.refKey)=false:=by
  rw[List.any_eq_false]
  intro e he
  obtain⟨k,hk,_⟩:=hkeys e (Array.mem_def.mpr he)
  obtain⟨t,ht⟩:=Value.isStrOf_shape hk
  unfold DictEntry.refKey
  rw[ht];simp
 unfold lookIn
 rw[hdat]
 dsimp only
 rw[h1,h2]
 rfl
set_option maxRecDepth 10000 in
theorem zU {r:Value} {x:Str} {t:Tok} {pl:Sem Bool} {Q:Value×List Value→Shared→Prop} {nm:Str} (hn:nm=Str.ofString "replace") (hv:r=.str x t) (h:Q (.builtin "str.replace",[r]) s):wpAny (model prog w) A (getMethod r nm pl) Q E s:=by
 subst hn
 subst hv
 exact @PySem.GM.replace (model prog w) A E s x t pl Q h
theorem sv{ov v:MV}{as:List PySem.Expr}(e:l9 ov as=some v):∃ x y p1 j1 z p2 j2,ov=.str x∧as=[.Constant (.str y) p1 j1,.Constant (.str z) p2 j2]∧t0 x=true∧z.length≤14∧(y==z)=false∧v=.str (Txt.replace x y z):=by
 unfold l9 at e
 split at e
 ·rename_i x y p1 j1 z p2 j2
  cases qz:t0 x&&Nat.ble z.length 14&&!(y==z) with
  |false=>rw[qz] at e;cases e
  |true=>
   rw[qz] at e;cases e
   simp only[Bool.and_eq_true] at qz
   obtain⟨⟨z1,z2⟩,z3⟩:=qz
   exact⟨x,y,p1,j1,z,p2,j2,rfl,rfl,z1,Nat.le_of_ble_eq_true z2,by simpa using z3,rfl⟩
 ·cases e
theorem C8(F:eQ T prog w cls B m mb K)(ih:gT T prog w cls B n)(hr:bA A (n+1)){f:PySem.Expr}{as:List PySem.Expr}{q:Pos}{v:MV}(e:nY T (aQ T n) c f as q H=some (v,H'))(I:cB prog w cls B c env G μ H s):
  wpAny (model prog w) A (eval (.Call f as [] q) env) (bf prog w cls B [] G μ s H' v) E s:=by
 have hr0:bA A n:=hr.less (Nat.le_succ n)
 have keepB:Le B s.heap:=I.S.base.trans I.S.keep
 unfold nY at e
 split at e
 ·rename_i f p
  cases qg:ez c f&&ci f with
  |false=>rw[qg] at e;cases e
  |true=>
   rw[qg] at e
   obtain⟨q1,q2⟩:=Bool.and_eq_true_iff.mp qg
   dsimp only[cond_true] at e
   rw[arm_eval_Call_Name']
   refine wpAny_bind (Name_function_global I.V.kind (eH q1 I.se) ?_ (cV q2))
   have hg:s.heap.Ns env.globals m:=by rw[I.V.glob];exact I.S.ns F.g
   cases hfn:T.fn f with
   |some fn=>
    rw[hfn] at e
    dsimp only at e
    obtain⟨vs,H1,e1,e⟩:=ag e
    obtain⟨a,hm,hf⟩:=F.fn f fn hfn
    obtain⟨o,fd,ho,hd,_⟩:=hf.it
    refine loadGlobal_global hg hm ?_
    refine Calls.callWith_function (o:=o) (fd:=fd) (dO (dv q e1) ?_)
    refine jA (gB ih hr0 e1 I) I.tk fun rs s1 G1 μ1 n1 S1 r1 t1=>?_
    exact⟨⟨S1.keep _ _ (S1.base _ _ ho),hd⟩,wpAny_mono (ih.call e hf hr0 S1 t1 r1) (fun _ _ h=>h.lift n1) fun _ _ h=>h⟩
   |none=>
    rw[hfn] at e
    dsimp only at e
    cases hfn:T.init f with
    |some fn=>
     rw[hfn] at e
     dsimp only at e
     obtain⟨vs,H1,e1,e⟩:=ag e
     obtain⟨C,hm,hc,kk⟩:=F.init f fn hfn
     refine loadGlobal_global hg hm ?_
     have hpl:=dv q (env:=env) e1
     refine callWith_of (P:=K.In) (by rw[hpl];rfl) (keeps_K kk.keep) (dO hpl ?_)
     refine jA (gB ih hr0 e1 I) I.tk fun rs s1 G1 μ1 n1 S1 r1 t1=>?_
     refine⟨F.X.keeps (S1.base.trans S1.keep),?_⟩
     obtain⟨C',hm',_,hw⟩:=D2 (E:=E) F ih hr hfn e S1 t1 r1
     cases hm.symm.trans hm'
     exact wpAny_mono hw (fun _ _ h=>h.lift n1) fun _ _ h=>h
    |none=>
     rw[hfn] at e
     dsimp only at e
     obtain⟨vs,H1,e1,e⟩:=ag e
     obtain⟨hm,hb⟩:=F.bi f (xm e)
     refine loadGlobal_builtin hg hm (by rw[I.V.bi];exact I.S.ns F.b) hb ?_
     have hpl:=dv q (env:=env) e1
     have hgo:wpAny (model prog w) A (spliced (backTo q (starEach as env))) (fun vs s'=>wpAny (model prog w) A (PySem.call (k9 f) vs) (bf prog w cls B [] G μ s H' v) E s') E s:=
      jA (gB ih hr0 e1 I) I.tk fun rs s1 G1 μ1 n1 S1 r1 t1=>wpAny_mono (yf e S1 r1 hr.1 F.sysm) (fun _ _ h=>h.lift n1) fun _ _ h=>h
     rcases rM f with⟨id,hid⟩|⟨U,hid⟩
     ·rw[hid] at hgo ⊢
      exact Calls.callWith_builtin hpl (dO hpl hgo)
     ·rw[hid] at hgo ⊢
      exact PySem.callWith_type hpl (dO hpl hgo)
 ·rename_i o nm ap
  cases qg:dy o&&ap.endLine==q.line&&Nat.ble as.length 20 with
  |false=>rw[qg] at e;cases e
  |true=>
   rw[qg] at e
   simp only[Bool.and_eq_true] at qg
   obtain⟨⟨q1,q2⟩,q3⟩:=qg
   have hl:=Nat.le_of_ble_eq_true q3
   obtain⟨ov,H1,e1,e⟩:=ag (show bnd ((aQ T n).ev c o) _ H=some (v,H') from e)
   rw[arm_eval_Call]
   refine wpAny_bind (uV q1 (be (ih.ev e1 hr0 I) I.tk fun r s1 G1 μ1 n1 S1 r1 t1=>?_))
   refine wpAny_bind (wpAny_standAt ?_)
   have I1:=I.next n1 S1 t1
   cases qr:nm=="replace" with
   |true=>
    rw[qr] at e
    have hn:=eq_of_beq qr
    obtain⟨e2,rfl⟩:=bB (show opt (l9 ov as) H1=some (v,H') from e)
    obtain⟨x,y,p1,j1,z,p2,j2,rfl,has,z1,z2,z3,rfl⟩:=sv e2
    have hpl:(backTo q (starEach as env)).any (·.1)=false:=by rw[has];rfl
    refine eA hpl hl q2 fun pl=>?_
    obtain⟨t,hv⟩:∃ t,r=.str x t:=by cases r1 with|str x t=>exact⟨t,rfl⟩
    refine zU hn hv ?_
    refine Calls.callWith_builtin hpl (dO hpl ?_)
    rw[has]
    show wpAny _ _ (spliced [(false,eval (.Constant (.str y) p1 j1) env),(false,eval (.Constant (.str z) p2 j2) env)]) _ _ _
    refine spliced_cons (Constant_str (spliced_cons (Constant_str (spliced_nil ?_))))
    have k1:s1.toks≠0:=Nat.ne_of_gt t1
    have k2:s1.toks+1≠0:=Nat.succ_ne_zero _
    have k3:s1.toks≠s1.toks+1:=(Nat.succ_ne_self _).symm
    have k5:x.length≤1048576:=Nat.le_trans (ln z1) (by decide)
    rw[hv]
    refine SC.replaceW k1 k2 k3 z3 k5 z2 fun t' k=>?_
    exact(aY (P:=[]) (tk:=k) S1 (.str _ t')).lift n1
   |false=>
    rw[qr] at e
    dsimp only[cond_false] at e
    cases ov with
    |inst C fs=>
     dsimp only at e
     cases hfn:T.meth C nm with
     |some fn=>
      rw[hfn] at e
      dsimp only at e
      cases qs:(fs.lookup nm).isSome with
      |true=>rw[qs] at e;cases e
      |false=>
       rw[qs] at e
       obtain⟨vs,H2,e2,e⟩:=ag (show bnd (sI (aQ T n) c as) _ H1=some (v,H') from e)
       have r1':=r1
       cases r1 with
       |@inst b d Ca cn kvs fs h1 h2 h3 r=>
       obtain⟨f,k1,k2,k3,k4⟩:=F.meth C nm fn hfn Ca h1
       have ck:=F.ck _ _ h1
       have hv:valueAt kvs nm=none:=by
        have:=(jm r nm).1
        rw[qs] at this
        exact Option.not_isSome_iff_eq_none.mp (by rw[this];simp)
       obtain⟨od,ho,hln⟩:=Di (bY h3 S1.keep) hv
       have IA:InstAt s1.heap b (instObj Ca d) Ca (some od):=⟨S1.keep _ _ h2,rfl,rfl,ho⟩
       have hpl:=dv q (env:=env) e2
       have X1:K.In s1.heap:=F.X.keeps (S1.base.trans S1.keep)
       refine eA hpl hl q2 fun pl=>method_fn X1 IA ck.ga ck.noga k1 k2 (by unfold shadowIn;dsimp only;rw[hln];rfl) ?_
       refine callWith_of (P:=K.In) (by rw[hpl];rfl) (keeps_K k3) (dO hpl ?_)
       refine jA (gB ih hr0 e2 I1) t1 fun rs s2 G2 μ2 n2 S2 r2 t2=>?_
       exact⟨F.X.keeps (S2.base.trans S2.keep),wpAny_mono (ih.call e k4 hr0 S2 t2 (.cons (r1'.mono n2.sub n2.pre) r2)) (fun _ _ h=>h.lift (n1.trans n2)) fun _ _ h=>h⟩
     |none=>rw[hfn] at e;cases e
    |_=>
     dsimp only at e
     obtain⟨k,H2,e2,ea⟩:=ag e
     obtain⟨vs,H3,e3,eb⟩:=ag ea
     obtain⟨rfl,hM⟩:=Fy e2 S1 r1
     have hpl:=dv q (env:=env) e3
     refine eA hpl hl q2 fun pl=>getMethod_builtin hM.has hM.pa hM.slot hM.ty hM.nd ?_
     refine Calls.callWith_builtin hpl (dO hpl ?_)
     refine jA (gB ih hr0 e3 I1) t1 fun rs s2 G2 μ2 n2 S2 r2 t2=>?_
     exact wpAny_mono (DJ e2 eb S2 (r1.mono n2.sub n2.pre) r2) (fun _ _ h=>h.lift (n1.trans n2)) fun _ _ h=>h
 ·cases e
end
section
variable{prog:Program}{w:World}{cls:Str→Option Addr}{B G G' G0:Heap}{μ μ' μ0:List Addr}{H H':Hp}{s s' s0:Shared}{A:Around}{E:Value→Shared→Prop}
variable{T:gI}{m mb:Str→Option Value}{K:Frag}{n:Nat}{c:Cx}{env:Env}
theorem dV.kept{ρ:Ev}{h h':Heap}(V:dV prog w cls G μ h env ρ)(k:∀ b∈priv env,∀ o,h.get? b=some o→h'.get? b=some o):dV prog w cls G μ h' env ρ:=by
 have cp:∀ c y,env.cells.lookup y=some c→c∈priv env:=fun c y hy=>List.mem_cons_of_mem _ (List.mem_map.mpr ⟨(y,c),mem_of_lookup hy,rfl⟩)
 refine⟨V.kind,V.glob,V.bi,?_,fun y v h1 h2=>?_,fun y h1=>?_,V.privL,fun p hq=>?_,V.inj⟩
 ·obtain⟨f,⟨o,es,ep,ho,r⟩,q⟩:=V.ns
  exact⟨f,⟨o,es,ep,k _ List.mem_cons_self _ ho,r⟩,q⟩
 ·obtain⟨a,u,h3,⟨o,ho,hd⟩,h5⟩:=V.cell y v h1 h2
  exact⟨a,u,h3,⟨o,k _ (cp _ _ h3) _ ho,hd⟩,h5⟩
 ·obtain⟨a,u,h3,⟨o,ho,hd⟩⟩:=V.isCell y h1
  exact⟨a,u,h3,⟨o,k _ (cp _ _ h3) _ ho,hd⟩⟩
 ·obtain⟨h1,h2,h3,h4⟩:=V.privC p hq
  refine⟨h1,h2,h3,?_⟩
  cases z:h.get? p.2 with
  |none=>exact absurd z h4
  |some o=>rw[k _ (List.mem_cons_of_mem _ (List.mem_map.mpr ⟨p,hq,rfl⟩)) _ z];simp
theorem dV.fewer{ρ ρ':Ev}{h:Heap}(V:dV prog w cls G μ h env ρ')(k:∀ y z,(ρ.lookup y).join=some z→(ρ'.lookup y).join=some z):dV prog w cls G μ h env ρ:=by
 refine⟨V.kind,V.glob,V.bi,?_,fun y v h1 h2=>V.cell y v (k _ _ h1) h2,V.isCell,V.privL,V.privC,V.inj⟩
 obtain⟨f,hn,q⟩:=V.ns
 exact⟨f,hn,fun y v h1 h2=>q y v (k _ _ h1) h2⟩
theorem Nx.dead{P wr:List Addr}{h':Heap}{tk:Nat}(x:Nx P G0 μ0 s0 G μ s)(k:∀ b o,b∉wr→s.heap.get? b=some o→h'.get? b=some o)(d:∀ b∈wr,s0.heap.get? b=none):Nx P G0 μ0 s0 G μ { s with heap:=h',toks:=tk }:=by
 have nd:∀ b o,s0.heap.get? b=some o→b∉wr:=fun b o e hb=>by rw[d b hb] at e;cases e
 refine⟨x.sub,x.pre,fun b o e h1 h2=>k b o (nd b o e) (x.keeps b o e h1 h2),?_,x.newμ,x.newG,fun a ha=>?_⟩
 ·obtain⟨h,tk',rfl⟩:=x.same
  exact⟨_,_,rfl⟩
 ·cases z:s0.heap.get? a with
  |none=>exact absurd z ha
  |some o=>
   have:=x.alive a ha
   cases z':s.heap.get? a with
   |none=>exact absurd z' this
   |some o'=>show h'.get? a≠none;rw[k a o' (nd a o z) z'];simp
theorem St.dead{wr:List Addr}{h h':Heap}(S:St prog w cls B G μ H h)(k:∀ b o,b∉wr→h.get? b=some o→h'.get? b=some o)(w1:∀ b∈wr,G.get? b=none)(w2:∀ b∈wr,b∉μ):St prog w cls B G μ H h':=by
 refine S.other (fun b o e=>k b o (fun hb=>by rw[w1 b hb] at e;cases e) (S.keep b o e)) fun a ha=>?_
 obtain⟨o,e⟩:=S.at ha
 rw[e,k a o (fun hb=>w2 a hb ha) e]
theorem cB.dead{wr:List Addr}{h':Heap}{tk:Nat}(I:cB prog w cls B c env G μ H s)(k:∀ b o,b∉wr→s.heap.get? b=some o→h'.get? b=some o)(w1:∀ b∈wr,G.get? b=none)(w2:∀ b∈wr,b∉μ)(w3:∀ b∈wr,b∉priv env)(ht:1≤tk):
  cB prog w cls B c env G μ H { s with heap:=h',toks:=tk }:=
 ⟨I.S.dead k w1 w2,I.V.kept fun b hb o e=>k b o (fun hw=>w3 b hw hb) e,I.se,ht⟩
theorem jI{sc:Scope}:∀ a∈own sc env,a∈priv env:=fun a ha=>by
 rcases List.mem_cons.mp ha with rfl|ha
 ·exact List.mem_cons_self
 ·obtain⟨p,hp,rfl⟩:=List.mem_map.mp ha
  exact List.mem_cons_of_mem _ (List.mem_map.mpr ⟨p,(List.mem_filter.mp hp).1,rfl⟩)
structure sG(G:Heap)(μ p fp wr:List Addr)(d:Addr→Prop):Prop where
 at_:∀ b∈fp,b∉μ∧b∉p∧(G.get? b≠none∨d b)
 wr_:∀ b∈wr,G.get? b=none∧d b
 sub:∀ b∈wr,b∈fp
theorem sG.next{P p fp wr:List Addr}{d:Addr→Prop}(x:sG G μ p fp wr d)(n:Nx P G μ s G' μ' s')(hl:∀ b∈fp,s.heap.get? b≠none):sG G' μ' p fp wr d:=by
 refine⟨fun b hb=>?_,fun b hb=>?_,x.sub⟩
 ·obtain⟨h1,h2,h3⟩:=x.at_ b hb
  refine⟨fun q=>(n.newμ b q).elim h1 fun z=>hl b hb z,h2,h3.imp (fun z=>?_) id⟩
  cases q:G.get? b with
  |none=>exact absurd q z
  |some o=>rw[n.sub b o q];simp
 ·obtain⟨h1,h2⟩:=x.wr_ b hb
  refine⟨?_,h2⟩
  cases q:G'.get? b with
  |none=>rfl
  |some o=>exact((n.newG b (by rw[q];simp)).elim (fun z=>absurd h1 z) fun z=>absurd z (hl b (x.sub b hb)))
theorem sG.keeps{P p fp wr:List Addr}{d:Addr→Prop}(x:sG G μ p fp wr d)(n:Nx P G μ s G' μ' s')(hP:∀ a∈P,a∈p):∀ b∈fp,∀ o,s.heap.get? b=some o→s'.heap.get? b=some o:=fun b hb o e=>
 n.keeps b o e (x.at_ b hb).1 fun q=>(x.at_ b hb).2.1 (hP b q)
theorem sG.more{p q fp wr:List Addr}{d:Addr→Prop}(x:sG G μ p fp wr d)(h:∀ b∈fp,b∉q):sG G μ (q++p) fp wr d:=
 ⟨fun b hb=>⟨(x.at_ b hb).1,fun z=>(List.mem_append.mp z).elim (h b hb) (x.at_ b hb).2.1,(x.at_ b hb).2.2⟩,x.wr_,x.sub⟩
def pq(prog:Program)(w:World)(cls:Str→Option Addr)(A:Around)(p:List Addr)(d:Addr→Prop)(it:Value)(ms:List MV)(j:Nat)(G:Heap)(μ:List Addr)(h:Heap):Prop:=
 ∃ (I:Addr) (fp wr:List Addr) (P:Nat→Value→Prop) (St:Nat→Heap→Prop),it=.ref I∧Walks prog w A I fp wr ms.length P St∧(∀ i v,P i v→∃ m,ms[i]?=some m∧bX prog w cls G μ v m)∧St j h∧
  (∀ i h,St i h→∀ b∈fp,h.get? b≠none)∧sG G μ p fp wr d
def nX(prog:Program)(w:World)(cls:Str→Option Addr)(A:Around)(p:List Addr)(d:Addr→Prop)(it:Value)(ms:List MV)(j:Nat)(G:Heap)(μ:List Addr)(h:Heap):Prop:=
 ∃ (I:Addr) (fp wr:List Addr) (P:Nat→Array Value→Prop) (St:Nat→Heap→Prop) (Mid:Nat→Addr→Heap→Prop),it=.ref I∧WalksU prog w A I fp wr ms.length P St Mid∧
  (∀ i vals,P i vals→∃ a b m1 m2,vals=#[a,b]∧ms[i]?=some (.tup [m1,m2])∧bX prog w cls G μ a m1∧bX prog w cls G μ b m2)∧St j h∧
  (∀ i h,St i h→∀ b∈fp,h.get? b≠none)∧sG G μ p fp wr d
variable{p q:List Addr}{d:Addr→Prop}{it:Value}{ms:List MV}{j:Nat}
theorem pq.next{P:List Addr}(x:pq prog w cls A p d it ms j G μ s.heap)(n:Nx P G μ s G' μ' s')(hP:∀ a∈P,a∈p):pq prog w cls A p d it ms j G' μ' s'.heap:=by
 obtain⟨I,fp,wr,P',St,rfl,W,hR,hst,hl,ha⟩:=x
 exact⟨I,fp,wr,P',St,rfl,W,fun i v h=>let ⟨m,h1,h2⟩:=hR i v h;⟨m,h1,h2.mono n.sub n.pre⟩,W.frame _ _ _ hst (ha.keeps n hP),hl,ha.next n (hl _ _ hst)⟩
theorem nX.next{P:List Addr}(x:nX prog w cls A p d it ms j G μ s.heap)(n:Nx P G μ s G' μ' s')(hP:∀ a∈P,a∈p):nX prog w cls A p d it ms j G' μ' s'.heap:=by
 obtain⟨I,fp,wr,P',St,Mid,rfl,W,hR,hst,hl,ha⟩:=x
 exact⟨I,fp,wr,P',St,Mid,rfl,W,fun i v h=>let ⟨a,b,m1,m2,h1,h2,h3,h4⟩:=hR i v h;⟨a,b,m1,m2,h1,h2,h3.mono n.sub n.pre,h4.mono n.sub n.pre⟩,W.frame _ _ _ hst (ha.keeps n hP),hl,ha.next n (hl _ _ hst)⟩
structure GN(prog:Program)(w:World)(cls:Str→Option Addr)(B:Heap)(A:Around)(p:List Addr)(t:PySem.Expr)(it:Value)(sc:Scope)(env:Env)(G0:Heap)(μ0:List Addr)(s0:Shared)(ms:List MV)(J:Nat→Heap→List Addr→Heap→Prop):Prop where
 frame:∀ {j:Nat} {G:Heap} {μ:List Addr} {s:Shared} {G':Heap} {μ':List Addr} {s':Shared} {P:List Addr},J j G μ s.heap→Nx P G μ s G' μ' s'→(∀ a∈P,a∈p)→J j G' μ' s'.heap
 turn:∀ {j:Nat} {m:MV} {ρ ρ':Ev} {G:Heap} {μ:List Addr} {H:Hp} {s:Shared} {Q:Shared→Prop} {E:Value→Shared→Prop},J j G μ s.heap→ms[j]?=some m→((oA t m).bind fun ps=>bb sc ps ρ)=some ρ'→
  Nx (own sc env) G0 μ0 s0 G μ s→cB prog w cls B ⟨sc,ρ⟩ env G μ H s→
  (∀ s2,Nx (own sc env) G0 μ0 s0 G μ s2→(∀ b o,b∉own sc env→b∉μ→(G.get? b≠none∨s0.heap.get? b≠none∨b∈p)→s.heap.get? b=some o→s2.heap.get? b=some o)→cB prog w cls B ⟨sc,ρ'⟩ env G μ H s2→J (j+1) G μ s2.heap→Q s2)→
  wpAny (model prog w) A (pyNext it) (fun r s1=>∃ v,r=some v∧wpAny (model prog w) A (letOwnedTupleGo t it v) (fun _ s1'=>wpAny (model prog w) A (assign t env v) (fun _ s2=>Q s2) E s1') E s1) E s
 done:∀ {c:Cx} {G:Heap} {μ:List Addr} {H:Hp} {s:Shared} {Q:Shared→Prop} {E:Value→Shared→Prop},J ms.length G μ s.heap→Nx (own sc env) G0 μ0 s0 G μ s→cB prog w cls B c env G μ H s→
  (∀ s2,Nx (own sc env) G0 μ0 s0 G μ s2→(∀ b o,b∉own sc env→b∉μ→(G.get? b≠none∨s0.heap.get? b≠none∨b∈p)→s.heap.get? b=some o→s2.heap.get? b=some o)→cB prog w cls B c env G μ H s2→Q s2)→
  wpAny (model prog w) A (pyNext it) (fun r s1=>r=none∧Q s1) E s
theorem tS{x:Str}{px:Pos}{v:MV}{sc:Scope}{ρ ρ':Ev}(e:((oA (.Name x px) v).bind fun ps=>bb sc ps ρ)=some ρ'):store sc x v ρ=some ρ':=by
 change bb sc [(x,v)] ρ=some ρ' at e
 unfold bb at e
 cases q:store sc x v ρ with
 |none=>rw[q] at e;cases e
 |some r=>rw[q] at e;exact e
theorem pq.turn{x:Str}{px:Pos}{sc:Scope}{v:MV}{ρ ρ':Ev}{Q:Shared→Prop}(hd:∀ b,d b→s0.heap.get? b=none)(hp:∀ a∈priv env,a∈p)(X:pq prog w cls A p d it ms j G μ s.heap)(hm:ms[j]?=some v)(e:store sc x v ρ=some ρ')
  (n:Nx (own sc env) G0 μ0 s0 G μ s) (I:cB prog w cls B ⟨sc,ρ⟩ env G μ H s)
  (k:∀ s2,Nx (own sc env) G0 μ0 s0 G μ s2→(∀ b o,b∉own sc env→b∉μ→(G.get? b≠none∨s0.heap.get? b≠none∨b∈p)→s.heap.get? b=some o→s2.heap.get? b=some o)→cB prog w cls B ⟨sc,ρ'⟩ env G μ H s2→pq prog w cls A p d it ms (j+1) G μ s2.heap→Q s2):
  wpAny (model prog w) A (pyNext it) (fun r s1=>∃ v,r=some v∧wpAny (model prog w) A (assign (.Name x px) env v) (fun _ s2=>Q s2) E s1) E s:=by
 obtain⟨I',fp,wr,P',St,rfl,W,hR,hst,hl,ha⟩:=X
 obtain⟨hj,_⟩:=List.getElem?_eq_some_iff.mp hm
 refine wpAny_with_toks I.tk (W.item j s _ _ hj hst fun v h' tk hv st' hk=>?_)
 refine fun ht=>⟨v,rfl,?_⟩
 obtain⟨m',hm',rv⟩:=hR j v hv
 cases hm.symm.trans hm'
 have w1:∀ b∈wr,G.get? b=none:=fun b hb=>(ha.wr_ b hb).1
 have w2:∀ b∈wr,b∉μ:=fun b hb=>(ha.at_ b (ha.sub b hb)).1
 have w3:∀ b∈wr,b∉priv env:=fun b hb q=>(ha.at_ b (ha.sub b hb)).2.1 (hp b q)
 have wd:∀ b∈wr,s0.heap.get? b=none:=fun b hb=>hd b (ha.wr_ b hb).2
 have I1:=I.dead (tk:=tk) hk w1 w2 w3 ht
 have n1:=n.dead (tk:=tk) hk wd
 refine wpAny_assign_Name (wpAny_mono (fG I1 e rv) (fun _ s2 y=>?_) fun _ _ h=>h)
 obtain⟨n2,I2⟩:=y
 refine k s2 (n1.trans n2) (fun b o h1 hb h2 e=>n2.keeps b o (hk b o (fun hw=>?_) e) hb h1) I2 ⟨I',fp,wr,P',St,rfl,W,hR,W.frame _ _ _ st' (ha.keeps n2 fun a q=>hp a (jI a q)),hl,ha⟩
 rcases h2 with h2|h2|h2
 ·exact h2 (w1 b hw)
 ·exact h2 (wd b hw)
 ·exact(ha.at_ b (ha.sub b hw)).2.1 h2
theorem pq.done{sc:Scope}{Q:Shared→Prop}(hd:∀ b,d b→s0.heap.get? b=none)(hp:∀ a∈priv env,a∈p)(X:pq prog w cls A p d it ms ms.length G μ s.heap)(n:Nx (own sc env) G0 μ0 s0 G μ s)(I:cB prog w cls B c env G μ H s)
  (k:∀ s2,Nx (own sc env) G0 μ0 s0 G μ s2→(∀ b o,b∉own sc env→b∉μ→(G.get? b≠none∨s0.heap.get? b≠none∨b∈p)→s.heap.get? b=some o→s2.heap.get? b=some o)→cB prog w cls B c env G μ H s2→Q s2):
  wpAny (model prog w) A (pyNext it) (fun r s1=>r=none∧Q s1) E s:=by
 obtain⟨I',fp,wr,P',St,rfl,W,hR,hst,hl,ha⟩:=X
 refine wpAny_with_toks I.tk (W.done s _ _ hst fun h' tk hk=>?_)
 refine fun ht=>⟨rfl,?_⟩
 have w1:∀ b∈wr,G.get? b=none:=fun b hb=>(ha.wr_ b hb).1
 have w2:∀ b∈wr,b∉μ:=fun b hb=>(ha.at_ b (ha.sub b hb)).1
 have w3:∀ b∈wr,b∉priv env:=fun b hb q=>(ha.at_ b (ha.sub b hb)).2.1 (hp b q)
 have wd:∀ b∈wr,s0.heap.get? b=none:=fun b hb=>hd b (ha.wr_ b hb).2
 refine k _ (n.dead (tk:=tk) hk wd) (fun b o h1 hb h2 e=>hk b o (fun hw=>?_) e) (I.dead (tk:=tk) hk w1 w2 w3 ht)
 rcases h2 with h2|h2|h2
 ·exact h2 (w1 b hw)
 ·exact h2 (wd b hw)
 ·exact(ha.at_ b (ha.sub b hw)).2.1 h2
theorem pq.self{Q:Value→Shared→Prop}(X:pq prog w cls A p d it ms j G μ s.heap)(h:Q it s):wpAny (model prog w) A (pyIter it) Q E s:=by
 obtain⟨I',fp,wr,P',St,rfl,W,hR,hst,hl,ha⟩:=X
 exact W.self j s Q E hst h
theorem pq.more{h:Heap}{q:List Addr}(X:pq prog w cls A p d it ms j G μ h)(hq:∀ b,h.get? b≠none→(G.get? b≠none∨d b)→b∉q):pq prog w cls A (q++p) d it ms j G μ h:=by
 obtain⟨I',fp,wr,P',St,rfl,W,hR,hst,hl,ha⟩:=X
 exact⟨I',fp,wr,P',St,rfl,W,hR,hst,hl,ha.more fun b hb=>hq b (hl _ _ hst b hb) (ha.at_ b hb).2.2⟩
theorem nX.more{h:Heap}{q:List Addr}(X:nX prog w cls A p d it ms j G μ h)(hq:∀ b,h.get? b≠none→(G.get? b≠none∨d b)→b∉q):nX prog w cls A (q++p) d it ms j G μ h:=by
 obtain⟨I',fp,wr,P',St,Mid,rfl,W,hR,hst,hl,ha⟩:=X
 exact⟨I',fp,wr,P',St,Mid,rfl,W,hR,hst,hl,ha.more fun b hb=>hq b (hl _ _ hst b hb) (ha.at_ b hb).2.2⟩
theorem pq.drive{x:Str}{px:Pos}{sc:Scope}(hd:∀ b,d b→s0.heap.get? b=none)(hp:∀ a∈priv env,a∈p):GN prog w cls B A p (.Name x px) it sc env G0 μ0 s0 ms (fun j G μ h=>pq prog w cls A p d it ms j G μ h) where
 frame:=fun x n h=>x.next n h
 turn:=fun {j m ρ ρ' G μ H s Q E} X hm e n I k=>by
  refine wpAny_mono (X.turn (px:=px) hd hp hm (tS e) n I k) (fun r s1 y=>?_) fun _ _ h=>h
  obtain⟨v,rfl,y⟩:=y
  exact⟨v,rfl,wpAny_pure y⟩
 done:=fun X n I k=>X.done hd hp n I k
theorem zg{x y:Str}{px py pt:Pos}{k:Nat}{m1 m2:MV}{sc:Scope}{ρ ρ':Ev}(e:((oA (.Tuple [.Name x px,.Name y py] k pt) (.tup [m1,m2])).bind fun ps=>bb sc ps ρ)=some ρ'):
  ∃ ρ1,store sc x m1 ρ=some ρ1∧store sc y m2 ρ1=some ρ':=by
 change ((bif x==y then none else some [(x,m1),(y,m2)]).bind fun ps=>bb sc ps ρ)=some ρ' at e
 cases q:x==y with
 |true=>rw[q] at e;cases e
 |false=>
  rw[q] at e
  change bb sc [(x,m1),(y,m2)] ρ=some ρ' at e
  unfold bb at e
  cases q1:store sc x m1 ρ with
  |none=>rw[q1] at e;cases e
  |some r=>
   rw[q1] at e
   dsimp only at e
   unfold bb at e
   cases q2:store sc y m2 r with
   |none=>rw[q2] at e;cases e
   |some r2=>rw[q2] at e;exact⟨r,rfl,q2.trans e⟩
theorem nX.drive{x y:Str}{px py pt:Pos}{kk:Nat}{sc:Scope}(hh:A.handled=none)(hd:∀ b,d b→s0.heap.get? b=none)(hp:∀ a∈priv env,a∈p):
  GN prog w cls B A p (.Tuple [.Name x px,.Name y py] kk pt) it sc env G0 μ0 s0 ms (fun j G μ h=>nX prog w cls A p d it ms j G μ h) where
 frame:=fun x n h=>x.next n h
 turn:=fun {j m ρ ρ' G μ H s Q E} x hm e n I k=>by
  obtain⟨I',fp,wr,P',St,Mid,rfl,W,hR,hst,hl,ha⟩:=x
  obtain⟨hj,_⟩:=List.getElem?_eq_some_iff.mp hm
  have w1:∀ b∈wr,G.get? b=none:=fun b hb=>(ha.wr_ b hb).1
  have w2:∀ b∈wr,b∉μ:=fun b hb=>(ha.at_ b (ha.sub b hb)).1
  have w3:∀ b∈wr,b∉priv env:=fun b hb q=>(ha.at_ b (ha.sub b hb)).2.1 (hp b q)
  have wd:∀ b∈wr,s0.heap.get? b=none:=fun b hb=>hd b (ha.wr_ b hb).2
  refine wpAny_with_toks I.tk (W.item j s _ _ hj hst fun Tp vals h' tk hv hT mid hk=>?_)
  refine fun ht=>⟨_,rfl,?_⟩
  obtain⟨a,b,m1,m2,rfl,hm',ra,rb⟩:=hR j _ hv
  cases hm.symm.trans hm'
  refine W.go _ _ _ _ _ { s with heap:=h',toks:=tk } _ _ mid fun h2 st2 hk2=>?_
  have hT2:h2.IsTuple Tp #[a,b]:=hT.at fun o e=>hk2 _ _ (W.apart _ _ _ mid) e
  have hk12:∀ b o,b∉wr→s.heap.get? b=some o→h2.get? b=some o:=fun b o hb e=>hk2 b o hb (hk b o hb e)
  have I1:=I.dead (tk:=tk) hk12 w1 w2 w3 ht
  have n1:=n.dead (tk:=tk) hk12 wd
  refine wpAny_assign_Tuple hh hT2 rfl rfl fun h3 hx=>?_
  have le3:Le h2 h3:=fun b o e=>hx b o (fun z=>by rw[z] at e;exact absurd (aK e) (Nat.lt_irrefl _)) e
  have n3:Nx [] G μ { s with heap:=h2,toks:=tk } G μ { s with heap:=h3,toks:=tk }:=cS (s:={ s with heap:=h2,toks:=tk }) (tk:=tk) le3
  have I3:cB prog w cls B ⟨sc,ρ⟩ env G μ H { s with heap:=h3,toks:=tk }:=I1.next n3 (I1.S.grow le3) ht
  obtain⟨ρ1,e1,e2⟩:=zg e
  show wpAny _ _ (do holding [b] (assign (.Name x px) env a);assignInOrder [assign (.Name y py) env] [b]) _ _ _
  refine wpAny_bind (wpAny_holding (wpAny_assign_Name (wpAny_mono (fG I3 e1 ra) (fun _ s4 y4=>?_) fun _ _ h=>h)))
  obtain⟨n4,I4⟩:=y4
  show wpAny _ _ (do holding [] (assign (.Name y py) env b);assignInOrder [] []) _ _ _
  refine wpAny_bind (wpAny_holding (wpAny_assign_Name (wpAny_mono (fG I4 e2 rb) (fun _ s5 y5=>?_) fun _ _ h=>h)))
  obtain⟨n5,I5⟩:=y5
  refine wpAny_pure ?_
  have n35:Nx (own sc env) G μ { s with heap:=h2,toks:=tk } G μ s5:=((n3.weaken fun _ h=>by cases h).trans n4).trans n5
  refine k s5 (n1.trans n35) (fun b o h1 hb h2' e=>n35.keeps b o (hk12 b o (fun hw=>?_) e) hb h1) I5 ⟨I',fp,wr,P',St,Mid,rfl,W,hR,W.frame _ _ _ st2 (ha.keeps n35 fun a q=>hp a (jI a q)),hl,ha⟩
  rcases h2' with h2'|h2'|h2'
  ·exact h2' (w1 b hw)
  ·exact h2' (wd b hw)
  ·exact(ha.at_ b (ha.sub b hw)).2.1 h2'
 done:=fun {c G μ H s Q E} x n I k=>by
  obtain⟨I',fp,wr,P',St,Mid,rfl,W,hR,hst,hl,ha⟩:=x
  refine wpAny_with_toks I.tk (W.done s _ _ hst fun h' tk hk=>?_)
  refine fun ht=>⟨rfl,?_⟩
  have w1:∀ b∈wr,G.get? b=none:=fun b hb=>(ha.wr_ b hb).1
  have w2:∀ b∈wr,b∉μ:=fun b hb=>(ha.at_ b (ha.sub b hb)).1
  have w3:∀ b∈wr,b∉priv env:=fun b hb q=>(ha.at_ b (ha.sub b hb)).2.1 (hp b q)
  have wd:∀ b∈wr,s0.heap.get? b=none:=fun b hb=>hd b (ha.wr_ b hb).2
  refine k _ (n.dead (tk:=tk) hk wd) (fun b o h1 hb h2 e=>hk b o (fun hw=>?_) e) (I.dead (tk:=tk) hk w1 w2 w3 ht)
  rcases h2 with h2|h2|h2
  ·exact h2 (w1 b hw)
  ·exact h2 (wd b hw)
  ·exact(ha.at_ b (ha.sub b hw)).2.1 h2
end
section
variable{prog:Program}{w:World}{cls:Str→Option Addr}{B G G' G0:Heap}{μ μ' μ0:List Addr}{H H':Hp}{s s' s0:Shared}{A:Around}{E:Value→Shared→Prop}
variable{T:gI}{m mb:Str→Option Value}{K:Frag}{n:Nat}{c:Cx}{env:Env}
theorem H6(ih:gT T prog w cls B n)(hr:bA A n){p:List Addr}{t:PySem.Expr}{it:Value}{sc:Scope}{ms:List MV}{J:Nat→Heap→List Addr→Heap→Prop}(D:GN prog w cls B A p t it sc env G0 μ0 s0 ms J)(hp:∀ a∈priv env,a∈p)
  {body:List Stmt} {k:Ev→M MV} {v:MV} {ρ:Ev} {R:Result→Shared→Prop} (hR:∀ f s',mi prog w cls B sc env G0 μ0 s0 k v H' f s'→R (.ok f) s')
  (e:mq (aQ T n) sc t body k ms ρ H=some (v,H')) (nx:Nx (own sc env) G0 μ0 s0 G μ s) (I:cB prog w cls B ⟨sc,ρ⟩ env G μ H s) (hJ:J 0 G μ s.heap):codeAny (model prog w) A (.forLoop t it body [] env) R s:=by
 refine codeAny_forLoop_any (fun N s=>∃ j ρ G μ H,N=ms.length - j∧j≤ms.length∧mq (aQ T n) sc t body k (ms.drop j) ρ H=some (v,H')∧Nx (own sc env) G0 μ0 s0 G μ s∧cB prog w cls B ⟨sc,ρ⟩ env G μ H s∧J j G μ s.heap)
  (fun N s hI=>?_) ms.length ⟨0,ρ,G,μ,H,rfl,Nat.zero_le _,e,nx,I,hJ⟩
 clear e nx I hJ
 obtain⟨j,ρ,G,μ,H,rfl,hj,e,nx,I,hJ⟩:=hI
 by_cases hl:j=ms.length
 ·subst hl
  rw[List.drop_length] at e
  refine wpAny_mono (D.done hJ nx I (Q:=fun s2=>wpAny (model prog w) A (execs [] env) (fun f s₃=>R (.ok f) s₃) (notedBy (model prog w) A env fun e s'=>R (.error e) s') s2) fun s2 n2 _ I2=>wpAny_execs_nil (hR _ _ (.inr ⟨rfl,ρ,H,G,μ,e,n2,I2⟩))) (fun r s1 y=>?_) fun _ _ h=>h
  obtain⟨rfl,y⟩:=y
  exact y
 ·have hlt:j < ms.length:=by omega
  rw[List.drop_eq_getElem_cons hlt] at e
  obtain⟨ρ',H1,e1,e3⟩:=ag (show bnd (opt ((oA t ms[j]).bind fun ps=>bb sc ps ρ)) (fun ρ'=>(aQ T n).ex sc body ρ' (mq (aQ T n) sc t body k (ms.drop (j+1)))) H=some (v,H') from e)
  obtain⟨e2,rfl⟩:=bB e1
  clear e1
  refine wpAny_mono (D.turn hJ (List.getElem?_eq_getElem hlt) e2 nx I (Q:=fun s2=>wpAny (model prog w) A (execs body env) (fun f s₃=>match f with
      |.next|.cont=>∃ m,m < ms.length - j∧∃ j ρ G μ H,m=ms.length - j∧j≤ms.length∧mq (aQ T n) sc t body k (ms.drop j) ρ H=some (v,H')∧Nx (own sc env) G0 μ0 s0 G μ s₃∧cB prog w cls B ⟨sc,ρ⟩ env G μ H s₃∧J j G μ s₃.heap
      |.brk=>R (.ok .next) s₃
      |.ret v=>R (.ok (.ret v)) s₃) (notedBy (model prog w) A env fun e s'=>R (.error e) s') s2) fun s2 n2 _ I2 hJ2=>?_) (fun r s1 y=>?_) fun _ _ h=>h
  ·refine wpAny_mono (ih.ex e3 hr I2) (fun f s3 y=>?_) fun _ _ h=>h
   rcases y with⟨r,rfl,hp'⟩|⟨rfl,ρ3,H3,G3,μ3,e4,n3,I3⟩
   ·exact hR _ _ (.inl ⟨r,rfl,np n2 hp' fun a h=>.inl h⟩)
   ·exact⟨ms.length - (j+1),by omega,j+1,ρ3,G3,μ3,H3,rfl,hlt,e4,n2.trans n3,I3,D.frame hJ2 n3 fun a h=>hp a (jI a h)⟩
  ·obtain⟨v',rfl,y⟩:=y
   exact y
end
theorem eC:∀ (names:List (Str×NameKind)) (k:Nat) (acc:List (Str×Addr)),cellsFrom k names acc=cellsFrom k names []++acc
 |[],k,acc=>rfl
 |(nm,kd)::r,k,acc=>by
  unfold cellsFrom
  split
  ·rw[eC r _ ((nm,k)::acc),eC r _ [(nm,k)],List.append_assoc];rfl
  ·exact eC r _ acc
theorem nV:∀ (names:List (Str×NameKind)) (k:Nat) (acc:List (Str×Addr)) (x:Str) (a:Addr),(x,a)∈cellsFrom k names acc→(x,a)∈acc∨(x,NameKind.cell)∈names
 |[],_,_,_,_,h=>.inl h
 |(nm,kd)::r,k,acc,x,a,h=>by
  unfold cellsFrom at h
  split at h
  ·rename_i hk
   rcases nV r _ _ x a h with h|h
   ·rcases List.mem_cons.mp h with h|h
    ·cases h;right;rw[eq_of_beq hk];exact List.mem_cons_self
    ·exact .inl h
   ·exact .inr (List.mem_cons_of_mem _ h)
  ·rcases nV r _ _ x a h with h|h
   ·exact .inl h
   ·exact .inr (List.mem_cons_of_mem _ h)
theorem gX{α:Type}:∀ {l:List (Str×α)} (hn:(l.map (·.1)).Nodup) {x:Str} {a:α} (h:(x,a)∈l),l.lookup x=some a
 |(k,v)::r,hn,x,a,h=>by
  rw[List.lookup_cons]
  obtain⟨h1,h2⟩:=List.nodup_cons.mp hn
  rcases List.mem_cons.mp h with h|h
  ·cases h;simp
  ·have:(x==k)=false:=by
    cases q:x==k with
    |false=>rfl
    |true=>rw[←eq_of_beq q] at h1;exact absurd (List.mem_map.mpr ⟨(x,a),h,rfl⟩) h1
   rw[this]
   exact gX h2 h
section
variable{env:Env}
def fA(env:Env):List (Str×NameKind)→List (Str×Addr)→List (Str×Addr)
 |[],acc=>acc
 |(nm,kd)::r,acc=>if kd==.free then fA env r ((nm,(env.cells.lookup nm).getD 0)::acc) else fA env r acc
theorem nT:∀ (names:List (Str×NameKind)) (acc:List (Str×Addr)) (x:Str) (a:Addr),(x,a)∈fA env names acc→(x,a)∈acc∨((x,NameKind.free)∈names∧a=(env.cells.lookup x).getD 0)
 |[],_,_,_,h=>.inl h
 |(nm,kd)::r,acc,x,a,h=>by
  unfold fA at h
  split at h
  ·rename_i hk
   rcases nT r _ x a h with h|⟨h,e⟩
   ·rcases List.mem_cons.mp h with h|h
    ·cases h;right;rw[eq_of_beq hk];exact⟨List.mem_cons_self,rfl⟩
    ·exact .inl h
   ·exact .inr ⟨List.mem_cons_of_mem _ h,e⟩
  ·rcases nT r _ x a h with h|⟨h,e⟩
   ·exact .inl h
   ·exact .inr ⟨List.mem_cons_of_mem _ h,e⟩
theorem n8:∀ (names:List (Str×NameKind)) (acc:List (Str×Addr)) (x:Str),((x,NameKind.free)∈names∨∃ a,(x,a)∈acc)→∃ a,(x,a)∈fA env names acc
 |[],_,_,h=>h.resolve_left (by simp)
 |(nm,kd)::r,acc,x,h=>by
  unfold fA
  split
  ·refine n8 r _ x ?_
   rcases h with h|⟨a,h⟩
   ·rcases List.mem_cons.mp h with h|h
    ·cases h;right;exact⟨_,List.mem_cons_self⟩
    ·exact .inl h
   ·exact .inr ⟨a,List.mem_cons_of_mem _ h⟩
  ·rename_i hk
   refine n8 r _ x ?_
   rcases h with h|h
   ·rcases List.mem_cons.mp h with h|h
    ·cases h;exact absurd rfl hk
    ·exact .inl h
   ·exact .inr h
theorem nF(f:Str×NameKind→List (Str×Addr)→Sem (ForInStep (List (Str×Addr))))(hf:∀ nm kd cs,f (nm,kd) cs=if kd==.free then (do let a←cellOf env nm;pure (.yield ((nm,a)::cs))) else pure (.yield cs)):
  ∀ (names:List (Str×NameKind)) (acc:List (Str×Addr)),(∀ x,(x,NameKind.free)∈names→∃ a,env.cells.lookup x=some a)→forIn names acc f=pure (fA env names acc)
 |[],acc,_=>rfl
 |(nm,kd)::r,acc,h=>by
  rw[List.forIn_cons,hf]
  unfold fA
  cases hk:kd==.free with
  |true=>
   obtain⟨a,ha⟩:=h nm (by rw[eq_of_beq hk];exact List.mem_cons_self)
   have hc:cellOf env nm=pure a:=by unfold cellOf;rw[ha]
   rw[if_pos rfl,if_pos rfl,hc,ha]
   exact nF f hf r _ fun x hx=>h x (List.mem_cons_of_mem _ hx)
  |false=>
   rw[if_neg (by simp),if_neg (by simp)]
   exact nF f hf r _ fun x hx=>h x (List.mem_cons_of_mem _ hx)
theorem Jw{sc:Scope}(h:∀ x,(x,NameKind.free)∈sc.names→∃ a,env.cells.lookup x=some a):closureFor sc env=pure (fA env sc.names []):=by
 have e:=nF (env:=env) (fun x r=>if x.2==.free then (do let a←cellOf env x.1;pure (.yield ((x.1,a)::r))) else pure (.yield r)) (fun nm kd cs=>rfl) sc.names [] h
 unfold closureFor
 simp only[bind_pure]
 exact e
theorem qE(sc:Scope)(x:Str):(relabel sc env).names.lookup x=(sc.names.lookup x).map fun k=>if (k==NameKind.free&&env.scope.kind==.function&&env.kindOf x==some .cell) then NameKind.cell else k:=by
 unfold relabel
 dsimp only
 generalize sc.names=l
 induction l with
 |nil=>rfl
 |cons p l ih=>
  obtain⟨nm,k⟩:=p
  rw[List.map_cons]
  dsimp only
  by_cases hx:x=nm
  ·subst hx
   by_cases hc:(k==NameKind.free&&env.scope.kind==.function&&env.kindOf x==some .cell)=true
   ·rw[if_pos hc,List.lookup_cons,List.lookup_cons]
    simp only[beq_self_eq_true,Option.map_some]
    rw[if_pos hc]
   ·rw[if_neg hc,List.lookup_cons,List.lookup_cons]
    simp only[beq_self_eq_true,Option.map_some]
    rw[if_neg hc]
  ·have hb:(x==nm)=false:=by simp[hx]
   by_cases hc:(k==NameKind.free&&env.scope.kind==.function&&env.kindOf nm==some .cell)=true
   ·rw[if_pos hc,List.lookup_cons,List.lookup_cons,hb];exact ih
   ·rw[if_neg hc,List.lookup_cons,List.lookup_cons,hb];exact ih
end
theorem qt{α:Type}:∀ {l:List (Str×α)} {x:Str} {a:α},(x,a)∈l→∃ b,l.lookup x=some b
 |(k,v)::r,x,a,h=>by
  rw[List.lookup_cons]
  cases q:x==k with
  |true=>exact⟨v,rfl⟩
  |false=>
   rcases List.mem_cons.mp h with h|h
   ·cases h;simp at q
   ·exact qt h
section
variable{prog:Program}{w:World}{cls:Str→Option Addr}{B G G' G0:Heap}{μ μ' μ0:List Addr}{H H':Hp}{s s' s0:Shared}{A:Around}{E:Value→Shared→Prop}
variable{T:gI}{m mb:Str→Option Value}{K:Frag}{n:Nat}{c:Cx}{env:Env}
theorem jD{sc:Scope}{ρ:Ev}{x:Str}(h:sc.names.lookup x=some .local∨sc.names.lookup x=some .cell):((bJ sc ρ).lookup x).join=none:=by
 unfold bJ
 generalize sc.names=l at h
 induction l with
 |nil=>rcases h with h|h<;>cases h
 |cons p l ih=>
  obtain⟨nm,k⟩:=p
  rw[List.filterMap_cons]
  by_cases hx:x=nm
  ·subst hx
   simp only[List.lookup_cons,beq_self_eq_true,Option.some.injEq] at h
   rcases h with rfl|rfl<;>simp[List.lookup_cons]
  ·have hb:(x==nm)=false:=by simp[hx]
   rw[List.lookup_cons,hb] at h
   split
   ·exact ih h
   ·rename_i b hq
    have:b=(nm,none):=by
     dsimp only at hq
     split at hq<;>first|exact(Option.some.inj hq).symm|cases hq
    subst this
    rw[List.cons_append,List.lookup_cons,hb]
    exact ih h
theorem vp{sc:Scope}{ρ:Ev}{x:Str}(h:∀ k,(x,k)∈sc.names→k≠.local∧k≠.cell):(bJ sc ρ).lookup x=ρ.lookup x:=by
 unfold bJ
 generalize sc.names=l at h
 induction l with
 |nil=>rfl
 |cons p l ih=>
  obtain⟨nm,k⟩:=p
  rw[List.filterMap_cons]
  have ih':=ih fun k hk=>h k (List.mem_cons_of_mem _ hk)
  split
  ·exact ih'
  ·rename_i b hq
   have hb:b=(nm,none):=by
    dsimp only at hq
    split at hq<;>first|exact(Option.some.inj hq).symm|cases hq
   have hne:(x==nm)=false:=by
    cases q:x==nm with
    |false=>rfl
    |true=>
     have:=h k (by rw[eq_of_beq q];exact List.mem_cons_self)
     dsimp only at hq
     split at hq
     ·exact absurd rfl this.1
     ·exact absurd rfl this.2
     ·cases hq
   subst hb
   rw[List.cons_append,List.lookup_cons,hne]
   exact ih'
structure FQ(prog:Program)(w:World)(cls:Str→Option Addr)(B G:Heap)(μ:List Addr)(s:Shared)(sc:Scope)(ρ:Ev)(env cenv:Env)(h1:Heap):Prop where
 le:Le s.heap h1
 V:dV prog w cls G μ h1 cenv (bJ sc ρ)
 se:IN sc cenv
 fresh:∀ b∈own sc cenv,s.heap.get? b=none
 cells:∀ b∈priv cenv,s.heap.get? b=none∨b∈env.cells.map (·.2)
theorem jR{sc:Scope}(h:fJ c sc=true):sc.kind=.function∧(sc.names.map (·.1)).Nodup∧∀ x,(x,NameKind.free)∈sc.names→(∃ v,(c.ρ.lookup x).join=some v)∧(c.sc.names.lookup x=some .cell∨c.sc.names.lookup x=some .free):=by
 unfold fJ at h
 simp only[Bool.and_eq_true] at h
 obtain⟨⟨h1,h2⟩,h3⟩:=h
 refine⟨?_,gR h2,fun x hx=>?_⟩
 ·split at h1
  ·assumption
  ·cases h1
 ·have:=List.all_eq_true.mp h3 _ hx
  dsimp only at this
  obtain⟨q1,q2⟩:=Bool.and_eq_true_iff.mp this
  refine⟨Option.isSome_iff_exists.mp q1,?_⟩
  split at q2
  ·exact .inl (by assumption)
  ·exact .inr (by assumption)
  ·cases q2
theorem Gw(I:cB prog w cls B c env G μ H s){sc:Scope}(h:fJ c sc=true):∀ x,(x,NameKind.free)∈sc.names→∃ a,env.cells.lookup x=some a:=fun x hx=>by
 obtain⟨⟨v,hv⟩,hk⟩:=(jR h).2.2 x hx
 have:env.kindOf x=some .cell∨env.kindOf x=some .free:=by
  rcases hk with hk|hk
  ·exact .inl ((I.se x _ hk).resolve_right fun z=>absurd z.1 (by decide))
  ·rcases I.se x _ hk with z|z
   ·exact .inr z
   ·exact .inl z.2
 obtain⟨a,u,h1,_⟩:=I.V.cell x v hv this
 exact⟨a,h1⟩
theorem yo{sc:Scope}{Q:Env→Shared→Prop}(h:fJ c sc=true)(I:cB prog w cls B c env G μ H s)
  (hQ:∀ ce h1,FQ prog w cls B G μ s sc c.ρ env { ce with scope:=relabel sc env } h1→Q ce { s with heap:=h1 }):
  wpAny (model prog w) A (newFunctionEnv sc env.globals (fA env sc.names []) [] env.qual none .none (some env)) Q E s:=by
 obtain⟨hkind,hnd,hfree⟩:=jR h
 have hcl:=Gw I h
 have V:=I.V
 simp only[newFunctionEnv,Option.isSome_some,if_true]
 refine wpAny_bind (wpAny_alloc ?_)
 refine wpAny_bind (wpAny_layCells _ (fun name kind cells=>by cases hkc:kind==NameKind.cell<;>simp[hkc]) _ _ _ _ ?_)
 have ok:=cellsFrom_ok sc.names (s.heap.push { cls:=.type "dict",data:=.dict #[] }) (s.heap.objs.size+1) [] ⟨fun _ _ hm=>(nomatch hm),List.Pairwise.nil⟩ (by rw[Heap.size_push];exact Nat.le_refl _)
 rw[Heap.size_push] at ok
 rw[show({ s with heap:=s.heap.push { cls:=.type "dict",data:=.dict #[] } }:Shared).heap.objs.size=s.heap.objs.size+1 from Heap.size_push ..,eC]
 simp only[List.forIn_nil,pure_bind]
 refine wpAny_pure (hQ _ _ ?_)
 generalize hown:cellsFrom (s.heap.objs.size+1) sc.names []=ow at ok
 have jd:Le s.heap (pushCells (s.heap.push { cls:=.type "dict",data:=.dict #[] }) sc.names):=fun b o e=>pushCells_keeps _ _ b o (Heap.get?_push_of_some _ e)
 have hns:(pushCells (s.heap.push { cls:=.type "dict",data:=.dict #[] }) sc.names).Ns s.heap.objs.size (fun _=>none):=(Heap.Ns.new s.heap (.type "dict")).keeps (pushCells_keeps _ _)
 generalize pushCells (s.heap.push { cls:=.type "dict",data:=.dict #[] }) sc.names=h1 at ok jd hns
 have dead:∀ b,s.heap.objs.size≤b→s.heap.get? b=none:=fun b hb=>by
  cases z:s.heap.get? b with
  |none=>rfl
  |some o=>exact absurd (aK z) (Nat.not_lt.mpr hb)
 have offμ:∀ b,s.heap.objs.size≤b→b∉μ:=fun b hb hm=>absurd (I.S.lt hm) (Nat.not_lt.mpr hb)
 have offG:∀ b,s.heap.objs.size≤b→G.get? b=none:=fun b hb=>by
  cases z:G.get? b with
  |none=>rfl
  |some o=>exact absurd (aK (I.S.keep _ _ z)) (Nat.not_lt.mpr hb)
 have nl:∀ x k,(x,k)∈sc.names→sc.names.lookup x=some k:=fun x k hx=>gX hnd hx
 have owk:∀ x a,(x,a)∈ow→sc.names.lookup x=some .cell:=fun x a hx=>by
  rw[←hown] at hx
  exact nl _ _ ((nV _ _ _ _ _ hx).resolve_left (by simp))
 have owh:∀ x,sc.names.lookup x=some .cell→∃ a,ow.lookup x=some a:=fun x hx=>by
  rw[←hown]
  exact Option.isSome_iff_exists.mp (dw _ _ _ _ (.inl (mem_of_lookup hx)))
 have clk:∀ x a,(x,a)∈fA env sc.names []→sc.names.lookup x=some .free∧env.cells.lookup x=some a:=fun x a hx=>by
  rcases nT _ _ _ _ hx with z|⟨z,e⟩
  ·simp at z
  ·obtain⟨a',ha'⟩:=hcl x z
   rw[ha'] at e
   exact⟨nl _ _ z,by rw[ha',e];rfl⟩
 have clh:∀ x a,(x,NameKind.free)∈sc.names→env.cells.lookup x=some a→(ow++fA env sc.names []).lookup x=some a:=fun x a hx ha=>by
  rw[dX]
  have h1:ow.lookup x=none:=by
   cases z:ow.lookup x with
   |none=>rfl
   |some b=>
    have:=owk _ _ (mem_of_lookup z)
    rw[nl _ _ hx] at this;cases this
  rw[h1]
  obtain⟨b,hb⟩:=n8 (env:=env) sc.names [] x (.inl hx)
  obtain⟨b',z⟩:=qt hb
  have:=(clk _ _ (mem_of_lookup z)).2
  rw[ha] at this
  rw[z,this];rfl
 have key:∀ ce:Env,ce.scope=relabel sc env→ce.locals=s.heap.objs.size→ce.globals=env.globals→ce.builtins=env.builtins→ce.cells=ow++fA env sc.names []→FQ prog w cls B G μ s sc c.ρ env ce h1:=by
  intro ce e1 e2 e3 e4 e5
  have kd:∀ x,ce.kindOf x=(sc.names.lookup x).map fun k=>if (k==NameKind.free&&env.scope.kind==.function&&env.kindOf x==some .cell) then NameKind.cell else k:=fun x=>by
   unfold Env.kindOf;rw[e1];exact qE sc x
  have up:∀ x k,sc.names.lookup x=some k→ce.kindOf x=some k∨(k=.free∧ce.kindOf x=some .cell):=fun x k hx=>by
   rw[kd,hx]
   simp only[Option.map_some]
   by_cases hc:(k==NameKind.free&&env.scope.kind==.function&&env.kindOf x==some .cell)=true
   ·rw[if_pos hc]
    simp only[Bool.and_eq_true,beq_iff_eq] at hc
    exact .inr ⟨hc.1.1,rfl⟩
   ·rw[if_neg hc];exact .inl rfl
  have down:∀ x k,ce.kindOf x=some k→sc.names.lookup x=some k∨(k=.cell∧sc.names.lookup x=some .free∧env.kindOf x=some .cell):=fun x k hx=>by
   rw[kd] at hx
   cases z:sc.names.lookup x with
   |none=>rw[z] at hx;cases hx
   |some k'=>
    rw[z] at hx
    simp only[Option.map_some] at hx
    by_cases hc:(k'==NameKind.free&&env.scope.kind==.function&&env.kindOf x==some .cell)=true
    ·rw[if_pos hc] at hx
     cases hx
     simp only[Bool.and_eq_true,beq_iff_eq] at hc
     exact .inr ⟨rfl,by rw[hc.1.1],hc.2⟩
    ·rw[if_neg hc] at hx
     exact .inl hx
  have mem:∀ x a,(x,a)∈ce.cells→(x,a)∈ow∨(x,a)∈fA env sc.names []:=fun x a h=>by rw[e5] at h;exact List.mem_append.mp h
  have low:∀ x a,(x,a)∈ow→s.heap.objs.size+1≤a∧h1.IsCell a none:=fun x a h=>let ⟨q1,q2⟩:=ok.empty x a h;⟨q2,q1⟩
  have lcl:∀ x a,(x,a)∈fA env sc.names []→a < s.heap.objs.size∧(x,a)∈env.cells:=fun x a h=>by
   have hm:=mem_of_lookup (clk x a h).2
   obtain⟨_,_,_,q⟩:=V.privC _ hm
   refine⟨?_,hm⟩
   cases z:s.heap.get? a with
   |none=>exact absurd z q
   |some o=>exact aK z
  refine⟨jd,⟨?_,by rw[e3];exact V.glob,by rw[e4];exact V.bi,⟨_,by rw[e2];exact hns,fun y v h1 h2=>?_⟩,fun x v hv hk=>?_,fun x hk=>?_,?_,fun p hp=>?_,fun p hp q hq e=>?_⟩,up,fun b hb=>?_,fun b hb=>?_⟩
  ·rw[e1];exact hkind
  ·rcases down y _ h2 with h3|h3
   ·rw[jD (.inl h3)] at h1;cases h1
   ·cases h3.1
  ·have hf:sc.names.lookup x=some .free:=by
    rcases hk with hk|hk
    ·rcases down x _ hk with h3|h3
     ·rw[jD (.inr h3)] at hv;cases hv
     ·exact h3.2.1
    ·rcases down x _ hk with h3|h3
     ·exact h3
     ·cases h3.1
   have hmem:=mem_of_lookup hf
   rw[vp (fun k hk'=>by have:=nl x k hk';rw[hf] at this;cases this;exact⟨by decide,by decide⟩)] at hv
   obtain⟨_,hk'⟩:=hfree x hmem
   have hk2:env.kindOf x=some .cell∨env.kindOf x=some .free:=by
    rcases hk' with hk'|hk'
    ·exact .inl ((I.se x _ hk').resolve_right fun z=>absurd z.1 (by decide))
    ·rcases I.se x _ hk' with z|z
     ·exact .inr z
     ·exact .inl z.2
   obtain⟨a,u,ha,hc,ru⟩:=V.cell x v hv hk2
   exact⟨a,u,by rw[e5];exact clh x a hmem ha,hc.keeps jd,ru⟩
  ·rcases down x _ hk with h3|⟨_,h3,h4⟩
   ·obtain⟨a,ha⟩:=owh x h3
    refine⟨a,none,?_,(low x a (mem_of_lookup ha)).2⟩
    rw[e5,dX,ha];rfl
   ·obtain⟨a,u,ha,hc⟩:=V.isCell x h4
    exact⟨a,u,by rw[e5];exact clh x a (mem_of_lookup h3) ha,hc.keeps jd⟩
  ·rw[e2];exact⟨offμ _ (Nat.le_refl _),offG _ (Nat.le_refl _)⟩
  ·rcases mem p.1 p.2 hp with h|h
   ·obtain⟨q1,o,q2,_⟩:=low _ _ h
    refine⟨offμ _ (by omega),offG _ (by omega),?_,by rw[q2];simp⟩
    rw[e2];exact Nat.ne_of_gt q1
   ·obtain⟨q1,q2⟩:=lcl _ _ h
    obtain⟨z1,z2,z3,z4⟩:=V.privC _ q2
    refine⟨z1,z2,?_,gv jd _ z4⟩
    rw[e2];exact Nat.ne_of_lt q1
  ·rcases mem p.1 p.2 hp with h|h<;>rcases mem q.1 q.2 hq with h'|h'
   ·exact name_of_addr ok.apart h (by rw[e];exact h')
   ·have q1:=(low _ _ h).1
    have q2:=(lcl _ _ h').1
    rw[e] at q1
    exact absurd q2 (Nat.not_lt.mpr (Nat.le_of_succ_le q1))
   ·have q1:=(low _ _ h').1
    have q2:=(lcl _ _ h).1
    rw[e] at q2
    exact absurd q2 (Nat.not_lt.mpr (Nat.le_of_succ_le q1))
   ·exact V.inj _ (lcl _ _ h).2 _ (lcl _ _ h').2 e
  ·rcases List.mem_cons.mp hb with rfl|hb
   ·rw[e2];exact dead _ (Nat.le_refl _)
   ·obtain⟨p,hp,rfl⟩:=List.mem_map.mp hb
    obtain⟨hp,hk⟩:=List.mem_filter.mp hp
    rcases mem p.1 p.2 hp with h|h
    ·exact dead _ (by have:=(low _ _ h).1;omega)
    ·rw[(clk _ _ h).1] at hk;exact absurd hk (by decide)
  ·rcases List.mem_cons.mp hb with rfl|hb
   ·left;rw[e2];exact dead _ (Nat.le_refl _)
   ·obtain⟨p,hp,rfl⟩:=List.mem_map.mp hb
    rcases mem p.1 p.2 hp with h|h
    ·left;exact dead _ (by have:=(low _ _ h).1;omega)
    ·right;exact List.mem_map.mpr ⟨_,(lcl _ _ h).2,rfl⟩
 exact key _ rfl rfl rfl rfl rfl
end
section
variable{prog:Program}{w:World}{cls:Str→Option Addr}{B G G' G0:Heap}{μ μ' μ0:List Addr}{H H':Hp}{s s' s0:Shared}{A:Around}{E:Value→Shared→Prop}
variable{T:gI}{m mb:Str→Option Value}{K:Frag}{n:Nat}{c:Cx}{env:Env}
abbrev wx(env:Env):PySem.Expr→Bool→Sem (ForInStep Bool):=fun c r=>if r=true then do let ok←isTrue c env (eval c env);pure (ForInStep.yield ok) else pure (ForInStep.yield r)
theorem Bt:∀ (es:List PySem.Expr),forIn es false (wx env)=(pure false:Sem Bool)
 |[]=>rfl
 |x::es=>by
  rw[List.forIn_cons]
  show(pure (ForInStep.yield false) >>=_:Sem Bool)=_
  rw[pure_bind]
  exact Bt es
theorem JG(ih:gT T prog w cls B n)(hr:bA A n):∀ {es:List PySem.Expr} {b:Bool} {G:Heap} {μ:List Addr} {H H':Hp} {s:Shared},DT (aQ T n) c es H=some (b,H')→cB prog w cls B c env G μ H s→
  wpAny (model prog w) A (forIn es true (wx env)) (k8 prog w cls B [] G μ s H' b) E s:=by
 intro es
 induction es with
 |nil=>
  intro b G μ H H' s e I
  cases e
  rw[List.forIn_nil]
  exact wpAny_pure ⟨G,μ,Nx.refl _ _ _ _,I.S,rfl⟩
 |cons x es ihs=>
  intro b G μ H H' s e I
  obtain⟨z,H1,e1,e2⟩:=ag e
  rw[List.forIn_cons]
  show wpAny _ _ ((isTrue x env (eval x env) >>=fun ok=>pure (ForInStep.yield ok)) >>=_) _ _ _
  refine wpAny_bind (wpAny_bind (r8 (ih.tst e1 hr I) I.tk fun s1 G1 μ1 n1 S1 t1=>?_))
  refine wpAny_pure ?_
  have I1:=I.next n1 S1 t1
  cases z with
  |false=>
   cases e2
   show wpAny _ _ (forIn es false (wx env)) _ _ _
   rw[Bt]
   exact wpAny_pure ⟨G1,μ1,n1,S1,rfl⟩
  |true=>
   show wpAny _ _ (forIn es true (wx env)) _ _ _
   exact wpAny_mono (ihs e2 I1) (fun _ _ h=>h.lift n1) fun _ _ h=>h
theorem y9{ρ:Ev}{x y:Str}{v:MV}(h:y≠x):(lU ρ x v).lookup y=ρ.lookup y:=by
 unfold lU
 induction ρ with
 |nil=>rfl
 |cons p r ih=>
  rw[List.map_cons]
  by_cases hp:p.1=x
  ·have hb:(p.1==x)=true:=by simp[hp]
   rw[hb,cond_true,List.lookup_cons,List.lookup_cons]
   have:(y==p.1)=false:=by simp[hp,h]
   rw[this];exact ih
  ·have hb:(p.1==x)=false:=by simp[hp]
   rw[hb,cond_false,List.lookup_cons,List.lookup_cons,ih]
theorem lq{sc:Scope}{x:Str}{v:MV}{ρ ρ':Ev}(e:store sc x v ρ=some ρ'):(sc.names.lookup x=some .local∨sc.names.lookup x=some .cell)∧ρ'=lU ρ x v:=by
 unfold store at e
 split at e
 ·cases q:ρ.any (fun p=>p.1==x) with
  |false=>rw[q] at e;cases e
  |true=>rw[q] at e;cases e;exact⟨.inl (by assumption),rfl⟩
 ·cases q:ρ.any (fun p=>p.1==x) with
  |false=>rw[q] at e;cases e
  |true=>rw[q] at e;cases e;exact⟨.inr (by assumption),rfl⟩
 ·cases e
theorem tc{sc:Scope}{x:Str}{v:MV}{ρ ρ':Ev}(e:store sc x v (bJ sc ρ)=some ρ')(y:Str)(z:MV)(h:((bJ sc ρ).lookup y).join=some z):(ρ'.lookup y).join=some z:=by
 obtain⟨hk,rfl⟩:=lq e
 rw[y9 (fun hy=>by subst hy;rw[jD hk] at h;cases h)]
 exact h
def Mh(T:gI)(prog:Program)(w:World)(cls:Str→Option Addr)(B:Heap)(A:Around)(n:Nat)(p:List Addr)(d:Addr→Prop)(it:Value)(ms:List MV)(x:Str)(px:Pos)(elt:PySem.Expr)(ifs:List PySem.Expr)(sc:Scope)(ρ:Ev)(env:Env)(ys:List MV)(H':Hp)(D:Addr)(G0:Heap)(μ0:List Addr)(s0:Shared)(N:Nat)(s:Shared):Prop:=
 ∃ j G μ H zs acc rest,N=ms.length - j∧j≤ms.length∧ja (aQ T n) sc (.Name x px) elt ifs (bJ sc ρ) (ms.drop j) H=some (rest,H')∧acc++rest=ys∧acc.length≤j∧Nx (own sc env) G0 μ0 s0 G μ s∧
   cB prog w cls B ⟨sc,bJ sc ρ⟩ env G μ H s∧pq prog w cls A p d it ms j G μ s.heap∧s.heap.PlainList D zs∧aW prog w cls G μ zs.toList acc∧D∉μ∧G.get? D=none
theorem wG(ih:gT T prog w cls B n)(hr:bA A n){d:Addr→Prop}{p:List Addr}{it:Value}{ms:List MV}{x:Str}{px:Pos}{iter elt:PySem.Expr}{ifs:List PySem.Expr}{sc:Scope}{pos:Pos}{ρ:Ev}{D:Addr}{ys:List MV}{R:Result→Shared→Prop}
  (hd:∀ b,d b→s0.heap.get? b=none) (hp:∀ a∈priv env,a∈p) (hDp:D∈p) (hDe:D∉priv env) (hD0:s0.heap.get? D=none) (hz:ms.length≤1000000)
  (hR:∀ s' G' μ' zs,Nx (own sc env) G0 μ0 s0 G' μ' s'→cB prog w cls B ⟨sc,bJ sc ρ⟩ env G' μ' H' s'→s'.heap.PlainList D zs→aW prog w cls G' μ' zs.toList ys→D∉μ'→R (.ok .next) s')
  (e:ja (aQ T n) sc (.Name x px) elt ifs (bJ sc ρ) ms H=some (ys,H')) (nx:Nx (own sc env) G0 μ0 s0 G μ s) (I:cB prog w cls B ⟨sc,bJ sc ρ⟩ env G μ H s) (hX:pq prog w cls A p d it ms 0 G μ s.heap) (hDl:s.heap.PlainList D #[]) (hDμ:D∉μ) (hDG:G.get? D=none):
  codeAny (model prog w) A (.compLoop (.ListComp elt [⟨.Name x px,iter,ifs,0⟩] sc pos) 0 it (.ref D) env) R s:=by
 refine codeAny_compLoop_tests (Mh T prog w cls B A n p d it ms x px elt ifs sc ρ env ys H' D G0 μ0 s0)
  (fun N s hI=>?_) ms.length ⟨0,G,μ,H,#[],[],ys,rfl,Nat.zero_le _,e,rfl,Nat.zero_le _,nx,I,hX,hDl,.nil,hDμ,hDG⟩
 clear e nx I hX hDl hDμ hDG
 obtain⟨j,G,μ,H,zs,acc,rest,rfl,hj,e,hacc,hal,nx,I,hX,hDl,hrep,hDμ,hDG⟩:=hI
 have hDo:D∉own sc env:=fun h=>hDe (jI D h)
 by_cases hl:j=ms.length
 ·subst hl
  rw[List.drop_length] at e
  cases e
  rw[List.append_nil] at hacc
  subst hacc
  refine wpAny_mono (hX.done hd hp nx I (Q:=fun s2=>R (.ok .next) s2) fun s2 n2 kp I2=>?_) (fun r s1 y=>?_) fun _ _ h=>h
  ·obtain⟨nn,ho⟩:=hDl
   exact hR s2 G μ zs n2 I2 ⟨nn,kp D _ hDo hDμ (.inr (.inr hDp)) ho⟩ hrep hDμ
  ·obtain⟨rfl,y⟩:=y
   exact y
 ·have hlt:j < ms.length:=by omega
  rw[List.drop_eq_getElem_cons hlt] at e
  obtain⟨o,Ho,eo,er⟩:=ag (show bnd (BS (aQ T n) sc (.Name x px) elt ifs (bJ sc ρ) ms[j]) (fun o=>bnd (ja (aQ T n) sc (.Name x px) elt ifs (bJ sc ρ) (ms.drop (j+1))) fun ys=>ret (o.toList++ys)) H=some (rest,H') from e)
  obtain⟨ys',H5,e8,e9⟩:=ag er
  obtain⟨rfl,rfl⟩:=cx e9
  obtain⟨ρ',H1,e1,e3⟩:=ag (show bnd (opt ((oA (.Name x px) ms[j]).bind fun ps=>bb sc ps (bJ sc ρ))) (fun ρ'=>bnd (DT (aQ T n) ⟨sc,ρ'⟩ ifs) fun b=>
   bif b then bnd ((aQ T n).ev ⟨sc,ρ'⟩ elt) fun y=>ret (some y) else ret none) H=some (o,Ho) from eo)
  obtain⟨e2,rfl⟩:=bB e1
  clear e1
  obtain⟨b,H2,e4,e5⟩:=ag e3
  have hst:=tS e2
  refine wpAny_mono (hX.turn (px:=px) hd hp (List.getElem?_eq_getElem hlt) hst nx I (Q:=fun s2=>wpAny (model prog w) A (forIn ifs true (wx env)) (fun ok s₃=>
      if ok=true then wpAny (model prog w) A (eval elt env) (fun xv s₄=>
       wpAny (model prog w) A (PySem.call (.builtin "list.append") [.ref D,xv]) (fun _ s₅=>∃ m,m < ms.length - j∧Mh T prog w cls B A n p d it ms x px elt ifs sc ρ env ys H' D G0 μ0 s0 m s₅) (notedBy (model prog w) A env fun e s'=>R (.error e) s') s₄) (notedBy (model prog w) A env fun e s'=>R (.error e) s') s₃
      else ∃ m,m < ms.length - j∧Mh T prog w cls B A n p d it ms x px elt ifs sc ρ env ys H' D G0 μ0 s0 m s₃) (notedBy (model prog w) A env fun e s'=>R (.error e) s') s2) fun s2 n2 kp I2 hX2=>?_) (fun r s1 y=>?_) fun _ _ h=>h
  ·obtain⟨nn,ho⟩:=hDl
   have hD2:=kp D _ hDo hDμ (.inr (.inr hDp)) ho
   refine r8 (JG ih hr e4 I2) I2.tk fun s3 G3 μ3 n3 S3 t3=>?_
   have I3:=I2.next n3 S3 t3
   have hX3:=hX2.next n3 (fun _ h=>by cases h)
   have n23:=n2.trans (n3.weaken (P':=own sc env) fun _ h=>by cases h)
   have alive2:s2.heap.get? D≠none:=by rw[hD2];simp
   have hD3:=n3.keeps D _ hD2 hDμ (by simp)
   have hDμ3:D∉μ3:=fun q=>(n3.newμ D q).elim hDμ alive2
   have hDG3:G3.get? D=none:=by
    cases q:G3.get? D with
    |none=>rfl
    |some o=>exact((n3.newG D (by rw[q];simp)).elim (fun z=>absurd hDG z) fun z=>absurd z alive2)
   cases b with
   |false=>
    rw[if_neg (by simp)]
    obtain⟨rfl,rfl⟩:=cx (show ret (none:Option MV) H2=some (o,Ho) from e5)
    exact⟨ms.length - (j+1),by omega,j+1,G3,μ3,Ho,zs,acc,ys',rfl,hlt,e8,by simpa using hacc,by omega,n23,⟨I3.S,I3.V.fewer (tc hst),I3.se,I3.tk⟩,hX3,⟨nn,hD3⟩,hrep.mono n3.sub n3.pre,hDμ3,hDG3⟩
   |true=>
    rw[if_pos rfl]
    obtain⟨y,H4,e6,e7⟩:=ag (show bnd ((aQ T n).ev ⟨sc,ρ'⟩ elt) (fun y=>ret (some y)) H2=some (o,Ho) from e5)
    obtain⟨rfl,rfl⟩:=cx e7
    refine be (ih.ev e6 hr I3) t3 fun r s4 G4 μ4 n4 S4 r4 t4=>?_
    have I4:=I3.next n4 S4 t4
    have hX4:=hX3.next n4 (fun _ h=>by cases h)
    have n24:=n23.trans (n4.weaken (P':=own sc env) fun _ h=>by cases h)
    have alive3:s3.heap.get? D≠none:=by rw[hD3];simp
    have hD4:=n4.keeps D _ hD3 hDμ3 (by simp)
    have hDμ4:D∉μ4:=fun q=>(n4.newμ D q).elim hDμ3 alive3
    have hDG4:G4.get? D=none:=by
     cases q:G4.get? D with
     |none=>rfl
     |some o=>exact((n4.newG D (by rw[q];simp)).elim (fun z=>absurd hDG3 z) fun z=>absurd z alive3)
    have hlen:=hrep.length
    have hlen':zs.size=acc.length:=by rw[←hlen];simp
    have hfit:zs.size+1≤sizeLine:=by rw[sizeLine_eq];omega
    refine wpAny_list_append_plain ⟨nn,hD4⟩ (fun h5 hp5 hs5=>?_) (by have:=Nat.le_of_succ_le hfit;simpa using this)
    obtain⟨n5',ho5⟩:=id hp5
    have k5:∀ b o,b∉[D]→s4.heap.get? b=some o→h5.get? b=some o:=fun b o hb e=>(hs5.2 b fun z=>hb (by simp[z])).trans e
    have n5:Nx [D] G4 μ4 s4 G4 μ4 { s4 with heap:=h5 }:=
     ⟨Le.refl _,⟨[],by simp⟩,fun b o e _ hb=>k5 b o hb e,⟨_,s4.toks,rfl⟩,fun _ h=>.inl h,fun _ h=>.inl h,ej hs5 (by rw[ho5];simp)⟩
    have I5:cB prog w cls B ⟨sc,bJ sc ρ⟩ env G4 μ4 Ho { s4 with heap:=h5 }:=
     cB.dead (tk:=s4.toks) ⟨I4.S,I4.V.fewer (tc hst),I4.se,I4.tk⟩ k5 (fun b hb=>by rw[List.mem_singleton.mp hb];exact hDG4) (fun b hb=>by rw[List.mem_singleton.mp hb];exact hDμ4) (fun b hb=>by rw[List.mem_singleton.mp hb];exact hDe) t4
    have nD:Nx (own sc env) G0 μ0 s0 G4 μ4 { s4 with heap:=h5 }:=n24.dead (tk:=s4.toks) k5 fun b hb=>by rw[List.mem_singleton.mp hb];exact hD0
    refine⟨ms.length - (j+1),by omega,j+1,G4,μ4,Ho,zs.push r,acc++[y],ys',rfl,hlt,e8,by rw[←hacc];simp,by simp;omega,nD,I5,hX4.next n5 (fun a h=>by rw[List.mem_singleton.mp h];exact hDp),hp5,?_,hDμ4,hDG4⟩
    rw[Array.toList_push]
    exact((hrep.mono n3.sub n3.pre).mono n4.sub n4.pre).append (.cons r4 .nil)
  ·obtain⟨v',rfl,y⟩:=y
   exact y
end
section
variable{prog:Program}{w:World}{cls:Str→Option Addr}{B G G' G0:Heap}{μ μ' μ0:List Addr}{H H':Hp}{s s' s0:Shared}{A:Around}{E:Value→Shared→Prop}
variable{T:gI}{m mb:Str→Option Value}{K:Frag}{n:Nat}{c:Cx}{env:Env}{d:Addr→Prop}
def xD(prog:Program)(w:World)(cls:Str→Option Addr)(B G:Heap)(μ:List Addr)(H:Hp)(ms:List MV)(X:Value→Heap→Prop)(s:Shared)(itv:Value)(s2:Shared):Prop:=
 (∃ h tk,s2={ s with heap:=h,toks:=tk }∧Le s.heap h)∧ms.length≤1000000∧X itv s2.heap
theorem xD.nx{ms:List MV}{X:Value→Heap→Prop}{itv:Value}{s2:Shared}(x:xD prog w cls B G μ H ms X s itv s2)(S:St prog w cls B G μ H s.heap):Nx [] G μ s G μ s2∧St prog w cls B G μ H s2.heap:=by
 obtain⟨⟨h,tk,rfl,k⟩,_⟩:=x
 exact⟨cS k,S.grow k⟩
theorem Ex{a:Addr}{vs:List Value}{ms:List MV}{p:List Addr}(hh:A.handled=none)(S:St prog w cls B G μ H s.heap)(hl:G.PlainList a vs.toArray)(r:aW prog w cls G μ vs ms)(hd:∀ b,s.heap.get? b=none→d b):
  pq prog w cls A [] d (.ref s.heap.objs.size) ms 0 G μ (s.heap.push { cls:=.type "list_iterator",data:=.fields #[.ref a,.int 0 0] }):=by
 obtain⟨nn,ho⟩:=hl
 have hG:G.get? a≠none:=by rw[ho];simp
 have ha:s.heap.get? a=some _:=S.keep _ _ ho
 have hne:a≠s.heap.objs.size:=Nat.ne_of_lt (aK ha)
 have hlen:vs.toArray.size=ms.length:=by simpa using r.length
 refine⟨s.heap.objs.size,[s.heap.objs.size,a],[s.heap.objs.size],_,_,rfl,hlen▸Walks.list hh s.heap.objs.size a hne vs.toArray,fun i v hv=>?_,⟨⟨_,Heap.get?_push_size _ rfl,rfl,rfl⟩,⟨_,Heap.get?_push_of_some _ ha,rfl,_,rfl⟩⟩,fun i h hst b hb=>?_,⟨fun b hb=>?_,fun b hb=>?_,fun b hb=>?_⟩⟩
 ·have hv':vs[i]?=some v:=by simpa using hv
  cases z:ms[i]? with
  |none=>
   have:=List.getElem?_eq_none_iff.mp z
   obtain⟨q,_⟩:=List.getElem?_eq_some_iff.mp hv'
   rw[←r.length] at this;omega
  |some m'=>
   obtain⟨v',e',rv⟩:=r.get z
   cases hv'.symm.trans e'
   exact⟨m',rfl,rv⟩
 ·obtain⟨⟨o1,e1,_⟩,⟨o2,e2,_⟩⟩:=hst
  rcases List.mem_cons.mp hb with rfl|hb
  ·rw[e1];simp
  ·rw[List.mem_singleton.mp hb,e2];simp
 ·rcases List.mem_cons.mp hb with rfl|hb
  ·exact⟨S.new,by simp,.inr (hd _ bV)⟩
  ·rw[List.mem_singleton.mp hb]
   exact⟨fun hm=>hG (S.off a hm),by simp,.inl hG⟩
 ·rw[List.mem_singleton.mp hb]
  exact⟨S.newG,hd _ bV⟩
 ·rw[List.mem_singleton.mp hb];simp
theorem DB{a:Addr}{vs:List Value}{ms:List MV}{p:List Addr}(hh:A.handled=none)(S:St prog w cls B G μ H s.heap)(hl:G.IsTuple a vs.toArray)(r:aW prog w cls G μ vs ms)(hd:∀ b,s.heap.get? b=none→d b):
  pq prog w cls A [] d (.ref s.heap.objs.size) ms 0 G μ (s.heap.push { cls:=.type "tuple_iterator",data:=.fields #[.ref a,.int 0 0] }):=by
 have ht:s.heap.IsTuple a vs.toArray:=aT hl S.keep
 obtain⟨o,ho,hrest⟩:=hl
 have hG:G.get? a≠none:=by rw[ho];simp
 have ha:s.heap.get? a=some _:=S.keep _ _ ho
 have hne:a≠s.heap.objs.size:=Nat.ne_of_lt (aK ha)
 have hlen:vs.toArray.size=ms.length:=by simpa using r.length
 refine⟨s.heap.objs.size,[s.heap.objs.size,a],[s.heap.objs.size],_,_,rfl,hlen▸Walks.tuple hh s.heap.objs.size a hne vs.toArray,fun i v hv=>?_,⟨⟨_,Heap.get?_push_size _ rfl,rfl,rfl⟩,ht.push _⟩,fun i h hst b hb=>?_,⟨fun b hb=>?_,fun b hb=>?_,fun b hb=>?_⟩⟩
 ·have hv':vs[i]?=some v:=by simpa using hv
  cases z:ms[i]? with
  |none=>
   have:=List.getElem?_eq_none_iff.mp z
   obtain⟨q,_⟩:=List.getElem?_eq_some_iff.mp hv'
   rw[←r.length] at this;omega
  |some m'=>
   obtain⟨v',e',rv⟩:=r.get z
   cases hv'.symm.trans e'
   exact⟨m',rfl,rv⟩
 ·obtain⟨⟨o1,e1,_⟩,⟨o2,e2,_⟩⟩:=hst
  rcases List.mem_cons.mp hb with rfl|hb
  ·rw[e1];simp
  ·rw[List.mem_singleton.mp hb,e2];simp
 ·rcases List.mem_cons.mp hb with rfl|hb
  ·exact⟨S.new,by simp,.inr (hd _ bV)⟩
  ·rw[List.mem_singleton.mp hb]
   exact⟨fun hm=>hG (S.off a hm),by simp,.inl hG⟩
 ·rw[List.mem_singleton.mp hb]
  exact⟨S.newG,hd _ bV⟩
 ·rw[List.mem_singleton.mp hb];simp
theorem DQ{v:MV}{r:Value}{ms:List MV}(hh:A.handled=none)(e:g9 v H=some (ms,H'))(S:St prog w cls B G μ H s.heap)(rr:bX prog w cls G μ r v)(hd:∀ b,s.heap.get? b=none→d b):
  H'=H∧wpAny (model prog w) A (pyIter r) (xD prog w cls B G μ H ms (fun itv h=>pq prog w cls A [] d itv ms 0 G μ h) s) E s:=by
 unfold g9 at e
 cases rr with
 |lst h1 r1=>
  dsimp only at e
  cases q:bZ _ with
  |false=>rw[q] at e;cases e
  |true=>
   rw[q] at e;cases e
   have hz:=bH q
   exact⟨rfl,wpAny_pyIter_list (aP h1 S.keep).isList ⟨⟨_,_,rfl,fun b o e=>Heap.get?_push_of_some _ e⟩,by omega,Ex (p:=[]) hh S h1 r1 hd⟩⟩
 |tup h1 r1=>
  dsimp only at e
  cases q:bZ _ with
  |false=>rw[q] at e;cases e
  |true=>
   rw[q] at e;cases e
   have hz:=bH q
   exact⟨rfl,wpAny_pyIter_tuple (aT h1 S.keep) ⟨⟨_,_,rfl,fun b o e=>Heap.get?_push_of_some _ e⟩,by omega,DB (p:=[]) hh S h1 r1 hd⟩⟩
 |_=>cases e
theorem nK{a c:Int}{N:Nat}{ms:List MV}{h:Heap}{I:Addr}(hh:A.handled=none)(S:St prog w cls B G μ H s.heap)(hI:s.heap.get? I=none)(hm:ms.length=N)(hms:∀ i,i < N→ms[i]?=some (.int (a+(i:Nat) * c)))
  (hit:IsRangeIter h I a (N:Int) c) (hd:∀ b,s.heap.get? b=none→d b):pq prog w cls A [] d (.ref I) ms 0 G μ h:=by
 have hμ:I∉μ:=fun hm=>by obtain⟨o,e⟩:=S.at hm;rw[hI] at e;cases e
 have hG:G.get? I=none:=by
  cases z:G.get? I with
  |none=>rfl
  |some o=>rw[S.keep _ _ z] at hI;cases hI
 refine⟨I,[I],[I],fun i v=>i < N∧∃ t,v=.int (a+(i:Nat) * c) t,(fun i h=>IsRangeIter h I (a+(i:Nat) * c) ((N:Int) - (i:Nat)) c),rfl,?_,fun i v hv=>?_,?_,fun i h hst b hb=>?_,⟨fun b hb=>?_,fun b hb=>?_,fun b hb=>hb⟩⟩
 ·have W:=Walks.range (prog:=prog) (w:=w) hh I a c N
  rw[hm]
  exact⟨W.sub,W.frame,fun i s Q E hi hst hQ=>W.item i s Q E hi hst fun v h' tk hv=>hQ v h' tk ⟨hi,hv⟩,W.done,W.self⟩
 ·obtain⟨hi,t,rfl⟩:=hv
  exact⟨_,hms i hi,.int _ _⟩
 ·have e1:a+((0:Nat):Int) * c=a:=by simp
  have e2:(N:Int) - ((0:Nat):Int)=N:=by simp
  show IsRangeIter h I (a+((0:Nat):Int) * c) ((N:Int) - ((0:Nat):Int)) c
  rw[e1,e2];exact hit
 ·have hst':IsRangeIter h I (a+(i:Nat) * c) ((N:Int) - (i:Nat)) c:=hst
  rw[List.mem_singleton.mp hb,hst'];simp
 ·rw[List.mem_singleton.mp hb]
  exact⟨hμ,by simp,.inr (hd _ hI)⟩
 ·rw[List.mem_singleton.mp hb]
  exact⟨hG,hd _ hI⟩
theorem ju{i:Int}(h:small i=true):-100000≤i∧i≤100000:=by
 unfold small at h
 obtain⟨h1,h2⟩:=Bool.and_eq_true_iff.mp h
 exact⟨of_decide_eq_true h1,of_decide_eq_true h2⟩
theorem hH(a b:Int):(di a b).length=(b - a).toNat:=by simp[di]
theorem tI{a b:Int}(i:Nat)(h:i < (b - a).toNat):(di a b)[i]?=some (.int (a+(i:Nat) * 1)):=by
 simp[di,List.getElem?_map,List.getElem?_range h]
theorem qo(a b:Int):(qH a b).length=(a - b).toNat:=by simp[qH]
theorem CZ{a b:Int}(i:Nat)(h:i < (a - b).toNat):(qH a b)[i]?=some (.int (a+(i:Nat) * (-1))):=by
 simp only[qH,List.getElem?_map,List.getElem?_range h,Option.map_some]
 congr 2
 omega
theorem Hs{xs ms:List MV}{as:List Value}(hh:A.handled=none)(e:dN xs=some ms)(S:St prog w cls B G μ H s.heap)(rs:aW prog w cls G μ as xs)(hd:∀ b,s.heap.get? b=none→d b):
  wpAny (model prog w) A (PySem.call (.type "range") as) (fun r s1=>wpAny (model prog w) A (pyIter r) (xD prog w cls B G μ H ms (fun itv h=>pq prog w cls A [] d itv ms 0 G μ h) s) E s1) E s:=by
 have two:∀ {h:Heap} {o o':Obj},Le h ((h.push o).push o'):=fun b x e=>Heap.get?_push_of_some _ (Heap.get?_push_of_some _ e)
 have dead2:∀ {o:Obj},s.heap.get? (s.heap.push o).objs.size=none:=fun {o}=>by
  cases z:s.heap.get? (s.heap.push o).objs.size with
  |none=>rfl
  |some x=>exact absurd (aK z) (by rw[Heap.size_push];exact Nat.not_lt.mpr (Nat.le_succ _))
 unfold dN at e
 split at e
 ·rename_i b
  cases rs with|cons r1 r0=>
  cases r0
  cases r1 with|int b t=>
  cases q:small b with
  |false=>rw[q] at e;cases e
  |true=>
   rw[q] at e;cases e
   obtain⟨q1,q2⟩:=ju q
   refine call_range_1 (wpAny_pyIter_range (IsRange.new ..) (small_one (by decide) (by decide) (by omega) (by omega)) ⟨⟨_,_,rfl,two⟩,?_,?_⟩)
   ·rw[hH];omega
   ·refine nK (a:=0) (c:=1) (N:=(b - 0).toNat) hh S dead2 (hH 0 b) (fun i hi=>tI i hi) ?_ hd
    have:Builtin.Range.rangeSize 0 b 1=(((b - 0).toNat:Nat):Int):=by rw[rangeSize_one];split<;>omega
    rw[←this]
    exact Heap.get?_push_size _ rfl
 ·rename_i a b
  cases rs with|cons r1 r0=>
  cases r0 with|cons r2 r0=>
  cases r0
  cases r1 with|int a t=>
  cases r2 with|int b u=>
  cases q:small a&&small b with
  |false=>rw[q] at e;cases e
  |true=>
   rw[q] at e;cases e
   obtain⟨q,q'⟩:=Bool.and_eq_true_iff.mp q
   obtain⟨q1,q2⟩:=ju q
   obtain⟨q3,q4⟩:=ju q'
   refine call_range_2 (wpAny_pyIter_range (IsRange.new ..) (small_one (by omega) (by omega) (by omega) (by omega)) ⟨⟨_,_,rfl,two⟩,?_,?_⟩)
   ·rw[hH];omega
   ·refine nK (a:=a) (c:=1) (N:=(b - a).toNat) hh S dead2 (hH a b) (fun i hi=>tI i hi) ?_ hd
    have:Builtin.Range.rangeSize a b 1=(((b - a).toNat:Nat):Int):=by rw[rangeSize_one];split<;>omega
    rw[←this]
    exact Heap.get?_push_size _ rfl
 ·rename_i a b c'
  cases rs with|cons r1 r0=>
  cases r0 with|cons r2 r0=>
  cases r0 with|cons r3 r0=>
  cases r0
  cases r1 with|int a t=>
  cases r2 with|int b u=>
  cases r3 with|int c' u'=>
  cases q:small a&&small b&&c'==-1 with
  |false=>rw[q] at e;cases e
  |true=>
   rw[q] at e;cases e
   simp only[Bool.and_eq_true] at q
   obtain⟨⟨q,q'⟩,q5⟩:=q
   obtain⟨q1,q2⟩:=ju q
   obtain⟨q3,q4⟩:=ju q'
   have:=eq_of_beq q5
   subst this
   have hsz:Builtin.Range.rangeSize a b (-1)=(((a - b).toNat:Nat):Int):=by
    unfold Builtin.Range.rangeSize
    rw[if_neg (by decide)]
    have:∀ x:Int,x / (-(-1))=x:=fun x=>by rw[show -(-1:Int)=1 from rfl,Int.ediv_one]
    rw[this]
    split<;>omega
   have hsm:Builtin.Range.small a b (-1)=true:=by
    unfold Builtin.Range.small
    rw[hsz]
    simp only[Builtin.Range.rangeFitsLong,Bool.and_eq_true,Bool.or_eq_true,decide_eq_true_eq,beq_iff_eq]
    rw[if_neg (by decide)]
    simp only[Builtin.Range.rangeFitsLong,Bool.and_eq_true,decide_eq_true_eq]
    omega
   refine call_range_3 (by decide) (wpAny_pyIter_range (IsRange.new ..) hsm ⟨⟨_,_,rfl,two⟩,?_,?_⟩) (.inl (PyProof.noPylong_small (by omega)))
   ·rw[qo];omega
   ·refine nK (a:=a) (c:=-1) (N:=(a - b).toNat) hh S dead2 (qo a b) (fun i hi=>CZ i hi) ?_ hd
    rw[←hsz]
    exact Heap.get?_push_size _ rfl
 ·cases e
end
end
section
open PySem PySem.W PySem.Calls PyProof.Rows PySem.SeqAt
open AutoSeq1 (wpAny_loadPart')
set_option maxRecDepth 100000
theorem kX(l:Addr)(aI:Array Value)(n:Nat)(dct:Option Addr)(sl:Array (Option Value)):
  Meets (Builtin.«enumerate.__new__» ⟨[.type "enumerate",.ref l],[]⟩) (fun _ R s=>s.heap.get? l=some { cls:=.type "tuple",dict:=dct,data:=.seq aI n,slots:=sl }∧
   R (.ok (.ret (.ref (s.heap.push { cls:=.type "tuple_iterator",data:=.fields #[.ref l,.int 0 0] }).objs.size)))
    { s with heap:=(s.heap.push { cls:=.type "tuple_iterator",data:=.fields #[.ref l,.int 0 0] }).push { cls:=.type "enumerate",data:=.fields #[.none,.bool false,.ref s.heap.objs.size,rawInt 0,.none,.none] } }):=
 .of_wp fun prog w A R s h=>by
  obtain⟨hp,g,d,tk,os⟩:=s;obtain⟨hl,h⟩:=h
  have hsub:=sub_enumerate
  have hL:Heap.IsTuple (Shared.heap ⟨hp,g,d,tk,os⟩) l aI:=⟨_,hl,rfl,n,rfl⟩
  wp_walk using wpAny_loadPart' hl
  refine wpAny_stack_any fun st=>wpAny_pure ?_
  split
  ·rename_i c _ _ _ _ _
   cases (c==Value.type "enumerate")
   ·wp_walk using wpAny_loadPart' hl,wpAny_pyIter_tuple hL
    exact⟨_,rfl,h⟩
   ·wp_walk using wpAny_loadPart' hl,wpAny_pyIter_tuple hL
    exact⟨_,rfl,h⟩
  ·wp_walk using wpAny_loadPart' hl,wpAny_pyIter_tuple hL
   exact⟨_,rfl,h⟩
section
variable{prog:Program}{w:World}{A:Around}{E:Value→Shared→Prop}{s:Shared}
theorem lR{l:Addr}{aI:Array Value}{Q:Value→Shared→Prop}(hL:s.heap.IsTuple l aI)
  (h:∀ h',IsEnum h' (s.heap.objs.size+1) s.heap.objs.size 0 .none→h'.IsTupleIter s.heap.objs.size l 0→h'.objs.size=s.heap.objs.size+2→
   (∀ b o,s.heap.get? b=some o→h'.get? b=some o)→Q (.ref (s.heap.objs.size+1)) { s with heap:=h' }):
  wpAny (model prog w) A (PySem.call (.type "enumerate") [.ref l]) Q E s:=by
 obtain⟨⟨c,dct,dt,sl⟩,hl,hc,n,hd⟩:=hL
 replace hc:c=.type "tuple":=hc
 replace hd:dt=.seq aI n:=hd
 subst hc hd
 refine callType_new F.called_enumerate (by decide) (F.typeCall_enumerate_1 _) (F.newCall_enumerate_1 _) (fun obj=>F.args_object_init_2 obj _) F.entry_enumerate_new
  (kX l aI n dct sl) ⟨hl,?_⟩
 have hz:(s.heap.push { cls:=.type "tuple_iterator",data:=.fields #[.ref l,.int 0 0] }).objs.size=s.heap.objs.size+1:=Heap.size_push ..
 show _∧_
 rw[hz]
 have he:IsEnum ((s.heap.push { cls:=.type "tuple_iterator",data:=.fields #[.ref l,.int 0 0] }).push
   { cls:=.type "enumerate",data:=.fields #[.none,.bool false,.ref s.heap.objs.size,rawInt 0,.none,.none] }) (s.heap.objs.size+1) s.heap.objs.size 0 .none:=by
  have:=Heap.get?_push_size (s.heap.push { cls:=.type "tuple_iterator",data:=.fields #[.ref l,.int 0 0] })
   (o:={ cls:=.type "enumerate",data:=.fields #[.none,.bool false,.ref s.heap.objs.size,rawInt 0,.none,.none] }) rfl
  rw[hz] at this;exact this
 refine⟨⟨_,he,rfl⟩,h _ he ⟨_,Heap.get?_push_of_some _ (Heap.get?_push_size _ rfl),rfl,rfl⟩ (by rw[Heap.size_push,hz]) fun b o x=>Heap.get?_push_of_some _ (Heap.get?_push_of_some _ x)⟩
theorem m9{it l:Addr}{i:Nat}{aI}{x:Value}{Q:Value→Shared→Prop}(hit:s.heap.IsTupleIter it l i)
  (hl:s.heap.IsTuple l aI) (hx:aI[i]?=some x)
  (hQ:∀ h',h'.IsTupleIter it l (i+1)→Heap.SameBut it s.heap h'→Q x { s with heap:=h' }):
  wpAny (model prog w) A (Builtin.SmallTypes.nextOf (.ref it)) Q E s:=by
 obtain⟨o,ho,hc,hd⟩:=id hit
 obtain⟨ol,hol,_,nl,hdl⟩:=hl
 unfold Builtin.SmallTypes.nextOf
 refine wpAny_bind (wpAny_callSpecial?_slot (name:=Str.ofString "__next__") hit.typeIs F.slot_tuple_iterator_next
  (wpAny_call_entry F.slot_tuple_iterator_next hit.typeIs F.entry_tuple_iterator_next ?_ (F.args_tuple_iterator_next_1 _)))
 show wpAny _ _ (field (.ref it) 0 >>=_) _ _ s
 refine wpAny_bind (wpAny_field ho hd (x:=.ref l) rfl ?_)
 show wpAny _ _ (if (Value.ref l==Value.none)=true then _ else _) _ _ s
 rw[if_neg (show ¬ ((Value.ref l==Value.none)=true) from Bool.false_ne_true)]
 show wpAny _ _ (field (.ref it) 1 >>=_) _ _ s
 refine wpAny_bind (wpAny_field ho hd (x:=.int i 0) rfl ?_)
 show wpAny _ _ (seqItems? (.ref l) >>=_) _ _ s
 refine wpAny_bind (wpAny_seqItems hol hdl ?_)
 simp only[Int.toNat_natCast,hx]
 refine wpAny_bind (wpAny_setField ho hd (by simp) (wpAny_pure ⟨x,rfl,wpAny_pure (hQ _ ?_ (Heap.SameBut.update ..))⟩))
 exact⟨_,Heap.get?_update_self _ ho (Obj.isFreed_of_fields (Obj.data_mapFields hd _)),(Obj.cls_mapFields ..).trans hc,by
  rw[Obj.data_mapFields hd];simp[rawInt]⟩
theorem n9{it l:Addr}{i:Nat}{aI}{Q:Value→Shared→Prop}(hh:A.handled=none)(hit:s.heap.IsTupleIter it l i)
  (hl:s.heap.IsTuple l aI) (hx:aI[i]?=none)
  (hE:∀ h' e,Heap.ExtBut it s.heap h'→(∃ o,h'.get? e=some o∧o.cls=.type "StopIteration")→E (.ref e) { s with heap:=h' }):
  wpAny (model prog w) A (Builtin.SmallTypes.nextOf (.ref it)) Q E s:=by
 obtain⟨o,ho,hc,hd⟩:=id hit
 obtain⟨ol,hol,_,nl,hdl⟩:=hl
 unfold Builtin.SmallTypes.nextOf
 refine wpAny_bind (wpAny_callSpecial?_slot (name:=Str.ofString "__next__") hit.typeIs F.slot_tuple_iterator_next
  (wpAny_call_entry F.slot_tuple_iterator_next hit.typeIs F.entry_tuple_iterator_next ?_ (F.args_tuple_iterator_next_1 _)))
 show wpAny _ _ (field (.ref it) 0 >>=_) _ _ s
 refine wpAny_bind (wpAny_field ho hd (x:=.ref l) rfl ?_)
 show wpAny _ _ (if (Value.ref l==Value.none)=true then _ else _) _ _ s
 rw[if_neg (show ¬ ((Value.ref l==Value.none)=true) from Bool.false_ne_true)]
 show wpAny _ _ (field (.ref it) 1 >>=_) _ _ s
 refine wpAny_bind (wpAny_field ho hd (x:=.int i 0) rfl ?_)
 show wpAny _ _ (seqItems? (.ref l) >>=_) _ _ s
 refine wpAny_bind (wpAny_seqItems hol hdl ?_)
 simp only[Int.toNat_natCast,hx]
 refine wpAny_bind (wpAny_rule (wpAny_bind (wpAny_setField ho hd (by simp) ?_)))
 show wpAny _ _ (newExc (.type "StopIteration") [] >>=_) _ _ _
 refine wpAny_bind ?_
 simp only[newExc,newTuple]
 refine wpAny_bind (wpAny_newObj_type ?_ (by size_fits))
 refine wpAny_bind (m:=firstArgMember _ _) (wpAny_of_eq (a:=Value.none) (by first|rfl|(simp only[firstArgMember];rfl)) ?_)
 refine wpAny_newObj_type ?_ (by size_fits)
 simp only[raiseNew]
 refine wpAny_bind (wpAny_handled ?_)
 first|rw[show A.in1.handled=none from hh]|rw[hh]
 refine wpAny_bind (wpAny_pure (wpAny_throw ?_))
 exact hE _ _ (((Heap.SameBut.update ..).extBut.push _).push _) ⟨_,Heap.get?_push_size _ rfl,rfl⟩
end
theorem D5{prog:Program}{w:World}{A:Around}(hh:A.handled=none)(it l:Addr)(hne:l≠it)(aI:Array Value):
  Draws prog w A it [it,l] aI.size (fun i v=>aI[i]?=some v) (fun i h=>h.IsTupleIter it l i∧h.IsTuple l aI) where
 live:=fun _ _ st=>let ⟨o,ho,_⟩:=st.1;⟨o,ho⟩
 frame:=fun _ _ _ st hk=>⟨st.1.at fun o e=>hk it (by simp) o e,st.2.at fun o e=>hk l (by simp) o e⟩
 item:=fun i s Q E hi st hQ=>by
  refine m9 st.1 st.2 (x:=aI[i]) (by simp[hi]) fun h' hit' hs'=>?_
  exact hQ _ h' s.toks (by simp[hi]) ⟨hit',st.2.extBut hs'.extBut hne⟩ hs'
 done:=fun s Q E st hE=>n9 hh st.1 st.2 (by simp) hE
section
variable{prog:Program}{w:World}{A:Around}{E:Value→Shared→Prop}{s:Shared}
theorem uA{elts:List PySem.Expr}{x1}{pos:Pos}{I l T:Addr}{i:Nat}{Q:Unit→Shared→Prop}(hit:s.heap.IsTupleIter I l i)(hQ:Q () s):
  wpAny (model prog w) A (letOwnedTupleGo (.Tuple elts x1 pos) (.ref I) (.ref T)) Q E s:=by
 obtain⟨o,ho,hc,hd⟩:=hit
 unfold letOwnedTupleGo
 refine wpAny_bind (wpAny_load ho ?_)
 rw[hc,hd]
 show wpAny _ A (if (["enumerate","zip","dict_itemiterator","dict_reverseitemiterator","odict_iterator","itertools.zip_longest","itertools.pairwise"].contains "tuple_iterator"&&
   (#[.ref l,.int i 0]:Array Value)[0]?==some (rawInt T))=true then _ else _) Q E s
 rw[if_neg (by
  intro h
  rw[show(["enumerate","zip","dict_itemiterator","dict_reverseitemiterator","odict_iterator","itertools.zip_longest","itertools.pairwise"].contains "tuple_iterator")=false from by decide,Bool.false_and] at h
  cases h)]
 exact wpAny_pure hQ
end
theorem sw{prog:Program}{w:World}{A:Around}(hh:A.handled=none)(I ax:Addr)(hne:ax≠I)(aI:Array Value)(Ts:Nat→Addr)(vals:Nat→Array Value)
  (hit:∀ j,j < aI.size→aI[j]?=some (.ref (Ts j))) (hTI:∀ j,j < aI.size→Ts j≠I):
  WalksU prog w A I (I::ax::(List.range aI.size).map Ts) [I] aI.size (fun j v=>j < aI.size∧v=vals j)
   (fun j h=>h.IsTupleIter I ax j∧h.IsTuple ax aI∧∀ k,k < aI.size→h.IsTuple (Ts k) (vals k))
   (fun j T h=>(j < aI.size∧T=Ts j)∧h.IsTupleIter I ax (j+1)∧h.IsTuple ax aI∧∀ k,k < aI.size→h.IsTuple (Ts k) (vals k)) where
 sub:=fun b hb=>by simp at hb;simp[hb]
 frame:=fun _ _ _ st hk=>⟨st.1.at fun o e=>hk I (by simp) o e,st.2.1.at fun o e=>hk ax (by simp) o e,
  fun k hk'=>(st.2.2 k hk').at fun o e=>hk (Ts k) (List.mem_cons_of_mem _ (List.mem_cons_of_mem _ (List.mem_map.mpr ⟨k,List.mem_range.mpr hk',rfl⟩))) o e⟩
 item:=fun i s Q E hi st hQ=>by
  refine wpAny_pyNext_tuple_item st.1 st.2.1 (x:=.ref (Ts i)) (hit i hi) fun h' hit' hs'=>?_
  have tup:∀ k,k < aI.size→h'.IsTuple (Ts k) (vals k):=fun k hk'=>(st.2.2 k hk').extBut hs'.extBut (hTI k hk')
  exact hQ (Ts i) (vals i) h' s.toks ⟨hi,rfl⟩ (tup i hi) ⟨⟨hi,rfl⟩,hit',st.2.1.extBut hs'.extBut hne,tup⟩ fun b o hb e=>hs'.extBut b o (fun h=>hb (by simp[h])) e
 go:=fun _ _ _ _ _ s Q _ hm hQ=>uA hm.2.1 (hQ s.heap hm.2 fun _ _ _ e=>e)
 apart:=fun j T _ hm hmem=>by
  rcases List.mem_cons.mp hmem with e|e
  ·exact hTI j hm.1.1 (hm.1.2▸e)
  ·cases e
 done:=fun s Q E st hQ=>wpAny_pyNext_tuple_end hh st.1 st.2.1 (by simp) fun h' he'=>hQ h' s.toks fun b o hb e=>he' b o (fun h=>hb (by simp[h])) e
 self:=fun _ _ _ _ st hQ=>wpAny_pyIter_tupleiter st.1 hQ
end
section
open PySem PySem.W PySem.Calls PyProof.Rows PySem.SeqAt
theorem oG:∀ (l:List MV) (k:Int) (i:Nat),(numbered k l)[i]?=l[i]?.map fun v=>.tup [.int (k+i),v]
 |[],k,i=>by simp[numbered]
 |v::r,k,0=>by simp[numbered]
 |v::r,k,i+1=>by
  simp only[numbered,List.getElem?_cons_succ]
  rw[oG r (k+1) i]
  have:k+1+(i:Int)=k+((i+1:Nat):Int):=by push_cast;omega
  rw[this]
theorem ff:∀ (l:List MV) (k:Int),(numbered k l).length=l.length
 |[],_=>rfl
 |v::r,k=>by simp[numbered,ff r]
theorem tU:∀ (a b:List MV) (i:Nat) (x y:MV),a[i]?=some x→b[i]?=some y→(gz a b)[i]?=some (.tup [x,y])
 |x::r,y::q,0,_,_,h1,h2=>by simp at h1 h2;simp[gz,h1,h2]
 |x::r,y::q,i+1,_,_,h1,h2=>by
  simp only[List.getElem?_cons_succ] at h1 h2
  simp only[gz,List.getElem?_cons_succ]
  exact tU r q i _ _ h1 h2
 |[],_,_,_,_,h,_=>by simp at h
 |_::_,[],_,_,_,_,h=>by simp at h
theorem lF:∀ (a b:List MV),(gz a b).length=min a.length b.length
 |[],_=>by simp[gz]
 |_::_,[]=>by simp[gz]
 |x::r,y::q=>by simp[gz,lF r q]
section
variable{prog:Program}{w:World}{cls:Str→Option Addr}{B G G' G0:Heap}{μ μ' μ0:List Addr}{H H':Hp}{s s' s0:Shared}{A:Around}{E:Value→Shared→Prop}
variable{T:gI}{m mb:Str→Option Value}{K:Frag}{n:Nat}{c:Cx}{env:Env}{d:Addr→Prop}
theorem eG(S:St prog w cls B G μ H s.heap)(hd:∀ b,s.heap.get? b=none→d b){b:Addr}(h:s.heap.get? b=none):b∉μ∧b∉([]:List Addr)∧(G.get? b≠none∨d b):=
 ⟨fun hm=>(by obtain⟨o,e⟩:=S.at hm;rw[h] at e;cases e),by simp,.inr (hd _ h)⟩
theorem jQ(S:St prog w cls B G μ H s.heap){b:Addr}(h:G.get? b≠none):b∉μ∧b∉([]:List Addr)∧(G.get? b≠none∨d b):=⟨fun hm=>h (S.off b hm),by simp,.inl h⟩
theorem lu(S:St prog w cls B G μ H s.heap)(hd:∀ b,s.heap.get? b=none→d b){b:Addr}(h:s.heap.get? b=none):G.get? b=none∧d b:=by
 refine⟨?_,hd _ h⟩
 cases z:G.get? b with
 |none=>rfl
 |some o=>rw[S.keep _ _ z] at h;cases h
theorem IE{h:Heap}{b:Addr}(hb:h.objs.size≤b):h.get? b=none:=by
 cases z:h.get? b with
 |none=>rfl
 |some o=>exact absurd (aK z) (Nat.not_lt.mpr hb)
theorem tG{it l e:Addr}{ms:List MV}{P:Nat→Value→Prop}{St0:Nat→Heap→Prop}{h:Heap}{old:Value}(S:St prog w cls B G μ H s.heap)(hd:∀ b,s.heap.get? b=none→d b)(D:Draws prog w A.in1 it [it,l] ms.length P St0)
  (hR:∀ i v,P i v→∃ m,ms[i]?=some m∧bX prog w cls G μ v m) (hl:∀ i h,St0 i h→h.get? l≠none) (he:IsEnum h e it 0 old) (hst:St0 0 h) (dit:s.heap.get? it=none) (de:s.heap.get? e=none) (hei:e≠it) (lG:G.get? l≠none):
  nX prog w cls A [] d (.ref e) (numbered 0 ms) 0 G μ h:=by
 have hle:e≠l:=fun z=>by
  obtain⟨o,ho⟩:∃ o,G.get? l=some o:=by cases q:G.get? l with|none=>exact absurd q lG|some o=>exact⟨o,rfl⟩
  rw[z,S.keep _ _ ho] at de;cases de
 have W:=(WalksT.enumerateD D e hei (by simp[hei,hle]) (by simp)).toU
 rw[←ff ms 0] at W
 refine⟨e,_,_,_,_,_,rfl,W,fun i vals hv=>?_,⟨⟨old,he⟩,hst⟩,fun i h hst b hb=>?_,⟨fun b hb=>?_,fun b hb=>?_,W.sub⟩⟩
 ·obtain⟨t,x,hx,rfl⟩:=hv
  obtain⟨m',e',rv⟩:=hR i x hx
  refine⟨_,_,.int i,m',rfl,?_,.int _ _,rv⟩
  rw[oG,e']
  simp
 ·obtain⟨⟨old',he'⟩,hst'⟩:=hst
  rcases List.mem_cons.mp hb with rfl|hb
  ·rw[he'];simp
  ·rcases List.mem_cons.mp hb with rfl|hb
   ·obtain⟨o,ho⟩:=D.live _ _ hst'
    rw[ho];simp
   ·rw[List.mem_singleton.mp hb];exact hl _ _ hst'
 ·rcases List.mem_cons.mp hb with rfl|hb
  ·exact eG S hd de
  ·rcases List.mem_cons.mp hb with rfl|hb
   ·exact eG S hd dit
   ·rw[List.mem_singleton.mp hb];exact jQ S lG
 ·rcases List.mem_cons.mp hb with rfl|hb
  ·exact lu S hd de
  ·rw[List.mem_singleton.mp hb];exact lu S hd dit
theorem aW.at{vs:List Value}{ms:List MV}(r:aW prog w cls G μ vs ms){i:Nat}{v:Value}(h:vs[i]?=some v):∃ m,ms[i]?=some m∧bX prog w cls G μ v m:=by
 cases z:ms[i]? with
 |none=>
  have:=List.getElem?_eq_none_iff.mp z
  obtain⟨q,_⟩:=List.getElem?_eq_some_iff.mp h
  rw[←r.length] at this;omega
 |some m'=>
  obtain⟨v',e',rv⟩:=r.get z
  cases h.symm.trans e'
  exact⟨m',rfl,rv⟩
theorem Fj{f:Str}{xs ms:List MV}{as:List Value}(hh:A.handled=none)(e:dr f xs=some ms)(S:St prog w cls B G μ H s.heap)(rs:aW prog w cls G μ as xs)(hd:∀ b,s.heap.get? b=none→d b):
  f∈bK∧wpAny (model prog w) A (PySem.call (k9 f) as) (fun r s1=>wpAny (model prog w) A (pyIter r) (xD prog w cls B G μ H ms (fun itv h=>nX prog w cls A [] d itv ms 0 G μ h) s) E s1) E s:=by
 unfold dr at e
 have d0:s.heap.get? s.heap.objs.size=none:=bV
 have dk:∀ k,s.heap.get? (s.heap.objs.size+k)=none:=fun k=>IE (Nat.le_add_right _ _)
 cases q1:f=="enumerate" with
 |true=>
  have:=eq_of_beq q1
  subst this
  rw[q1] at e
  dsimp only[cond_true] at e
  refine⟨by simp[bK],?_⟩
  show wpAny _ _ (PySem.call (.type "enumerate") as) _ _ _
  split at e
  ·rename_i l
   cases rs with|cons r1 r0=>
   cases r0
   cases r1 with|@lst a vs _ h1 r1=>
   cases q:bZ l with
   |false=>rw[q] at e;cases e
   |true=>
    rw[q] at e;cases e
    have hz:=bH q
    have hG:G.get? a≠none:=by obtain⟨_,ho⟩:=h1;rw[ho];simp
    have hls:=(aP h1 S.keep).isList
    refine call_enumerate_list hls fun h' he hit hsz hk=>wpAny_pyIter_enum he ⟨⟨h',s.toks,rfl,hk⟩,by rw[ff];omega,?_⟩
    have hne:a≠s.heap.objs.size:=by obtain⟨o,ho,_⟩:=hls;exact Nat.ne_of_lt (aK ho)
    have hlen:vs.toArray.size=l.length:=by simpa using r1.length
    exact tG S hd (hlen▸Draws.list (A:=A.in1) hh s.heap.objs.size a hne vs.toArray) (fun i v hv=>r1.at (by simpa using hv)) (fun i h hst=>by obtain⟨_,o,ho,_⟩:=hst;rw[ho];simp) he ⟨hit,hls.at fun o e=>hk _ o e⟩ d0 (dk 1) (Nat.succ_ne_self _) hG
  ·rename_i l
   cases rs with|cons r1 r0=>
   cases r0
   cases r1 with|@tup a vs _ h1 r1=>
   cases q:bZ l with
   |false=>rw[q] at e;cases e
   |true=>
    rw[q] at e;cases e
    have hz:=bH q
    have hG:G.get? a≠none:=by obtain⟨o,ho,_⟩:=h1;rw[ho];simp
    have hls:s.heap.IsTuple a vs.toArray:=aT h1 S.keep
    refine lR hls fun h' he hit hsz hk=>wpAny_pyIter_enum he ⟨⟨h',s.toks,rfl,hk⟩,by rw[ff];omega,?_⟩
    have hne:a≠s.heap.objs.size:=by obtain⟨o,ho,_⟩:=hls;exact Nat.ne_of_lt (aK ho)
    have hlen:vs.toArray.size=l.length:=by simpa using r1.length
    exact tG S hd (hlen▸D5 (A:=A.in1) hh s.heap.objs.size a hne vs.toArray) (fun i v hv=>r1.at (by simpa using hv)) (fun i h hst=>by obtain⟨_,o,ho,_⟩:=hst;rw[ho];simp) he ⟨hit,aT hls hk⟩ d0 (dk 1) (Nat.succ_ne_self _) hG
  ·cases e
 |false=>
  rw[q1] at e
  dsimp only[cond_false] at e
  cases q2:f=="zip" with
  |false=>rw[q2] at e;cases e
  |true=>
   have:=eq_of_beq q2
   subst this
   rw[q2] at e
   dsimp only[cond_true] at e
   refine⟨by simp[bK],?_⟩
   show wpAny _ _ (PySem.call (.type "zip") as) _ _ _
   split at e
   ·rename_i la lb
    cases rs with|cons r1 r0=>
    cases r0 with|cons r2 r0=>
    cases r0
    cases r1 with|@lst a vs _ h1 r1=>
    cases r2 with|@lst b us _ h2 r2=>
    cases q:bZ la&&bZ lb with
    |false=>rw[q] at e;cases e
    |true=>
     rw[q] at e;cases e
     have hz:=bH (Bool.and_eq_true_iff.mp q).1
     have hGa:G.get? a≠none:=by obtain⟨_,ho⟩:=h1;rw[ho];simp
     have hGb:G.get? b≠none:=by obtain⟨_,ho⟩:=h2;rw[ho];simp
     have hla:=(aP h1 S.keep).isList
     have hlb:=(aP h2 S.keep).isList
     have ha:a < s.heap.objs.size:=by obtain⟨o,ho,_⟩:=hla;exact aK ho
     have hb:b < s.heap.objs.size:=by obtain⟨o,ho,_⟩:=hlb;exact aK ho
     refine call_zip_2 hla hlb fun h' hz' hTI hTO hi1 hi2 _ hk=>wpAny_pyIter_zip hz' ⟨⟨h',s.toks,rfl,hk⟩,by rw[lF];omega,?_⟩
     have W:=(WalksT.zip2 (prog:=prog) (w:=w) hh (s.heap.objs.size+4) (s.heap.objs.size+2) (s.heap.objs.size+3) s.heap.objs.size (s.heap.objs.size+1) a b (zipApart_new ha hb) vs.toArray us.toArray).toU
     have hlen:min vs.toArray.size us.toArray.size=(gz la lb).length:=by rw[lF,←r1.length,←r2.length];simp
     rw[hlen] at W
     refine⟨_,_,_,_,_,_,rfl,W,fun i vals hv=>?_,⟨hz',hTI,⟨_,_,hTO⟩,hi1,hi2,hla.at fun o e=>hk _ o e,hlb.at fun o e=>hk _ o e⟩,fun i h hst x hx=>?_,⟨fun x hx=>?_,fun x hx=>?_,W.sub⟩⟩
     ·obtain⟨x,y,hx,hy,rfl⟩:=hv
      obtain⟨m1,e1,rx⟩:=r1.at (i:=i) (v:=x) (by simpa using hx)
      obtain⟨m2,e2,ry⟩:=r2.at (i:=i) (v:=y) (by simpa using hy)
      exact⟨x,y,m1,m2,rfl,tU _ _ _ _ _ e1 e2,rx,ry⟩
     ·obtain⟨z1,z2,⟨_,_,z3⟩,⟨o4,z4,_⟩,⟨o5,z5,_⟩,⟨o6,z6,_⟩,⟨o7,z7,_⟩⟩:=hst
      simp only[List.mem_cons,List.not_mem_nil,or_false] at hx
      rcases hx with rfl|rfl|rfl|rfl|rfl|rfl|rfl
      ·rw[z1];simp
      ·rw[z2];simp
      ·rw[z3];simp
      ·rw[z4];simp
      ·rw[z5];simp
      ·rw[z6];simp
      ·rw[z7];simp
     ·simp only[List.mem_cons,List.not_mem_nil,or_false] at hx
      rcases hx with rfl|rfl|rfl|rfl|rfl|rfl|rfl
      ·exact eG S hd (dk 4)
      ·exact eG S hd (dk 2)
      ·exact eG S hd (dk 3)
      ·exact eG S hd d0
      ·exact eG S hd (dk 1)
      ·exact jQ S hGa
      ·exact jQ S hGb
     ·simp only[List.mem_cons,List.not_mem_nil,or_false] at hx
      rcases hx with rfl|rfl|rfl|rfl
      ·exact lu S hd (dk 4)
      ·exact lu S hd (dk 3)
      ·exact lu S hd d0
      ·exact lu S hd (dk 1)
   ·cases e
theorem zA{v:MV}{r:Value}{ms:List MV}(hh:A.handled=none)(e:pM v H=some (ms,H'))(S:St prog w cls B G μ H s.heap)(rr:bX prog w cls G μ r v)(hd:∀ b,s.heap.get? b=none→d b):
  H'=H∧wpAny (model prog w) A (pyIter r) (xD prog w cls B G μ H ms (fun itv h=>nX prog w cls A [] d itv ms 0 G μ h) s) E s:=by
 unfold pM at e
 cases rr with
 |@tup a vs ws h1 r1=>
  dsimp only at e
  cases q:bZ ws&&ws.all Av with
  |false=>rw[q] at e;cases e
  |true=>
   rw[q] at e;cases e
   obtain⟨q1,q2⟩:=Bool.and_eq_true_iff.mp q
   have hz:=bH q1
   have hls:s.heap.IsTuple a vs.toArray:=aT h1 S.keep
   refine⟨rfl,wpAny_pyIter_tuple hls ⟨⟨_,s.toks,rfl,fun b o e=>Heap.get?_push_of_some _ e⟩,by omega,?_⟩⟩
   have hG:G.get? a≠none:=by obtain⟨o,ho,_⟩:=h1;rw[ho];simp
   have hne:a≠s.heap.objs.size:=by obtain⟨o,ho,_⟩:=hls;exact Nat.ne_of_lt (aK ho)
   have hlen:vs.toArray.size=ms.length:=by simpa using r1.length
   have each:∀ j,j < vs.toArray.size→∃ Tj x y m1 m2,vs[j]?=some (.ref Tj)∧G.IsTuple Tj #[x,y]∧ms[j]?=some (.tup [m1,m2])∧bX prog w cls G μ x m1∧bX prog w cls G μ y m2:=fun j hj=>by
    have hj':j < vs.length:=by simpa using hj
    have hv:vs[j]?=some vs[j]:=List.getElem?_eq_getElem hj'
    obtain⟨mj,hm,rj⟩:=r1.at hv
    have hp:=List.all_eq_true.mp q2 mj (List.mem_of_getElem? hm)
    unfold Av at hp
    split at hp
    ·rename_i m1 m2
     generalize vs[j]=vj at hv rj
     cases rj with
     |@tup Tj us _ hT rT=>
     cases rT with|cons ra rT=>
     cases rT with|cons rb rT=>
     cases rT
     exact⟨Tj,_,_,m1,m2,hv,hT,hm,ra,rb⟩
    ·cases hp
   have hTs:=fun j=>if hj:j < vs.toArray.size then ∃ Tj,vs[j]?=some (.ref Tj) else True
   let Ts:Nat→Addr:=fun j=>match vs[j]? with
    |some (.ref b)=>b
    |_=>0
   let vals:Nat→Array Value:=fun j=>match G.get? (Ts j) with
    |some o=>(match o.data with
     |.seq xs _=>xs
     |_=>#[])
    |none=>#[]
   have tj:∀ j,j < vs.toArray.size→vs[j]?=some (.ref (Ts j))∧G.IsTuple (Ts j) (vals j)∧∃ x y m1 m2,vals j=#[x,y]∧ms[j]?=some (.tup [m1,m2])∧bX prog w cls G μ x m1∧bX prog w cls G μ y m2:=fun j hj=>by
    obtain⟨Tj,x,y,m1,m2,hv,hT,hm,ra,rb⟩:=each j hj
    have eT:Ts j=Tj:=by show(match vs[j]? with|some (.ref b)=>b|_=>0)=_;rw[hv]
    have ev:vals j=#[x,y]:=by
     obtain⟨o,ho,_,nn,hdt⟩:=hT
     show(match G.get? (Ts j) with|some o=>(match o.data with|.seq xs _=>xs|_=>#[])|none=>#[])=_
     rw[eT,ho]
     dsimp only
     rw[hdt]
    rw[eT,ev]
    exact⟨hv,hT,x,y,m1,m2,rfl,hm,ra,rb⟩
   have W:=sw (prog:=prog) (w:=w) hh s.heap.objs.size a hne vs.toArray Ts vals (fun j hj=>by simpa using (tj j hj).1) (fun j hj=>by
    obtain⟨o,ho,_⟩:=(tj j hj).2.1
    exact Nat.ne_of_lt (aK (S.keep _ _ ho)))
   rw[hlen] at W
   refine⟨_,_,_,_,_,_,rfl,W,fun i vl hv=>?_,⟨⟨_,Heap.get?_push_size _ rfl,rfl,rfl⟩,hls.push _,fun k hk=>aT (aT (tj k (by omega)).2.1 S.keep) fun b o e=>Heap.get?_push_of_some _ e⟩,fun i h hst b hb=>?_,⟨fun b hb=>?_,fun b hb=>?_,W.sub⟩⟩
   ·obtain⟨hi,rfl⟩:=hv
    obtain⟨_,_,x,y,m1,m2,ev,hm,ra,rb⟩:=tj i (by omega)
    exact⟨x,y,m1,m2,ev,hm,ra,rb⟩
   ·obtain⟨⟨o1,z1,_⟩,⟨o2,z2,_⟩,z3⟩:=hst
    rcases List.mem_cons.mp hb with rfl|hb
    ·rw[z1];simp
    ·rcases List.mem_cons.mp hb with rfl|hb
     ·rw[z2];simp
     ·obtain⟨k,hk,rfl⟩:=List.mem_map.mp hb
      obtain⟨o,ho,_⟩:=z3 k (List.mem_range.mp hk)
      rw[ho];simp
   ·rcases List.mem_cons.mp hb with rfl|hb
    ·exact eG S hd bV
    ·rcases List.mem_cons.mp hb with rfl|hb
     ·exact jQ S hG
     ·obtain⟨k,hk,rfl⟩:=List.mem_map.mp hb
      obtain⟨o,ho,_⟩:=(tj k (by have:=List.mem_range.mp hk;omega)).2.1
      exact jQ S (by rw[ho];simp)
   ·rw[List.mem_singleton.mp hb]
    exact lu S hd bV
 |_=>cases e
end
section
variable{prog:Program}{w:World}{cls:Str→Option Addr}{B G G' G0:Heap}{μ μ' μ0:List Addr}{H H':Hp}{s s' s0:Shared}{A:Around}{E:Value→Shared→Prop}
variable{T:gI}{m mb:Str→Option Value}{K:Frag}{n:Nat}{c:Cx}{env:Env}{d:Addr→Prop}
def sg(prog:Program)(w:World)(cls:Str→Option Addr)(B G:Heap)(μ:List Addr)(s:Shared)(H':Hp)(ms:List MV)(X:Value→Heap→List Addr→Heap→Prop):Value→Shared→Prop:=fun itv s2=>
 1≤s2.toks∧∃ G' μ',Nx [] G μ s G' μ' s2∧St prog w cls B G' μ' H' s2.heap∧ms.length≤1000000∧X itv G' μ' s2.heap
abbrev Ie(prog:Program)(w:World)(cls:Str→Option Addr)(A:Around)(s:Shared)(ms:List MV):Value→Heap→List Addr→Heap→Prop:=fun itv G μ h=>pq prog w cls A [] (fun b=>s.heap.get? b=none) itv ms 0 G μ h
abbrev BW(prog:Program)(w:World)(cls:Str→Option Addr)(A:Around)(s:Shared)(ms:List MV):Value→Heap→List Addr→Heap→Prop:=fun itv G μ h=>nX prog w cls A [] (fun b=>s.heap.get? b=none) itv ms 0 G μ h
theorem BR{t:Sem Value}{f:Value→Sem Value}{Q:Value→Shared→Prop}(tk:1≤s.toks)(h:wpAny (model prog w) A t (fun r s1=>wpAny (model prog w) A (f r) (fun a s2=>1≤s2.toks→Q a s2) E s1) E s):
  wpAny (model prog w) A t (fun r s1=>wpAny (model prog w) A (f r) Q E s1) E s:=
 wpAny_with_toks tk (wpAny_mono h (fun r s1 hr ht=>wpAny_with_toks ht (wpAny_mono hr (fun a s2 h=>h) fun _ _ e _=>e)) fun _ _ e _=>e)
theorem xD.to{s1 s2:Shared}{G1:Heap}{μ1:List Addr}{ms:List MV}{X:Value→Heap→List Addr→Heap→Prop}{itv:Value}(n1:Nx [] G μ s G1 μ1 s1)(S1:St prog w cls B G1 μ1 H' s1.heap)(x:xD prog w cls B G1 μ1 H' ms (fun v h=>X v G1 μ1 h) s1 itv s2)(t2:1≤s2.toks):
  sg prog w cls B G μ s H' ms X itv s2:=by
 obtain⟨n2,S2⟩:=x.nx S1
 exact⟨t2,G1,μ1,n1.trans n2,S2,x.2.1,x.2.2⟩
theorem oV(ih:gT T prog w cls B n)(hr:bA A n){it:PySem.Expr}{ms:List MV}(e:bnd ((aQ T n).ev c it) g9 H=some (ms,H'))(I:cB prog w cls B c env G μ H s):
  wpAny (model prog w) A (eval it env) (fun xv s1=>wpAny (model prog w) A (pyIter xv) (sg prog w cls B G μ s H' ms (Ie prog w cls A s ms)) E s1) E s:=by
 obtain⟨v,H1,e1,e2⟩:=ag e
 refine BR I.tk (be (ih.ev e1 hr I) I.tk fun r s1 G1 μ1 n1 S1 r1 t1=>?_)
 obtain⟨rfl,hw⟩:=DQ (E:=E) (d:=fun b=>s.heap.get? b=none) hr.1 e2 S1 r1 fun b hb=>eD n1.alive hb
 exact wpAny_mono hw (fun itv s2 x t2=>x.to (X:=Ie prog w cls A s ms) n1 S1 t2) fun _ _ h=>h
theorem wi(F:eQ T prog w cls B m mb K)(ih:gT T prog w cls B n)(hr:bA A n){it:PySem.Expr}{ms:List MV}(e:aI (aQ T n) c it H=some (ms,H'))(I:cB prog w cls B c env G μ H s):
  wpAny (model prog w) A (eval it env) (fun xv s1=>wpAny (model prog w) A (pyIter xv) (sg prog w cls B G μ s H' ms (Ie prog w cls A s ms)) E s1) E s:=by
 unfold aI at e
 split at e
 ·rename_i f p as q
  cases qg:ez c f&&f=="range" with
  |false=>
   rw[qg] at e
   exact oV ih hr e I
  |true=>
   rw[qg] at e
   obtain⟨q1,q2⟩:=Bool.and_eq_true_iff.mp qg
   have:=eq_of_beq q2
   subst this
   obtain⟨vs,H1,e1,e2⟩:=ag (show bnd (sI (aQ T n) c as) (fun vs=>opt (dN vs)) H=some (ms,H') from e)
   obtain⟨e3,rfl⟩:=bB e2
   rw[arm_eval_Call_Name']
   have hg:s.heap.Ns env.globals m:=by rw[I.V.glob];exact I.S.ns F.g
   obtain⟨hm,hb⟩:=F.bi "range" (by simp[bK])
   refine BR I.tk (wpAny_bind (Name_function_global I.V.kind (eH q1 I.se) (loadGlobal_builtin hg hm (by rw[I.V.bi];exact I.S.ns F.b) hb ?_)))
   have hpl:=dv q (env:=env) e1
   refine PySem.callWith_type hpl (dO hpl (jA (gB ih hr e1 I) I.tk fun rs s1 G1 μ1 n1 S1 r1 t1=>?_))
   exact wpAny_mono (Hs (d:=fun b=>s.heap.get? b=none) hr.1 e3 S1 r1 fun b hb=>eD n1.alive hb) (fun r s2 hq=>wpAny_mono hq (fun itv s3 x t3=>x.to (X:=Ie prog w cls A s ms) n1 S1 t3) fun _ _ h=>h) fun _ _ h=>h
 ·exact oV ih hr e I
theorem CX{f:Str}{xs ms:List MV}(e:dr f xs=some ms):f∈bK:=by
 unfold dr at e
 cases q1:f=="enumerate" with
 |true=>rw[eq_of_beq q1];simp[bK]
 |false=>
  rw[q1] at e
  cases q2:f=="zip" with
  |true=>rw[eq_of_beq q2];simp[bK]
  |false=>rw[q2] at e;cases e
theorem Cj(F:eQ T prog w cls B m mb K)(ih:gT T prog w cls B n)(hr:bA A n){it:PySem.Expr}{ms:List MV}(e:lO (aQ T n) c it H=some (ms,H'))(I:cB prog w cls B c env G μ H s):
  wpAny (model prog w) A (eval it env) (fun xv s1=>wpAny (model prog w) A (pyIter xv) (sg prog w cls B G μ s H' ms (BW prog w cls A s ms)) E s1) E s:=by
 unfold lO at e
 split at e
 ·rename_i f p as q
  cases qg:ez c f&&ci f with
  |false=>rw[qg] at e;cases e
  |true=>
   rw[qg] at e
   obtain⟨q1,q2⟩:=Bool.and_eq_true_iff.mp qg
   obtain⟨vs,H1,e1,e2⟩:=ag (show bnd (sI (aQ T n) c as) (fun vs=>opt (dr f vs)) H=some (ms,H') from e)
   obtain⟨e3,rfl⟩:=bB e2
   rw[arm_eval_Call_Name']
   have hg:s.heap.Ns env.globals m:=by rw[I.V.glob];exact I.S.ns F.g
   have hf:=CX e3
   obtain⟨hm,hb⟩:=F.bi f hf
   refine BR I.tk (wpAny_bind (Name_function_global I.V.kind (eH q1 I.se) (loadGlobal_builtin hg hm (by rw[I.V.bi];exact I.S.ns F.b) hb ?_) (cV q2)))
   have hpl:=dv q (env:=env) e1
   have hgo:wpAny (model prog w) A (spliced (backTo q (starEach as env))) (fun vs s'=>wpAny (model prog w) A (PySem.call (k9 f) vs) (fun r s1=>wpAny (model prog w) A (pyIter r) (fun a s2=>1≤s2.toks→sg prog w cls B G μ s H' ms (BW prog w cls A s ms) a s2) E s1) E s') E s:=
    jA (gB ih hr e1 I) I.tk fun rs s1 G1 μ1 n1 S1 r1 t1=>
     wpAny_mono (Fj (d:=fun b=>s.heap.get? b=none) hr.1 e3 S1 r1 fun b hb=>eD n1.alive hb).2 (fun r s2 hq=>wpAny_mono hq (fun itv s3 x t3=>x.to (X:=BW prog w cls A s ms) n1 S1 t3) fun _ _ h=>h) fun _ _ h=>h
   rcases rM f with⟨id,hid⟩|⟨U,hid⟩
   ·rw[hid] at hgo ⊢
    exact Calls.callWith_builtin hpl (dO hpl hgo)
   ·rw[hid] at hgo ⊢
    exact PySem.callWith_type hpl (dO hpl hgo)
 ·obtain⟨v,H1,e1,e2⟩:=ag e
  refine BR I.tk (be (ih.ev e1 hr I) I.tk fun r s1 G1 μ1 n1 S1 r1 t1=>?_)
  obtain⟨rfl,hw⟩:=zA (E:=E) (d:=fun b=>s.heap.get? b=none) hr.1 e2 S1 r1 fun b hb=>eD n1.alive hb
  exact wpAny_mono hw (fun itv s2 x t2=>x.to (X:=BW prog w cls A s ms) n1 S1 t2) fun _ _ h=>h
end
section
variable{prog:Program}{w:World}{cls:Str→Option Addr}{B G G' G0:Heap}{μ μ' μ0:List Addr}{H H' H1:Hp}{s s' s0:Shared}{A:Around}{E:Value→Shared→Prop}
variable{T:gI}{m mb:Str→Option Value}{K:Frag}{n:Nat}{c:Cx}{env:Env}{d:Addr→Prop}
theorem FI{n:Nat}{es:List PySem.Expr}{k:Nat}{p:Pos}:(aQ T n).ev c (.Set es k p) H=none:=by
 cases n with
 |zero=>rfl
 |succ n=>rfl
theorem B7{it:PySem.Expr}{ms:List MV}(e:aI (aQ T n) c it H=some (ms,H'))(x:Value):foldedSetIterable it env x=pure x:=by
 cases it<;>first|rfl|skip
 obtain⟨v,H1,e1,e2⟩:=ag (show bnd ((aQ T n).ev c _) g9 H=some (ms,H') from e)
 rw[FI] at e1;cases e1
theorem Fv{it:PySem.Expr}{ms:List MV}(e:lO (aQ T n) c it H=some (ms,H'))(x:Value):foldedSetIterable it env x=pure x:=by
 cases it<;>first|rfl|skip
 obtain⟨v,H1,e1,e2⟩:=ag (show bnd ((aQ T n).ev c _) pM H=some (ms,H') from e)
 rw[FI] at e1;cases e1
theorem Nx.fresh{P:List Addr}(x:Nx P G μ s G' μ' s')(h:∀ a∈P,s.heap.get? a=none):Nx [] G μ s G' μ' s':=
 ⟨x.sub,x.pre,fun b o e h1 _=>x.keeps b o e h1 fun q=>(by rw[h b q] at e;cases e),x.same,x.newμ,x.newG,x.alive⟩
structure sj(prog:Program)(w:World)(cls:Str→Option Addr)(B G:Heap)(μ:List Addr)(s:Shared)(H':Hp)(ys:List MV)(r:Value)(s':Shared)(C:Addr)(G':Heap)(μ':List Addr):Prop where
 nx:Nx [] G μ s G' μ' s'
 S:St prog w cls B G' μ' H' s'.heap
 rep:bX prog w cls G' μ' r (.lst ys)
 ns:∃ f,s'.heap.Ns C f
 dead:s.heap.get? C=none
 μC:C∉μ'
 GC:G'.get? C=none
 tk:1≤s'.toks
theorem BH(F:eQ T prog w cls B m mb K)(ih:gT T prog w cls B n)(hr:bA A n){elt it:PySem.Expr}{ifs:List PySem.Expr}{x:Str}{px pos pos':Pos}{sc:Scope}{ms ys:List MV}(hok:fJ c sc=true)
  (e1:aI (aQ T n) c it H=some (ms,H1)) (e2:ja (aQ T n) sc (.Name x px) elt ifs (bJ sc c.ρ) ms H1=some (ys,H')) (I:cB prog w cls B c env G μ H s) {use:Option (Value→Sem Unit)} {Q:Value→Shared→Prop}
  (hQ:∀ r s' C G' μ',sj prog w cls B G μ s H' ys r s' C G' μ'→compPost (model prog w) A E use Q r C (.ok .next) s'):
  wpAny (model prog w) A (comprehension (.ListComp elt [⟨.Name x px,it,ifs,0⟩] sc pos) sc env pos' (newList []) false (eval it env) use) Q E s:=by
 obtain⟨hkind,hnd,hfree⟩:=jR hok
 refine wpAny_comprehension_free rfl (B7 e1) (Jw (Gw I hok)) hkind (fun y hy hl=>gX hnd (by rw[←hl];exact hy)) ?_
 refine wpAny_mono (wi F ih hr e1 I) (fun xv s1 hx=>wpAny_mono hx (fun itv s2 hy=>?_) fun _ _ h=>h) fun _ _ h=>h
 obtain⟨t2,G2,μ2,n2,S2,hlen,X⟩:=hy
 refine wpAny_newList ?_ (by rw[sizeLine_eq];simp)
 have hD2:s2.heap.get? s2.heap.objs.size=none:=bV
 have hD0:s.heap.get? s2.heap.objs.size=none:=eD n2.alive hD2
 have hDμ:=S2.new
 have hDG:=S2.newG
 have gD:=Heap.get?_push_size s2.heap (o:={ cls:=.type "list",data:=.seq ([]:List Value).toArray }) rfl
 have S3:=S2.push' { cls:=.type "list",data:=.seq ([]:List Value).toArray }
 have n3:Nx [] G2 μ2 s2 G2 μ2 { s2 with heap:=s2.heap.push { cls:=.type "list",data:=.seq ([]:List Value).toArray } }:=vE
 have k3:Le s2.heap (s2.heap.push { cls:=.type "list",data:=.seq ([]:List Value).toArray }):=fun b o e=>Heap.get?_push_of_some _ e
 generalize s2.heap.objs.size=D at hD2 hD0 hDμ hDG gD ⊢
 generalize s2.heap.push { cls:=.type "list",data:=.seq ([]:List Value).toArray }=h3 at gD S3 n3 k3 ⊢
 have I3:=I.next (n2.trans n3) S3 t2
 refine yo hok I3 fun ce h1 CA=>?_
 obtain⟨cenv,hce⟩:∃ z:Env,z={ ce with scope:=relabel sc env }:=⟨_,rfl⟩
 have hloc:ce.locals=cenv.locals:=by rw[hce]
 rw[←hce] at CA ⊢
 rw[hloc]
 clear hce hloc
 have hD3:s.heap.get? D=none:=hD0
 have X':=X.more (q:=D::priv cenv) fun b hb hb2 hm=>by
  rcases List.mem_cons.mp hm with rfl|hm
  ·exact hb hD2
  ·rcases CA.cells b hm with hd|hc
   ·cases z:s2.heap.get? b with
    |none=>exact hb z
    |some o=>have:=k3 b o z;rw[show h3.get? b=none from hd] at this;cases this
   ·obtain⟨p,hp,rfl⟩:=List.mem_map.mp hc
    obtain⟨q1,q2,q3,q4⟩:=I.V.privC p hp
    rcases hb2 with z|z
    ·exact(n2.newG _ z).elim (fun y=>y q2) fun y=>q4 y
    ·exact q4 z
 have n4:Nx [] G2 μ2 s2 G2 μ2 { s2 with heap:=h1,toks:=s2.toks }:=cS fun b o e=>CA.le b o (k3 b o e)
 have X4:=X'.next n4 fun _ h=>by cases h
 have hDe:D∉priv cenv:=fun hm=>by
  rcases CA.cells D hm with hd|hc
  ·rw[show h3.get? D=none from hd] at gD;cases gD
  ·obtain⟨p,hp,e⟩:=List.mem_map.mp hc
   exact(I.V.privC p hp).2.2.2 (by rw[e];exact hD0)
 have fresh:∀ b∈own sc cenv,s.heap.get? b=none:=fun b hb=>eD (h':=h3) (fun a ha=>(n2.trans n3).alive a ha) (CA.fresh b hb)
 have n04:Nx (own sc cenv) G μ s G2 μ2 { s2 with heap:=h1,toks:=s2.toks }:=(n2.trans n4).weaken fun _ h=>by cases h
 have I4:cB prog w cls B ⟨sc,bJ sc c.ρ⟩ cenv G2 μ2 H1 { s2 with heap:=h1,toks:=s2.toks }:=⟨S3.grow CA.le,CA.V,CA.se,t2⟩
 have hpl:h1.PlainList D #[]:=⟨_,CA.le _ _ gD⟩
 have mq:codeAny (model prog w) A (.compLoop (.ListComp elt [⟨.Name x px,it,ifs,0⟩] sc pos) 0 itv (.ref D) cenv) (compPost (model prog w) A E use Q (.ref D) cenv.locals) { s2 with heap:=h1,toks:=s2.toks }:=by
  refine wG ih hr (s0:=s) (G0:=G) (μ0:=μ) (fun b h=>h) (fun a h=>?_) (by simp) hDe hD0 hlen (fun s' G' μ' zs nx' I' hpl' hrep' hDμ'=>?_) e2 n04 I4 X4 hpl hDμ hDG
  ·simp[h]
  ·obtain⟨G'',g1,g2,g3,S''⟩:=I'.S.more [D] fun a ha=>by rw[List.mem_singleton.mp ha];exact hDμ'
   have hCD:cenv.locals≠D:=fun z=>hDe (by rw[←z];exact List.mem_cons_self)
   have nf:=nx'.fresh fresh
   refine hQ _ s' cenv.locals G'' μ' ⟨⟨nf.sub.trans g1,nf.pre,nf.keeps,nf.same,nf.newμ,fun a ha=>?_,nf.alive⟩,S'',?_,?_,fresh _ List.mem_cons_self,I'.V.privL.1,?_,I'.tk⟩
   ·rcases g3 a ha with z|z
    ·exact nf.newG a z
    ·right;rw[List.mem_singleton.mp z];exact hD0
   ·obtain⟨nn,ho⟩:=hpl'
    refine .lst (vs:=zs.toList) ⟨nn,(g2 _ List.mem_cons_self).trans ho⟩ (hrep'.mono g1 ⟨[],by simp⟩)
   ·obtain⟨f,hn,_⟩:=I'.V.ns
    exact⟨f,hn⟩
   ·cases z:G''.get? cenv.locals with
    |none=>rfl
    |some o=>exact((g3 _ (by rw[z];simp)).elim (fun y=>absurd I'.V.privL.2 y) fun y=>absurd (List.mem_singleton.mp y) hCD)
 exact codeAny_compStart_list mq (pq.self X4 mq)
end
section
variable{prog:Program}{w:World}{cls:Str→Option Addr}{B G G' G0:Heap}{μ μ' μ0:List Addr}{H H' H1:Hp}{s s' s0:Shared}{A:Around}{E:Value→Shared→Prop}
variable{T:gI}{m mb:Str→Option Value}{K:Frag}{n:Nat}{c:Cx}{env:Env}{d:Addr→Prop}
theorem sj.post{ys:List MV}{r:Value}{C:Addr}(x:sj prog w cls B G μ s H' ys r s' C G' μ'){h':Heap}(hs:Heap.SameBut C s'.heap h'):bf prog w cls B [] G μ s H' (.lst ys) r { s' with heap:=h' }:=by
 have k:∀ b o,b∉[C]→s'.heap.get? b=some o→h'.get? b=some o:=fun b o hb e=>(hs.2 b fun z=>hb (by simp[z])).trans e
 have nx:=x.nx.dead (tk:=s'.toks) k fun b hb=>by rw[List.mem_singleton.mp hb];exact x.dead
 exact⟨G',μ',nx,x.S.dead k (fun b hb=>by rw[List.mem_singleton.mp hb];exact x.GC) (fun b hb=>by rw[List.mem_singleton.mp hb];exact x.μC),x.rep⟩
theorem Ch(F:eQ T prog w cls B m mb K)(ih:gT T prog w cls B n)(hr:bA A (n+1)){e:PySem.Expr}{v:MV}(h:lM T (aQ T n) c e H=some (v,H'))(I:cB prog w cls B c env G μ H s):
  wpAny (model prog w) A (eval e env) (bf prog w cls B [] G μ s H' v) E s:=by
 have hr0:bA A n:=hr.less (Nat.le_succ n)
 cases e with
 |Constant k j p=>
  obtain⟨h1,rfl⟩:=bB (show opt (wE k) H=some (v,H') from h)
  exact Fe h1 I.S
 |Name x p=>
  change (bif ci x then opt (name T c x) else fail) H=some (v,H') at h
  cases q:ci x with
  |false=>rw[q] at h;cases h
  |true=>
   rw[q] at h
   obtain⟨h1,rfl⟩:=bB (show opt (name T c x) H=some (v,H') from h)
   exact ml F I q h1 fun r rr=>aN I.S rr
 |BoolOp op es p=>exact GJ ih hr0 h I
 |BinOp a op b p=>
  obtain⟨x,H1,e1,e2⟩:=ag (show bnd ((aQ T n).ev c a) (fun x=>bnd ((aQ T n).ev c b) fun y=>opt (bF op x y)) H=some (v,H') from h)
  obtain⟨y,H2,e3,e4⟩:=ag e2
  obtain⟨e5,rfl⟩:=bB e4
  refine wpAny_BinOp (be (ih.ev e1 hr0 I) I.tk fun r s1 G1 μ1 n1 S1 r1 t1=>?_)
  refine be (ih.ev e3 hr0 (I.next n1 S1 t1)) t1 fun r' s2 G2 μ2 n2 S2 r2 t2=>?_
  exact wpAny_mono (Hk e5 S2 (r1.mono n2.sub n2.pre) r2) (fun _ _ h=>h.lift (n1.trans n2)) fun _ _ h=>h
 |UnaryOp op a p=>
  obtain⟨x,H1,e1,e2⟩:=ag (show bnd ((aQ T n).ev c a) (fun x=>opt (uC op x)) H=some (v,H') from h)
  obtain⟨e5,rfl⟩:=bB e2
  rw[arm_eval_UnaryOp]
  refine wpAny_bind (be (ih.ev e1 hr0 I) I.tk fun r s1 G1 μ1 n1 S1 r1 t1=>?_)
  refine wpAny_bind (wpAny_standAt (wpAny_holding ?_))
  exact wpAny_mono (Io e5 S1 r1) (fun _ _ h=>h.lift n1) fun _ _ h=>h
 |IfExp t a b p=>
  obtain⟨x,H1,e1,e2⟩:=ag (show bnd ((aQ T n).tst c t) (fun x=>bif x then (aQ T n).ev c a else (aQ T n).ev c b) H=some (v,H') from h)
  rw[arm_eval_IfExp]
  refine wpAny_bind (r8 (ih.tst e1 hr0 I) I.tk fun s1 G1 μ1 n1 S1 t1=>?_)
  have I1:=I.next n1 S1 t1
  cases x with
  |true=>rw[if_pos rfl];exact wpAny_mono (ih.ev e2 hr0 I1) (fun _ _ h=>h.lift n1) fun _ _ h=>h
  |false=>rw[if_neg (by simp)];exact wpAny_mono (ih.ev e2 hr0 I1) (fun _ _ h=>h.lift n1) fun _ _ h=>h
 |Dict ks es p=>
  change (bif Nat.ble ks.length 15 then bnd (gu (aQ T n) c ks es) fun es=>r6 T p es else fail) H=some (v,H') at h
  cases q:Nat.ble ks.length 15 with
  |false=>rw[q] at h;cases h
  |true=>rw[q] at h;exact IS F ih hr0 (Nat.le_of_ble_eq_true q) h I
 |List es p=>exact Kd ih hr0 h I
 |Tuple es k p=>exact EY ih hr0 h I
 |ListComp elt gens sc pos=>
  obtain⟨x,px,it,ifs,a,rfl⟩:∃ x px it ifs a,gens=[⟨.Name x px,it,ifs,a⟩]:=by
   cases gens with
   |nil=>cases h
   |cons g gs=>
    obtain⟨t,it,ifs,a⟩:=g
    cases gs with
    |cons _ _=>cases t<;>cases h
    |nil=>cases t<;>first|exact⟨_,_,_,_,_,rfl⟩|cases h
  replace h:(bif a==0&&fJ c sc then bnd (aI (aQ T n) c it) (fun vs=>bnd (ja (aQ T n) sc (.Name x px) elt ifs (bJ sc c.ρ) vs) fun ys=>ret (.lst ys)) else fail) H=some (v,H'):=h
  cases q:a==0&&fJ c sc with
  |false=>rw[q] at h;cases h
  |true=>
   rw[q] at h
   obtain⟨q1,q2⟩:=Bool.and_eq_true_iff.mp q
   have:=eq_of_beq q1
   subst this
   obtain⟨ms,H1,e1,e2⟩:=ag (show bnd (aI (aQ T n) c it) (fun vs=>bnd (ja (aQ T n) sc (.Name x px) elt ifs (bJ sc c.ρ) vs) fun ys=>ret (.lst ys)) H=some (v,H') from h)
   obtain⟨ys,H2,e3,e4⟩:=ag e2
   obtain⟨rfl,rfl⟩:=cx e4
   rw[eval_ListComp]
   exact BH F ih hr0 (use:=none) q2 e1 e3 I fun r s' C G' μ' x=>let ⟨f,hf⟩:=x.ns;⟨f,hf,fun h' hs=>x.post hs⟩
 |Compare l ops es p=>
  obtain⟨x,H1,e1,e2⟩:=ag (show bnd (xW (aQ T n) c l ops es) bool H=some (v,H') from h)
  obtain⟨rfl,rfl⟩:=cx e2
  rw[arm_eval_Compare]
  exact(BA ih hr0 e1 I).1
 |Call f as kws q=>
  cases kws with
  |nil=>exact C8 F ih hr h I
  |cons _ _=>cases h
 |Attribute o a p=>
  change (bif dy o then bnd ((aQ T n).ev c o) (fun ov=>opt (Cz ov a)) else fail) H=some (v,H') at h
  cases q:dy o with
  |false=>rw[q] at h;cases h
  |true=>rw[q] at h;exact vR F ih hr0 q h I
 |Subscript o i p=>
  cases i with
  |Slice lo hi st p'=>
   cases st with
   |none=>exact EK ih hr0 h I
   |some _=>exact Bj ih hr0 h I
  |_=>exact Bj ih hr0 h I
 |_=>cases h
theorem BV(ih:gT T prog w cls B n)(hr:bA A n){e:PySem.Expr}{b:Bool}(he:isTrue e env (eval e env)=(do let v←eval e env;standAt e.pos;holding [v] (truthy v)))(h:bnd ((aQ T n).ev c e) cI H=some (b,H'))(I:cB prog w cls B c env G μ H s):
  wpAny (model prog w) A (isTrue e env (eval e env)) (k8 prog w cls B [] G μ s H' b) E s:=by
 obtain⟨v,H1,e1,e2⟩:=ag h
 refine wpAny_isTrue_value (be (ih.ev e1 hr I) I.tk fun r s1 G1 μ1 n1 S1 r1 t1=>?_) he
 unfold cI at e2
 cases r1<;>first|(cases e2;done)|skip
 cases e2
 exact wpAny_truthy_bool ⟨G1,μ1,n1,S1,rfl⟩
theorem AE(ih:gT T prog w cls B n)(hr:bA A n){e:PySem.Expr}{b:Bool}(h:kc (aQ T n) c e H=some (b,H'))(I:cB prog w cls B c env G μ H s):
  wpAny (model prog w) A (isTrue e env (eval e env)) (k8 prog w cls B [] G μ s H' b) E s:=by
 cases e with
 |UnaryOp op a p=>
  cases op with
  |Not=>
   obtain⟨x,H1,e1,e2⟩:=ag (show bnd ((aQ T n).tst c a) (fun b=>ret (!b)) H=some (b,H') from h)
   obtain⟨rfl,rfl⟩:=cx e2
   exact wpAny_isTrue_Not (r8 (ih.tst e1 hr I) I.tk fun s1 G1 μ1 n1 S1 t1=>⟨G1,μ1,n1,S1,rfl⟩)
  |_=>exact BV ih hr rfl h I
 |BoolOp op es p=>
  rw[arm_isTrue_BoolOp]
  exact HG ih hr h I
 |IfExp t x y p=>
  obtain⟨z,H1,e1,e2⟩:=ag (show bnd ((aQ T n).tst c t) (fun z=>bif z then (aQ T n).tst c x else (aQ T n).tst c y) H=some (b,H') from h)
  rw[arm_isTrue_IfExp]
  refine wpAny_bind (r8 (ih.tst e1 hr I) I.tk fun s1 G1 μ1 n1 S1 t1=>?_)
  have I1:=I.next n1 S1 t1
  cases z with
  |true=>rw[if_pos rfl];exact wpAny_mono (ih.tst e2 hr I1) (fun _ _ h=>h.lift n1) fun _ _ h=>h
  |false=>rw[if_neg (by simp)];exact wpAny_mono (ih.tst e2 hr I1) (fun _ _ h=>h.lift n1) fun _ _ h=>h
 |Compare l ops es p=>
  rw[arm_isTrue_Compare]
  exact(BA ih hr h I).2
 |_=>exact BV ih hr rfl h I
end
section
variable{prog:Program}{w:World}{cls:Str→Option Addr}{B G G' G0:Heap}{μ μ' μ0:List Addr}{H H' H1:Hp}{s s' s0:Shared}{A:Around}{E:Value→Shared→Prop}
variable{T:gI}{m mb:Str→Option Value}{K:Frag}{n:Nat}{c:Cx}{env:Env}{sc:Scope}{ρ ρ':Ev}
def fH(prog:Program)(w:World)(cls:Str→Option Addr)(B:Heap)(sc:Scope)(env:Env)(G:Heap)(μ:List Addr)(s:Shared)(ρ':Ev)(H':Hp):Unit→Shared→Prop:=fun _ s'=>
 ∃ G' μ',Nx (own sc env) G μ s G' μ' s'∧cB prog w cls B ⟨sc,ρ'⟩ env G' μ' H' s'
theorem fH.lift{u:Unit}{s'':Shared}(n:Nx (own sc env) G μ s G' μ' s')(h:fH prog w cls B sc env G' μ' s' ρ H u s''):fH prog w cls B sc env G μ s ρ H u s'':=by
 obtain⟨G'',μ'',x,I⟩:=h
 exact⟨G'',μ'',n.trans x,I⟩
theorem Nx.wk{P:List Addr}(n:Nx [] G μ s G' μ' s'):Nx P G μ s G' μ' s':=n.weaken fun _ h=>by cases h
theorem yO(ih:gT T prog w cls B n)(hr:bA A n){t:PySem.Expr}{v:MV}{u:Value}(e:fk (aQ T n) sc t v ρ H=some (ρ',H'))(I:cB prog w cls B ⟨sc,ρ⟩ env G μ H s)(ru:bX prog w cls G μ u v):
  wpAny (model prog w) A (assign t env u) (fH prog w cls B sc env G μ s ρ' H') E s:=by
 cases t with
 |Name x p=>
  obtain⟨e1,rfl⟩:=bB (show opt (store sc x v ρ) H=some (ρ',H') from e)
  exact wpAny_assign_Name (wpAny_mono (fG I e1 ru) (fun _ s' y=>⟨G,μ,y.1,y.2⟩) fun _ _ h=>h)
 |Subscript o i p=>
  have hns:∀ lo hi st p',i≠.Slice lo hi st p':=fun lo hi st p' hi'=>by subst hi';cases e
  have e':bnd ((aQ T n).ev ⟨sc,ρ⟩ o) (fun ov=>bnd ((aQ T n).ev ⟨sc,ρ⟩ i) fun iv=>bnd (setItem ov iv v) fun _=>ret ρ) H=some (ρ',H'):=by
   cases i<;>first|exact e|exact absurd rfl (hns _ _ _ _)
  obtain⟨ov,H1,e1,e2⟩:=ag e'
  obtain⟨iv,H2,e3,e4⟩:=ag e2
  obtain⟨un,H3,e5,e6⟩:=ag e4
  obtain⟨rfl,rfl⟩:=cx e6
  rw[assign_Subscript]
  refine wpAny_bind (wpAny_holding (be (ih.ev e1 hr I) I.tk fun r s1 G1 μ1 n1 S1 r1 t1=>?_))
  have I1:=I.next n1 S1 t1
  refine wpAny_bind (wpAny_holding (be (ih.ev e3 hr I1) t1 fun r' s2 G2 μ2 n2 S2 r2 t2=>?_))
  have I2:=I1.next n2 S2 t2
  refine wpAny_bind (wpAny_standAt (wpAny_bind (wpAny_holding (wpAny_with_toks t2 (wpAny_mono (si e5 S2 (r1.mono n2.sub n2.pre) r2 ((ru.mono n1.sub n1.pre).mono n2.sub n2.pre)) (fun _ s3 y t3=>?_) fun _ _ h _=>h)))))
  obtain⟨G3,μ3,n3,S3⟩:=y
  refine wpAny_release ?_
  exact⟨G3,μ3,((n1.trans n2).trans n3).wk,I2.next n3 S3 t3⟩
 |_=>cases e
theorem mZ{t:PySem.Expr}{v u:MV}{k:Ev→M MV}(e:gi (aQ T n) sc t v ρ k H=some (u,H')):∃ ρ' H1,fk (aQ T n) sc t v ρ H=some (ρ',H1)∧k ρ' H1=some (u,H'):=by
 cases t with
 |Name x p=>
  obtain⟨ρ',H1,e1,e2⟩:=ag (show bnd (opt (store sc x v ρ)) k H=some (u,H') from e)
  exact⟨ρ',H1,e1,e2⟩
 |Subscript o i p=>
  have hns:∀ lo hi st p',i≠.Slice lo hi st p':=fun lo hi st p' hi'=>by subst hi';cases e
  have e':bnd ((aQ T n).ev ⟨sc,ρ⟩ o) (fun ov=>bnd ((aQ T n).ev ⟨sc,ρ⟩ i) fun iv=>bnd (setItem ov iv v) fun _=>k ρ) H=some (u,H'):=by
   cases i<;>first|exact e|exact absurd rfl (hns _ _ _ _)
  obtain⟨ov,H1,e1,e2⟩:=ag e'
  obtain⟨iv,H2,e3,e4⟩:=ag e2
  obtain⟨un,H3,e5,e6⟩:=ag e4
  refine⟨ρ,H3,?_,e6⟩
  have:bnd ((aQ T n).ev ⟨sc,ρ⟩ o) (fun ov=>bnd ((aQ T n).ev ⟨sc,ρ⟩ i) fun iv=>bnd (setItem ov iv v) fun _=>ret ρ) H=some (ρ,H3):=by
   unfold bnd
   rw[e1]
   dsimp only
   rw[e3]
   dsimp only
   rw[e5]
   rfl
  cases i<;>first|exact this|exact absurd rfl (hns _ _ _ _)
 |_=>cases e
theorem k7:∀ {ts:List PySem.Expr} {vs:List MV} {u:MV} {ρ:Ev} {H H':Hp} {k:Ev→M MV},dS (aQ T n) sc ts vs ρ k H=some (u,H')→∃ ρ' H1,dh (aQ T n) sc ts vs ρ H=some (ρ',H1)∧k ρ' H1=some (u,H')
 |[],[],u,ρ,H,H',k,e=>⟨ρ,H,rfl,e⟩
 |[],_::_,_,_,_,_,_,e=>by cases e
 |_::_,[],_,_,_,_,_,e=>by cases e
 |t::ts,v::vs,u,ρ,H,H',k,e=>by
  obtain⟨ρ1,H1,e1,e2⟩:=mZ (show gi (aQ T n) sc t v ρ (fun ρ'=>dS (aQ T n) sc ts vs ρ' k) H=some (u,H') from e)
  obtain⟨ρ2,H2,e3,e4⟩:=k7 e2
  refine⟨ρ2,H2,?_,e4⟩
  show bnd (fk (aQ T n) sc t v ρ) (fun ρ'=>dh (aQ T n) sc ts vs ρ') H=_
  unfold bnd
  rw[e1]
  exact e3
theorem fB:∀ (ts:List PySem.Expr),(assignEach ts env).length=ts.length
 |[]=>rfl
 |t::ts=>by
  have:=fB ts
  cases t<;>(show _+1=_+1;rw[this])
theorem jJ:∀ {ts:List PySem.Expr} {vs:List MV} {ρ ρ':Ev} {H H':Hp},dh (aQ T n) sc ts vs ρ H=some (ρ',H')→ts.length=vs.length
 |[],[],_,_,_,_,_=>rfl
 |[],_::_,_,_,_,_,e=>by cases e
 |_::_,[],_,_,_,_,e=>by cases e
 |t::ts,v::vs,ρ,ρ',H,H',e=>by
  obtain⟨ρ1,H1,e1,e2⟩:=ag (show bnd (fk (aQ T n) sc t v ρ) (fun ρ'=>dh (aQ T n) sc ts vs ρ') H=some (ρ',H') from e)
  rw[List.length_cons,List.length_cons,jJ e2]
theorem ie:∀ {ts:List PySem.Expr} {vs:List MV} {ρ ρ':Ev} {H H':Hp},dh (aQ T n) sc ts vs ρ H=some (ρ',H')→(assignEach ts env).findIdx? (·.1)=none
 |[],[],_,_,_,_,_=>rfl
 |[],_::_,_,_,_,_,e=>by cases e
 |_::_,[],_,_,_,_,e=>by cases e
 |t::ts,v::vs,ρ,ρ',H,H',e=>by
  obtain⟨ρ1,H1,e1,e2⟩:=ag (show bnd (fk (aQ T n) sc t v ρ) (fun ρ'=>dh (aQ T n) sc ts vs ρ') H=some (ρ',H') from e)
  have hs:assignEach (t::ts) env=(false,assign t env)::assignEach ts env:=by cases t<;>first|rfl|(cases e1;done)
  rw[hs,List.findIdx?_cons,ie e2]
  rfl
theorem zd(ih:gT T prog w cls B n)(hr:bA A n):∀ {ts:List PySem.Expr} {vs:List MV} {us:List Value} {ρ ρ':Ev} {G:Heap} {μ:List Addr} {H H':Hp} {s:Shared},dh (aQ T n) sc ts vs ρ H=some (ρ',H')→cB prog w cls B ⟨sc,ρ⟩ env G μ H s→aW prog w cls G μ us vs→
  ((assignEach ts env).length=us.length∧(assignEach ts env).findIdx? (·.1)=none)∧wpAny (model prog w) A (assignInOrder ((assignEach ts env).map (·.2)) us) (fH prog w cls B sc env G μ s ρ' H') E s:=by
 intro ts
 induction ts with
 |nil=>
  intro vs us ρ ρ' G μ H H' s e I rs
  cases vs with
  |cons _ _=>cases e
  |nil=>
   cases e;cases rs
   exact⟨⟨rfl,rfl⟩,wpAny_pure ⟨G,μ,Nx.refl _ _ _ _,I⟩⟩
 |cons t ts ihs=>
  intro vs us ρ ρ' G μ H H' s e I rs
  cases vs with
  |nil=>cases e
  |cons v vs=>
   cases rs with|@cons u _ us _ ru rs=>
   obtain⟨ρ1,H1,e1,e2⟩:=ag (show bnd (fk (aQ T n) sc t v ρ) (fun ρ'=>dh (aQ T n) sc ts vs ρ') H=some (ρ',H') from e)
   have hs:assignEach (t::ts) env=(false,assign t env)::assignEach ts env:=by cases t<;>first|rfl|(cases e1;done)
   rw[hs]
   have hw:wpAny (model prog w) A (assignInOrder (assign t env::(assignEach ts env).map (·.2)) (u::us)) (fH prog w cls B sc env G μ s ρ' H') E s:=by
    show wpAny _ _ (do holding us (assign t env u);assignInOrder ((assignEach ts env).map (·.2)) us) _ _ _
    refine wpAny_bind (wpAny_holding (wpAny_mono (yO ih hr e1 I ru) (fun _ s1 y=>?_) fun _ _ h=>h))
    obtain⟨G1,μ1,n1,I1⟩:=y
    exact wpAny_mono (ihs e2 I1 (rs.mono n1.sub n1.pre)).2 (fun _ _ h=>h.lift n1) fun _ _ h=>h
   refine⟨⟨?_,?_⟩,hw⟩
   ·have:=jJ e2
    rw[List.length_cons,List.length_cons,fB,this,rs.length]
   ·rw[List.findIdx?_cons]
    have:=ie (env:=env) e2
    simp[this]
theorem mP:∀ {ts:List PySem.Expr} {xs:List Str} {vs:List MV} {ρ ρ':Ev} {H H':Hp},b0 ts=some xs→dh (aQ T n) sc ts vs ρ H=some (ρ',H')→H'=H∧bb sc (xs.zip vs) ρ=some ρ'∧xs.length=vs.length∧xs.Nodup
 |[],xs,[],ρ,ρ',H,H',h,e=>by cases h;cases e;exact⟨rfl,rfl,rfl,.nil⟩
 |[],_,_::_,_,_,_,_,_,e=>by cases e
 |_::_,_,[],_,_,_,_,_,e=>by cases e
 |t::ts,xs,v::vs,ρ,ρ',H,H',h,e=>by
  obtain⟨ρ1,H1,e1,e2⟩:=ag (show bnd (fk (aQ T n) sc t v ρ) (fun ρ'=>dh (aQ T n) sc ts vs ρ') H=some (ρ',H') from e)
  cases t with
  |Name x p=>
   obtain⟨e3,rfl⟩:=bB (show opt (store sc x v ρ) H=some (ρ1,H1) from e1)
   change (b0 ts).bind (fun l=>bif l.contains x then none else some (x::l))=some xs at h
   cases q:b0 ts with
   |none=>rw[q] at h;cases h
   |some l=>
    rw[q] at h
    simp only[Option.bind_some] at h
    cases q2:l.contains x with
    |true=>rw[q2] at h;cases h
    |false=>
     rw[q2] at h;cases h
     obtain⟨rfl,h1,h2,h3⟩:=mP q e2
     refine⟨rfl,?_,by simp[h2],List.nodup_cons.mpr ⟨fun hm=>?_,h3⟩⟩
     ·rw[List.zip_cons_cons]
      unfold bb
      rw[e3]
      exact h1
     ·rw[List.contains_iff_mem.mpr hm] at q2;cases q2
  |_=>cases h
theorem yd{x y:Str}{v:MV}:(lU ρ x v).any (fun p=>p.1==y)=ρ.any fun p=>p.1==y:=by
 unfold lU
 induction ρ with
 |nil=>rfl
 |cons p r ih=>
  rw[List.map_cons,List.any_cons,List.any_cons,ih]
  cases p.1==x<;>rfl
theorem C9{x y:Str}{v u:MV}(h:x≠y):lU (lU ρ x v) y u=lU (lU ρ y u) x v:=by
 unfold lU
 rw[List.map_map,List.map_map]
 refine List.map_congr_left fun p _=>?_
 simp only[Function.comp]
 by_cases hx:p.1=x
 ·have hy:(p.1==y)=false:=by simp[hx,h]
  have hx':(p.1==x)=true:=by simp[hx]
  simp[hx',hy]
 ·have hx':(p.1==x)=false:=by simp[hx]
  cases hy:p.1==y<;>simp[hx',hy]
theorem wM{x:Str}{v:MV}(h:sc.names.lookup x=some .local∨sc.names.lookup x=some .cell)(ha:ρ.any (fun p=>p.1==x)=true):store sc x v ρ=some (lU ρ x v):=by
 unfold store
 rcases h with h|h<;>rw[h]<;>dsimp only<;>rw[ha]<;>rfl
theorem tC{x:Str}{v:MV}(e:store sc x v ρ=some ρ'):ρ.any (fun p=>p.1==x)=true:=by
 unfold store at e
 split at e<;>first|(cases e;done)|skip
 all_goals
  cases q:ρ.any (fun p=>p.1==x) with
  |true=>rfl
  |false=>rw[q] at e;cases e
theorem zi{x y:Str}{v u:MV}{ρ1 ρ2:Ev}(h:x≠y)(e1:store sc x v ρ=some ρ1)(e2:store sc y u ρ1=some ρ2):∃ ρ3,store sc y u ρ=some ρ3∧store sc x v ρ3=some ρ2:=by
 obtain⟨k1,rfl⟩:=lq e1
 obtain⟨k2,rfl⟩:=lq e2
 have a2:=tC e2
 rw[yd] at a2
 refine⟨_,wM k2 a2,?_⟩
 rw[wM k1 (by rw[yd];exact tC e1),C9 h]
theorem qf:∀ (l r:List (Str×MV)) (ρ:Ev),bb sc (l++r) ρ=(bb sc l ρ).bind (bb sc r)
 |[],r,ρ=>rfl
 |(x,v)::l,r,ρ=>by
  rw[List.cons_append]
  unfold bb
  cases store sc x v ρ with
  |none=>rfl
  |some ρ1=>exact qf l r ρ1
theorem oz:∀ {l:List (Str×MV)} {x:Str} {v:MV} {ρ ρ':Ev},x∉l.map (·.1)→bb sc ((x,v)::l) ρ=some ρ'→bb sc (l++[(x,v)]) ρ=some ρ'
 |[],_,_,_,_,_,e=>e
 |(y,u)::l,x,v,ρ,ρ',h,e=>by
  have hne:x≠y:=fun z=>h (by simp[z])
  unfold bb at e
  cases q1:store sc x v ρ with
  |none=>rw[q1] at e;cases e
  |some ρ1=>
   rw[q1] at e
   dsimp only at e
   unfold bb at e
   cases q2:store sc y u ρ1 with
   |none=>rw[q2] at e;cases e
   |some ρ2=>
    rw[q2] at e
    dsimp only at e
    obtain⟨ρ3,q3,q4⟩:=zi hne q1 q2
    rw[List.cons_append]
    unfold bb
    rw[q3]
    dsimp only
    refine oz (fun z=>h (by simp at z ⊢;exact .inr z)) ?_
    unfold bb
    rw[q4]
    exact e
theorem r7:∀ {l:List (Str×MV)} {ρ ρ':Ev},(l.map (·.1)).Nodup→bb sc l ρ=some ρ'→bb sc l.reverse ρ=some ρ'
 |[],_,_,_,e=>e
 |(x,v)::l,ρ,ρ',h,e=>by
  obtain⟨h1,h2⟩:=List.nodup_cons.mp h
  have e':=oz h1 e
  rw[List.reverse_cons]
  rw[qf] at e' ⊢
  cases q:bb sc l ρ with
  |none=>rw[q] at e';cases e'
  |some ρ1=>rw[q] at e';rw[r7 h2 q];exact e'
theorem tJ:∀ {l:List (Str×MV)} {us:List Value} {ρ ρ':Ev} {G:Heap} {μ:List Addr} {H:Hp} {s:Shared},bb sc l ρ=some ρ'→cB prog w cls B ⟨sc,ρ⟩ env G μ H s→aW prog w cls G μ us (l.map (·.2))→
  wpAny (model prog w) A (assignInOrder ((l.map (·.1)).map fun n=>bindName env n) us) (fH prog w cls B sc env G μ s ρ' H) E s
 |[],us,ρ,ρ',G,μ,H,s,e,I,rs=>by
  cases rs;cases e
  exact wpAny_pure ⟨G,μ,Nx.refl _ _ _ _,I⟩
 |(x,v)::l,us,ρ,ρ',G,μ,H,s,e,I,rs=>by
  cases rs with|@cons u _ us _ ru rs=>
  unfold bb at e
  cases q:store sc x v ρ with
  |none=>rw[q] at e;cases e
  |some ρ1=>
   rw[q] at e
   show wpAny _ _ (do holding us (bindName env x u);assignInOrder ((l.map (·.1)).map fun n=>bindName env n) us) _ _ _
   refine wpAny_bind (wpAny_holding (wpAny_bindName (wpAny_mono (fG I q ru) (fun _ s1 y=>?_) fun _ _ h=>h)))
   obtain⟨n1,I1⟩:=y
   exact wpAny_mono (tJ e I1 rs) (fun _ _ h=>h.lift n1) fun _ _ h=>h
end
section
variable{prog:Program}{w:World}{cls:Str→Option Addr}{B G G' G0:Heap}{μ μ' μ0:List Addr}{H H' H1:Hp}{s s' s0:Shared}{A:Around}{E:Value→Shared→Prop}
variable{T:gI}{m mb:Str→Option Value}{K:Frag}{n:Nat}{c:Cx}{env:Env}{sc:Scope}{ρ ρ':Ev}
def lz(env:Env)(line:Nat):PySem.Expr→Option Str
 |.Name id pos=>if env.kindOf id==some .local&&pos.line==line then some id else none
 |_=>none
theorem qM(line:Nat):∀ {ts:List PySem.Expr},(ts.filterMap (lz env line)).length=ts.length→ts.any (fun|.Name ..=>false|_=>true)=false∧∀ l,b0 ts=some l→ts.filterMap (lz env line)=l
 |[],_=>⟨rfl,fun l h=>by cases h;rfl⟩
 |t::ts,h=>by
  rw[List.filterMap_cons] at h ⊢
  cases q:lz env line t with
  |none=>
   rw[q] at h
   have:=List.length_filterMap_le (lz env line) ts
   simp only[List.length_cons] at h
   omega
  |some x=>
   rw[q] at h
   simp only[List.length_cons,Nat.add_right_cancel_iff] at h
   obtain⟨h1,h2⟩:=qM line h
   cases t with
   |Name y p=>
    have hx:x=y:=by
     simp only[lz] at q
     split at q
     ·exact(Option.some.inj q).symm
     ·cases q
    subst hx
    refine⟨by rw[List.any_cons,h1];rfl,fun l hl=>?_⟩
    change (b0 ts).bind (fun l=>bif l.contains x then none else some (x::l))=some l at hl
    cases q2:b0 ts with
    |none=>rw[q2] at hl;cases hl
    |some l'=>
     rw[q2] at hl
     simp only[Option.bind_some] at hl
     cases q3:l'.contains x with
     |true=>rw[q3] at hl;cases hl
     |false=>rw[q3] at hl;cases hl;rw[h2 l' q2]
   |_=>cases q
theorem zp{ts:List PySem.Expr}{k:Nat}{p:Pos}{e:PySem.Expr}(h:qj ts e=true):swappedStores [.Tuple ts k p] e env=pure none∨∃ xs,swappedStores [.Tuple ts k p] e env=pure (some xs)∧b0 ts=some xs:=by
 cases e with
 |Tuple vs k' p'=>
  change (ts.any (fun|.Name ..=>false|_=>true)||((b0 ts).isSome&&!vs.all (constantsAlone 8)))=true at h
  unfold swappedStores
  dsimp only
  split
  ·exact .inl rfl
  ·split
   ·exact .inl rfl
   ·split
    ·exact .inl rfl
    ·rename_i h1 h2 h3
     change ¬ (((ts.filterMap (lz env ((ts.head?.map (·.pos.line)).getD 0))).length !=ts.length||_)=true) at h3
     have hl:(ts.filterMap (lz env ((ts.head?.map (·.pos.line)).getD 0))).length=ts.length:=by
      apply Decidable.byContradiction
      intro hne
      exact h3 (by rw[bne_iff_ne.mpr hne];rfl)
     obtain⟨k1,k2⟩:=qM _ hl
     rw[k1,Bool.false_or] at h
     obtain⟨k3,k4⟩:=Bool.and_eq_true_iff.mp h
     obtain⟨xs,hxs⟩:=Option.isSome_iff_exists.mp k3
     split
     ·exact .inl rfl
     ·split
      ·rename_i h5
       rw[h5] at k4;cases k4
      ·right
       refine⟨xs,?_,hxs⟩
       rw[←k2 xs hxs]
       rfl
 |_=>exact .inl rfl
end
section
variable{prog:Program}{w:World}{cls:Str→Option Addr}{B G G' G0:Heap}{μ μ' μ0:List Addr}{H H' H1:Hp}{s s' s0:Shared}{A:Around}{E:Value→Shared→Prop}
variable{T:gI}{m mb:Str→Option Value}{K:Frag}{n:Nat}{c:Cx}{env:Env}{sc:Scope}{ρ ρ':Ev}{k:Ev→M MV}{v:MV}
theorem mi.lift{fl:Flow}{s'':Shared}(x:Nx (own sc env) G μ s G' μ' s')(h:mi prog w cls B sc env G' μ' s' k v H' fl s''):mi prog w cls B sc env G μ s k v H' fl s'':=by
 rcases h with⟨r,rfl,hp⟩|⟨rfl,ρ',H1,G2,μ2,e,n2,I2⟩
 ·exact .inl ⟨r,rfl,np x hp fun a h=>.inl h⟩
 ·exact .inr ⟨rfl,ρ',H1,G2,μ2,e,x.trans n2,I2⟩
theorem fH.next{u:Unit}(h:fH prog w cls B sc env G μ s ρ' H1 u s')(e:k ρ' H1=some (v,H')):mi prog w cls B sc env G μ s k v H' .next s':=by
 obtain⟨G',μ',x,I⟩:=h
 exact .inr ⟨rfl,ρ',H1,G',μ',e,x,I⟩
theorem za{elt:PySem.Expr}{gens:List Comprehension}{sc':Scope}{pos:Pos}{n:Nat}(e:(aQ T n).ev c (.ListComp elt gens sc' pos) H=some (v,H')):∃ k x px it ifs ms H1 ys,n=k+1∧gens=[⟨.Name x px,it,ifs,0⟩]∧fJ c sc'=true∧
  aI (aQ T k) c it H=some (ms,H1)∧ja (aQ T k) sc' (.Name x px) elt ifs (bJ sc' c.ρ) ms H1=some (ys,H')∧v=.lst ys:=by
 cases n with
 |zero=>cases e
 |succ k=>
  replace e:lM T (aQ T k) c (.ListComp elt gens sc' pos) H=some (v,H'):=e
  obtain⟨x,px,it,ifs,a,rfl⟩:∃ x px it ifs a,gens=[⟨.Name x px,it,ifs,a⟩]:=by
   cases gens with
   |nil=>cases e
   |cons g gs=>
    obtain⟨t,it,ifs,a⟩:=g
    cases gs with
    |cons _ _=>cases t<;>cases e
    |nil=>cases t<;>first|exact⟨_,_,_,_,_,rfl⟩|cases e
  replace e:(bif a==0&&fJ c sc' then bnd (aI (aQ T k) c it) (fun vs=>bnd (ja (aQ T k) sc' (.Name x px) elt ifs (bJ sc' c.ρ) vs) fun ys=>ret (.lst ys)) else fail) H=some (v,H'):=e
  cases q:a==0&&fJ c sc' with
  |false=>rw[q] at e;cases e
  |true=>
   rw[q] at e
   obtain⟨q1,q2⟩:=Bool.and_eq_true_iff.mp q
   have:=eq_of_beq q1
   subst this
   obtain⟨ms,H1,e1,e2⟩:=ag (show bnd (aI (aQ T k) c it) (fun vs=>bnd (ja (aQ T k) sc' (.Name x px) elt ifs (bJ sc' c.ρ) vs) fun ys=>ret (.lst ys)) H=some (v,H') from e)
   obtain⟨ys,H2,e3,e4⟩:=ag e2
   obtain⟨rfl,rfl⟩:=cx e4
   exact⟨k,x,px,it,ifs,ms,H1,ys,rfl,rfl,q2,e1,e3,rfl⟩
theorem sJ(F:eQ T prog w cls B m mb K)(ih:gT T prog w cls B n)(ihp:∀ k,n=k+1→gT T prog w cls B k)(hr:bA A n){x:Str}{p pos:Pos}{e:PySem.Expr}{u:MV}(e1:(aQ T n).ev ⟨sc,ρ⟩ e H=some (u,H1))(e2:store sc x u ρ=some ρ')
  (I:cB prog w cls B ⟨sc,ρ⟩ env G μ H s):wpAny (model prog w) A (exec (.Assign [.Name x p] e pos) env) (fun fl s'=>fl=.next∧fH prog w cls B sc env G μ s ρ' H1 () s') E s:=by
 have plain:swapsWith e (some (.Name x p)) pos.line env=pure false→wpAny (model prog w) A (exec (.Assign [.Name x p] e pos) env) (fun fl s'=>fl=.next∧fH prog w cls B sc env G μ s ρ' H1 () s') E s:=fun hs=>by
  refine wpAny_Assign_Name (be (ih.ev e1 hr I) I.tk fun r s1 G1 μ1 n1 S1 r1 t1=>?_) hs
  exact wpAny_mono (fG (I.next n1 S1 t1) e2 r1) (fun _ s2 y=>⟨rfl,G1,μ1,n1.wk.trans y.1,y.2⟩) fun _ _ h=>h
 cases e with
 |ListComp elt gens sc' pos'=>
  have hsw:swapsWith (.ListComp elt gens sc' pos') (some (.Name x p)) pos.line env=pure (env.blockKind==.function&&env.kindOf x==some .local&&p.line==(PySem.Expr.ListComp elt gens sc' pos').pos.line&&!(sc'.names.any fun(n,k)=>n==x&&(k==.local||k==.cell))):=rfl
  cases q:(env.blockKind==.function&&env.kindOf x==some .local&&p.line==(PySem.Expr.ListComp elt gens sc' pos').pos.line&&!(sc'.names.any fun(n,k)=>n==x&&(k==.local||k==.cell))) with
  |false=>exact plain (by rw[hsw,q])
  |true=>
   rw[q] at hsw
   obtain⟨j,y,py,it,ifs,ms,H2,ys,rfl,rfl,hok,f1,f2,rfl⟩:=za e1
   rw[exec_Assign_Name_used _ _ _ _ hsw]
   refine wpAny_bind (wpAny_standAt (wpAny_bind ?_))
   show wpAny _ A (do let _←comprehension (.ListComp elt [⟨.Name y py,it,ifs,0⟩] sc' pos') sc' env _ (newList []) false (eval it env) (some (assign (.Name x p) env))) _ _ s
   refine wpAny_bind (wpAny_mono (BH F (ihp j rfl) (hr.less (Nat.le_succ j)) (use:=some (assign (.Name x p) env)) (Q:=fun _ s'=>fH prog w cls B sc env G μ s ρ' H1 () s') hok f1 f2 I fun r s' C G' μ' X=>?_) (fun _ s2 h=>wpAny_pure (wpAny_pure ⟨rfl,h⟩)) fun _ _ h=>h)
   show wpAny _ _ (assign (.Name x p) env r) _ _ _
   have I':=I.next X.nx X.S X.tk
   refine wpAny_assign_Name (wpAny_mono (fG I' e2 X.rep) (fun _ s2 y=>?_) fun _ _ h=>h)
   obtain⟨n2,I2⟩:=y
   have palive:∀ b∈priv env,s.heap.get? b≠none:=fun b hb=>by
    rcases List.mem_cons.mp hb with rfl|hb
    ·obtain⟨f,⟨o,_,_,ho,_⟩,_⟩:=I.V.ns
     rw[ho];simp
    ·obtain⟨p,hp,rfl⟩:=List.mem_map.mp hb
     exact(I.V.privC p hp).2.2.2
   have hCo:C∉own sc env:=fun h=>palive C (jI C h) X.dead
   obtain⟨f,o,es,ep,ho,hrest⟩:=X.ns
   refine⟨f,⟨o,es,ep,n2.keeps C o ho X.μC hCo,hrest⟩,fun h' hs=>?_⟩
   have kk:∀ b o,b∉[C]→s2.heap.get? b=some o→h'.get? b=some o:=fun b o hb e=>(hs.2 b fun z=>hb (by simp[z])).trans e
   refine⟨G',μ',(X.nx.wk.trans n2).dead (tk:=s2.toks) kk fun b hb=>by rw[List.mem_singleton.mp hb];exact X.dead,I2.dead (tk:=s2.toks) kk (fun b hb=>by rw[List.mem_singleton.mp hb];exact X.GC) (fun b hb=>by rw[List.mem_singleton.mp hb];exact X.μC) (fun b hb q=>by rw[List.mem_singleton.mp hb] at q;exact palive C q X.dead) I2.tk⟩
 |SetComp elt gens sc' pos'=>cases n<;>cases e1
 |DictComp a b gens sc' pos'=>cases n<;>cases e1
 |_=>exact plain rfl
theorem oO{t e:PySem.Expr}{line:Nat}(h:∀ x p,t≠.Name x p):swapsWith e (some t) line env=pure false:=by
 cases t<;>first|exact absurd rfl (h _ _)|(cases e<;>rfl)
theorem Az(ih:gT T prog w cls B n)(hr:bA A n){ts:List PySem.Expr}{kk:Nat}{p pos:Pos}{e:PySem.Expr}{vs:List MV}{H2:Hp}(hsw:qj ts e=true)(e1:(aQ T n).ev ⟨sc,ρ⟩ e H=some (.tup vs,H1))(e2:dh (aQ T n) sc ts vs ρ H1=some (ρ',H2))
  (I:cB prog w cls B ⟨sc,ρ⟩ env G μ H s):wpAny (model prog w) A (exec (.Assign [.Tuple ts kk p] e pos) env) (fun fl s'=>fl=.next∧fH prog w cls B sc env G μ s ρ' H2 () s') E s:=by
 have hs:swapsWithSole [.Tuple ts kk p] e pos.line env=pure false:=oO (env:=env) (t:=.Tuple ts kk p) (e:=e) (line:=pos.line) fun x p h=>by cases h
 rcases zp (env:=env) (k:=kk) (p:=p) hsw with hw|⟨xs,hw,hx⟩
 ·refine Assign_Tuple (be (ih.ev e1 hr I) I.tk fun r s1 G1 μ1 n1 S1 r1 t1=>?_) hs hw
  have I1:=I.next n1 S1 t1
  cases r1 with
  |@tup a us _ hT rT=>
  have hT1:s1.heap.IsTuple a us.toArray:=aT hT S1.keep
  have hlen:=jJ e2
  have hrl:=rT.length
  refine wpAny_assign_Tuple hr.1 hT1 (by rw[fB,List.size_toArray,hrl,hlen]) (ie e2) fun h' hx=>?_
  have le3:Le s1.heap h':=fun b o e=>hx b o (fun z=>by rw[z] at e;exact absurd (aK e) (Nat.lt_irrefl _)) e
  have n3:Nx [] G1 μ1 s1 G1 μ1 { s1 with heap:=h',toks:=s1.toks }:=cS le3
  have I3:cB prog w cls B ⟨sc,ρ⟩ env G1 μ1 H1 { s1 with heap:=h',toks:=s1.toks }:=I1.next n3 (S1.grow le3) t1
  exact wpAny_mono (zd ih hr e2 I3 rT).2 (fun _ s2 y=>⟨rfl,fH.lift (n1.trans n3).wk y⟩) fun _ _ h=>h
 ·refine Assign_Tuple_swapped (be (ih.ev e1 hr I) I.tk fun r s1 G1 μ1 n1 S1 r1 t1=>?_) hs hw
  have I1:=I.next n1 S1 t1
  obtain⟨rfl,h1,h2,h3⟩:=mP hx e2
  cases r1 with
  |@tup a us _ hT rT=>
  have hT1:s1.heap.IsTuple a us.toArray:=aT hT S1.keep
  have hrl:=rT.length
  have hxl:xs.length=us.toArray.size:=by rw[List.size_toArray,hrl,h2]
  rw[hxl]
  refine wpAny_unpackItems_tuple hr.1 hT1 fun h' hx'=>?_
  have le3:Le s1.heap h':=fun b o e=>hx' b o (fun z=>by rw[z] at e;exact absurd (aK e) (Nat.lt_irrefl _)) e
  have n3:Nx [] G1 μ1 s1 G1 μ1 { s1 with heap:=h',toks:=s1.toks }:=cS le3
  have I3:cB prog w cls B ⟨sc,ρ⟩ env G1 μ1 H2 { s1 with heap:=h',toks:=s1.toks }:=I1.next n3 (S1.grow le3) t1
  have hk:(xs.zip vs).map (·.1)=xs:=by rw[List.map_fst_zip (by omega)]
  have hv:(xs.zip vs).map (·.2)=vs:=by rw[List.map_snd_zip (by omega)]
  have hst:=r7 (by rw[hk];exact h3) h1
  have:=tJ (A:=A) (E:=E) (us:=us.reverse) hst I3 (by rw[List.map_reverse,hv];exact rT.rev)
  rw[List.map_reverse,hk] at this
  exact wpAny_mono this (fun _ s2 y=>⟨rfl,fH.lift (n1.trans n3).wk y⟩) fun _ _ h=>h
end
section
variable{prog:Program}{w:World}{cls:Str→Option Addr}{B G G' G0:Heap}{μ μ' μ0:List Addr}{H H' H1:Hp}{s s' s0:Shared}{A:Around}{E:Value→Shared→Prop}
variable{T:gI}{m mb:Str→Option Value}{K:Frag}{n:Nat}{c:Cx}{env:Env}{sc:Scope}{ρ ρ':Ev}{k:Ev→M MV}{v:MV}
theorem tL(I:cB prog w cls B c env G μ H s)(n2:Nx [] G μ s G' μ' s'):∀ b,s'.heap.get? b≠none→(G'.get? b≠none∨s.heap.get? b=none)→b∉priv env:=fun b hb hb2 hm=>by
 have h:G.get? b=none∧s.heap.get? b≠none:=by
  rcases List.mem_cons.mp hm with rfl|hm
  ·obtain⟨f,⟨o,_,_,ho,_⟩,_⟩:=I.V.ns
   exact⟨I.V.privL.2,by rw[ho];simp⟩
  ·obtain⟨p,hp,rfl⟩:=List.mem_map.mp hm
   exact⟨(I.V.privC p hp).2.1,(I.V.privC p hp).2.2.2⟩
 rcases hb2 with z|z
 ·exact(n2.newG _ z).elim (fun y=>y h.1) fun y=>h.2 y
 ·exact h.2 z
theorem zt(F:eQ T prog w cls B m mb K)(ih:gT T prog w cls B n)(hr:bA A n){t iter:PySem.Expr}{body:List Stmt}{pos:Pos}{ms:List MV}(e1:fw (aQ T n) ⟨sc,ρ⟩ t iter H=some (ms,H1))(e2:mq (aQ T n) sc t body k ms ρ H1=some (v,H'))(I:cB prog w cls B ⟨sc,ρ⟩ env G μ H s):
  wpAny (model prog w) A (exec (.For t iter body [] pos) env) (mi prog w cls B sc env G μ s k v H') E s:=by
 unfold fw at e1
 split at e1
 ·refine wpAny_For (wpAny_mono (wi F ih hr e1 I) (fun xv s1 hx=>wpAny_mono hx (fun itv s2 hy=>?_) fun _ _ h=>h) fun _ _ h=>h) (B7 e1)
  obtain⟨t2,G2,μ2,n2,S2,hlen,X⟩:=hy
  have X':=X.more (q:=priv env) (tL I n2)
  exact H6 ih hr (pq.drive (s0:=s) (sc:=sc) (fun b h=>h) (fun a h=>by simp[h])) (fun a h=>by simp[h]) (fun f s' y=>y) e2 n2.wk (I.next n2 S2 t2) X'
 ·refine wpAny_For (wpAny_mono (Cj F ih hr e1 I) (fun xv s1 hx=>wpAny_mono hx (fun itv s2 hy=>?_) fun _ _ h=>h) fun _ _ h=>h) (Fv e1)
  obtain⟨t2,G2,μ2,n2,S2,hlen,X⟩:=hy
  have X':=X.more (q:=priv env) (tL I n2)
  exact H6 ih hr (nX.drive (s0:=s) (sc:=sc) hr.1 (fun b h=>h) (fun a h=>by simp[h])) (fun a h=>by simp[h]) (fun f s' y=>y) e2 n2.wk (I.next n2 S2 t2) X'
 ·cases e1
theorem DG(F:eQ T prog w cls B m mb K)(ih:gT T prog w cls B n)(ihp:∀ k,n=k+1→gT T prog w cls B k)(hr:bA A n){st:Stmt}(e:nG T (aQ T n) sc st ρ k H=some (v,H'))(I:cB prog w cls B ⟨sc,ρ⟩ env G μ H s):
  wpAny (model prog w) A (exec st env) (mi prog w cls B sc env G μ s k v H') E s:=by
 cases st with
 |Return val pos=>
  cases val with
  |none=>
   cases e
   exact wpAny_Return_none (.inl ⟨_,rfl,aN I.S .none⟩)
  |some x=>
   exact wpAny_Return_some (wpAny_mono (ih.ev e hr I) (fun r s1 y=>.inl ⟨r,rfl,by obtain⟨G1,μ1,n1,S1,r1⟩:=y;exact⟨G1,μ1,n1.wk,S1,r1⟩⟩) fun _ _ h=>h)
 |Pass pos=>exact wpAny_Pass (.inr ⟨rfl,ρ,H,G,μ,e,Nx.refl _ _ _ _,I⟩)
 |If t a b pos=>
  obtain⟨x,H1,e1,e2⟩:=ag (show bnd ((aQ T n).tst ⟨sc,ρ⟩ t) (fun x=>bif x then (aQ T n).ex sc a ρ k else (aQ T n).ex sc b ρ k) H=some (v,H') from e)
  refine wpAny_If (r8 (ih.tst e1 hr I) I.tk fun s1 G1 μ1 n1 S1 t1=>?_)
  have I1:=I.next n1 S1 t1
  cases x with
  |true=>rw[if_pos rfl];exact wpAny_mono (ih.ex e2 hr I1) (fun _ _ h=>h.lift n1.wk) fun _ _ h=>h
  |false=>rw[if_neg (by simp)];exact wpAny_mono (ih.ex e2 hr I1) (fun _ _ h=>h.lift n1.wk) fun _ _ h=>h
 |For t iter body orelse pos=>
  cases orelse with
  |cons _ _=>cases e
  |nil=>
   obtain⟨ms,H1,e1,e2⟩:=ag (show bnd (fw (aQ T n) ⟨sc,ρ⟩ t iter) (fun vs=>mq (aQ T n) sc t body k vs ρ) H=some (v,H') from e)
   exact zt F ih hr e1 e2 I
 |Expr x pos=>
  cases x with
  |Call f as ks q=>
   obtain⟨u,H1,e1,e2⟩:=ag (show bnd ((aQ T n).ev ⟨sc,ρ⟩ (.Call f as ks q)) (fun v=>match v with|.none=>k ρ|_=>fail) H=some (v,H') from e)
   refine wpAny_Expr (be (ih.ev e1 hr I) I.tk fun r s1 G1 μ1 n1 S1 r1 t1=>?_) (by unfold interactive;rw[I.V.kind];rfl) rfl
   cases r1<;>first|(cases e2;done)|skip
   exact .inr ⟨rfl,ρ,H1,G1,μ1,e2,n1.wk,I.next n1 S1 t1⟩
  |_=>cases e
 |Assign ts x pos=>
  cases ts with
  |nil=>cases e
  |cons t ts=>
   cases ts with
   |cons _ _=>cases t<;>cases e
   |nil=>
    have other:(∀ es kk p,t≠.Tuple es kk p)→∃ u H1 ρ' H2,(aQ T n).ev ⟨sc,ρ⟩ x H=some (u,H1)∧fk (aQ T n) sc t u ρ H1=some (ρ',H2)∧k ρ' H2=some (v,H'):=fun ht=>by
     have e':bnd ((aQ T n).ev ⟨sc,ρ⟩ x) (fun u=>gi (aQ T n) sc t u ρ k) H=some (v,H'):=by
      cases t<;>first|exact e|exact absurd rfl (ht _ _ _)
     obtain⟨u,H1,e1,e2⟩:=ag e'
     obtain⟨ρ',H2,e3,e4⟩:=mZ e2
     exact⟨u,H1,ρ',H2,e1,e3,e4⟩
    cases t with
    |Name y p=>
     obtain⟨u,H1,ρ',H2,e1,e3,e4⟩:=other fun _ _ _ h=>by cases h
     obtain⟨e5,rfl⟩:=bB (show opt (store sc y u ρ) H1=some (ρ',H2) from e3)
     exact wpAny_mono (sJ F ih ihp hr e1 e5 I) (fun fl s2 y=>by obtain⟨rfl,y⟩:=y;exact y.next e4) fun _ _ h=>h
    |Subscript o i p=>
     obtain⟨u,H1,ρ',H2,e1,e3,e4⟩:=other fun _ _ _ h=>by cases h
     have hs:swapsWith x (some (.Subscript o i p)) pos.line env=pure false:=oO fun _ _ h=>by cases h
     have e6:bnd ((aQ T n).ev ⟨sc,ρ⟩ o) (fun ov=>bnd ((aQ T n).ev ⟨sc,ρ⟩ i) fun iv=>bnd (setItem ov iv u) fun _=>ret ρ) H1=some (ρ',H2):=by
      cases i<;>first|exact e3|(cases e3;done)
     obtain⟨ov,H3,f1,f2⟩:=ag e6
     obtain⟨iv,H4,f3,f4⟩:=ag f2
     obtain⟨un,H5,f5,f6⟩:=ag f4
     obtain⟨rfl,rfl⟩:=cx f6
     refine wpAny_Assign_Subscript (be (ih.ev e1 hr I) I.tk fun r s1 G1 μ1 n1 S1 r1 t1=>?_) hs
     have I1:=I.next n1 S1 t1
     refine be (ih.ev f1 hr I1) t1 fun ro s2 G2 μ2 n2 S2 r2 t2=>?_
     have I2:=I1.next n2 S2 t2
     refine be (ih.ev f3 hr I2) t2 fun ri s3 G3 μ3 n3 S3 r3 t3=>?_
     have I3:=I2.next n3 S3 t3
     refine wpAny_with_toks t3 (wpAny_mono (si f5 S3 (r2.mono n3.sub n3.pre) r3 ((r1.mono n2.sub n2.pre).mono n3.sub n3.pre)) (fun _ s4 y t4=>?_) fun _ _ h _=>h)
     obtain⟨G4,μ4,n4,S4⟩:=y
     exact .inr ⟨rfl,_,_,G4,μ4,e4,(((n1.trans n2).trans n3).trans n4).wk,I3.next n4 S4 t4⟩
    |Tuple es kk p=>
     replace e:(bif qj es x then bnd ((aQ T n).ev ⟨sc,ρ⟩ x) (fun v=>match v with|.tup vs=>dS (aQ T n) sc es vs ρ k|_=>fail) else fail) H=some (v,H'):=e
     cases q:qj es x with
     |false=>rw[q] at e;cases e
     |true=>
      rw[q] at e
      obtain⟨u,H1,e1,e2⟩:=ag (show bnd ((aQ T n).ev ⟨sc,ρ⟩ x) (fun v=>match v with|.tup vs=>dS (aQ T n) sc es vs ρ k|_=>fail) H=some (v,H') from e)
      cases u with
      |tup vs=>
       obtain⟨ρ',H2,e3,e4⟩:=k7 (show dS (aQ T n) sc es vs ρ k H1=some (v,H') from e2)
       exact wpAny_mono (Az ih hr q e1 e3 I) (fun fl s2 y=>by obtain⟨rfl,y⟩:=y;exact y.next e4) fun _ _ h=>h
      |_=>cases e2
    |_=>
     obtain⟨u,H1,ρ',H2,e1,e3,e4⟩:=other fun _ _ _ h=>by cases h
     cases e3
 |_=>cases e
theorem E6(F:eQ T prog w cls B m mb K)(ih:gT T prog w cls B n)(ihp:∀ k,n=k+1→gT T prog w cls B k)(hr:bA A n):∀ {ss:List Stmt} {ρ:Ev} {G:Heap} {μ:List Addr} {H:Hp} {s:Shared},fC T (aQ T n) sc ss ρ k H=some (v,H')→cB prog w cls B ⟨sc,ρ⟩ env G μ H s→
  wpAny (model prog w) A (execs ss env) (mi prog w cls B sc env G μ s k v H') E s:=by
 intro ss
 induction ss with
 |nil=>
  intro ρ G μ H s e I
  exact wpAny_execs_nil (.inr ⟨rfl,ρ,H,G,μ,e,Nx.refl _ _ _ _,I⟩)
 |cons st ss ihs=>
  intro ρ G μ H s e I
  refine wpAny_execs_cons (wpAny_mono (DG F ih ihp hr (show nG T (aQ T n) sc st ρ (fun ρ'=>fC T (aQ T n) sc ss ρ' k) H=some (v,H') from e) I) (fun fl s1 y=>?_) fun _ _ h=>h)
  rcases y with⟨r,rfl,hp⟩|⟨rfl,ρ',H1,G1,μ1,e1,n1,I1⟩
  ·exact .inl ⟨r,rfl,hp⟩
  ·exact wpAny_mono (ihs e1 I1) (fun _ _ h=>h.lift n1) fun _ _ h=>h
theorem K8(F:eQ T prog w cls B m mb K)(n:Nat):gT T prog w cls B n∧∀ k,n=k+1→gT T prog w cls B k:=by
 induction n with
 |zero=>exact⟨⟨fun h=>(by cases h),fun h=>(by cases h),fun h=>(by cases h),fun h=>(by cases h)⟩,fun k h=>(by cases h)⟩
 |succ n ih=>
  refine⟨⟨fun h hr I=>Ch F ih.1 hr h I,fun h hr I=>AE ih.1 (hr.less (Nat.le_succ n)) h I,fun h hr I=>E6 F ih.1 ih.2 (hr.less (Nat.le_succ n)) h I,fun h hf hr S tk rs=>wB F ih.1 h hf hr S tk rs⟩,fun k h=>?_⟩
  cases h;exact ih.1
end
end
section
open PySem PySem.W PySem.Calls PyProof.Rows
def gl(K:Frag)(x:Str):Option Value:=match K.lookup mainGlobals with
 |some o=>(match o.data with
  |.dict es _=>nsFind es x
  |_=>none)
 |none=>none
def Ms(K:Frag)(x:Str):Bool:=match K.lookup mainGlobals with
 |some o=>(match o.data with
  |.dict es _=>(nsFind es x).isNone
  |_=>false)
 |none=>false
def J4(K:Frag)(a:Addr):Option FuncData:=match K.lookup a with
 |some o=>(match o.data with
  |.func fd=>some fd
  |_=>none)
 |none=>none
def Ji:Value→MV→Bool
 |.none,.none=>true
 |.bool a,.bool b=>a==b
 |.int a _,.int b=>a==b
 |.str a _,.str b=>a==b
 |_,_=>false
def GH:List Value→List MV→Bool
 |[],[]=>true
 |a::r,b::q=>Ji a b&&GH r q
 |_,_=>false
def Nw(K:Frag)(d:Value)(ms:List MV):Bool:=match d with
 |.none=>ms.isEmpty
 |.ref t=>(match K.lookup t with
  |some o=>o.cls==.type "tuple"&&(match o.data with
   |.seq xs _=>GH xs.toList ms
   |_=>false)
  |none=>false)
 |_=>false
def KW(K:Frag)(fd:FuncData):Bool:=match fd.code with
 |.ref c=>(match K.lookup c with
  |some o=>(match o.data with
   |.fields vs=>(match (vs[1]?:Option Value) with
    |some (Value.str q _)=>q==fd.qualname
    |_=>false)
   |_=>false)
  |none=>false)
 |_=>false
def Bf(fn:Fn):Bool:=!fn.scope.isCoroutine&&!fn.scope.isGenerator&&(match fn.scope.kind with
 |.function=>true
 |_=>false)&&fn.params.all (fun x=>match fn.scope.names.lookup x with
 |some .local|some .cell=>true
 |_=>false)&&nodup fn.params&&Nat.ble fn.dflts.length fn.params.length&&nodup (fn.scope.names.map (·.1))
def HY(K:Frag)(a:Addr)(fn:Fn):Bool:=match J4 K a with
 |none=>false
 |some fd=>fd.globals==mainGlobals&&fd.closure.isEmpty&&fd.builtins==builtinsNs&&KW K fd&&fd.params.posonlyargs.isEmpty&&fd.params.vararg.isNone&&fd.params.kwonlyargs.isEmpty&&fd.params.kwarg.isNone&&
  fd.params.args.map (·.arg)==fn.params&&Nw K fd.defaults fn.dflts&&Bf fn
def Be(K:Frag)(a:Addr):Option (FuncBody×Scope):=(J4 K a).map fun fd=>(fd.body,fd.scope)
section
variable{prog:Program}{w:World}{cls:Str→Option Addr}{B:Heap}{K:Frag}{m mb:Str→Option Value}
theorem Gp(X:K.In B)(g:B.Ns mainGlobals m){x:Str}{v:Value}(h:gl K x=some v):m x=some v:=by
 obtain⟨o,es,ep,ho,hd,_,hf⟩:=g
 unfold gl at h
 cases q:K.lookup mainGlobals with
 |none=>rw[q] at h;cases h
 |some o'=>
  rw[q] at h
  cases (X _ _ q).symm.trans ho
  dsimp only at h
  rw[hd] at h
  rw[←hf];exact h
theorem J7(X:K.In B)(g:B.Ns mainGlobals m){x:Str}(h:Ms K x=true):m x=none:=by
 obtain⟨o,es,ep,ho,hd,_,hf⟩:=g
 unfold Ms at h
 cases q:K.lookup mainGlobals with
 |none=>rw[q] at h;cases h
 |some o'=>
  rw[q] at h
  cases (X _ _ q).symm.trans ho
  dsimp only at h
  rw[hd] at h
  rw[←hf];exact Option.isNone_iff_eq_none.mp h
theorem Bq{G:Heap}{μ:List Addr}{v:Value}{y:MV}(h:Ji v y=true):bX prog w cls G μ v y:=by
 unfold Ji at h
 split at h
 ·exact .none
 ·rw[eq_of_beq h];exact .bool _
 ·rw[eq_of_beq h];exact .int _ _
 ·rw[eq_of_beq h];exact .str _ _
 ·cases h
theorem xg{G:Heap}{μ:List Addr}:∀ {vs:List Value} {ys:List MV},GH vs ys=true→aW prog w cls G μ vs ys
 |[],[],_=>.nil
 |v::vs,y::ys,h=>by
  obtain⟨h1,h2⟩:=Bool.and_eq_true_iff.mp h
  exact .cons (Bq h1) (xg h2)
 |[],_::_,h=>by cases h
 |_::_,[],h=>by cases h
theorem Jk(X:K.In B){a:Addr}{fn:Fn}(c:HY K a fn=true)(e:Be K a=some (.stmts fn.body,fn.scope)):pi B a fn:=by
 unfold HY at c
 unfold Be at e
 cases q:J4 K a with
 |none=>rw[q] at c;cases c
 |some fd=>
  rw[q] at c e
  dsimp only at c
  simp only[Option.map_some,Option.some.injEq,Prod.mk.injEq] at e
  obtain⟨e1,e2⟩:=e
  unfold J4 at q
  cases q1:K.lookup a with
  |none=>rw[q1] at q;cases q
  |some o=>
   rw[q1] at q
   dsimp only at q
   have hd:o.data=.func fd:=by
    split at q
    ·rename_i fd' hdd
     cases q;exact hdd
    ·cases q
   simp only[Bool.and_eq_true] at c
   obtain⟨⟨⟨⟨⟨⟨⟨⟨⟨⟨c1,c2⟩,c3⟩,c4⟩,c5⟩,c6⟩,c7⟩,c8⟩,c9⟩,c10⟩,c11⟩:=c
   unfold Bf at c11
   simp only[Bool.and_eq_true] at c11
   obtain⟨⟨⟨⟨⟨⟨s1,s2⟩,s3⟩,s4⟩,s5⟩,s6⟩,s7⟩:=c11
   have code:B.CodeRec fd.code fd.qualname:=by
    unfold KW at c4
    cases hc:fd.code with
    |ref cc=>
     rw[hc] at c4
     dsimp only at c4
     cases q2:K.lookup cc with
     |none=>rw[q2] at c4;cases c4
     |some oc=>
      rw[q2] at c4
      dsimp only at c4
      cases q3:oc.data with
      |fields vs=>
       rw[q3] at c4
       dsimp only at c4
       split at c4
       ·rename_i qn tq hv
        exact⟨cc,oc,vs,tq,rfl,X _ _ q2,q3,by rw[hv,eq_of_beq c4]⟩
       ·cases c4
      |_=>rw[q3] at c4;cases c4
    |_=>rw[hc] at c4;cases c4
   have nil:∀ {α:Type} {l:List α},l.isEmpty=true→l=[]:=fun h=>List.isEmpty_iff.mp h
   refine⟨⟨o,fd,X _ _ q1,hd,e1,e2,eq_of_beq c1,nil c2,eq_of_beq c3,code,nil c5,Option.isNone_iff_eq_none.mp c6,nil c7,Option.isNone_iff_eq_none.mp c8,eq_of_beq c9,?_⟩,by simpa using s1,by simpa using s2,?_,fun x hx=>?_,gR s5,Nat.le_of_ble_eq_true s6,gR s7⟩
   ·unfold Nw at c10
    cases hdf:fd.defaults with
    |none=>rw[hdf] at c10;exact .inl ⟨nil c10,rfl⟩
    |ref t=>
     rw[hdf] at c10
     dsimp only at c10
     cases q2:K.lookup t with
     |none=>rw[q2] at c10;cases c10
     |some ot=>
      rw[q2] at c10
      dsimp only at c10
      obtain⟨k1,k2⟩:=Bool.and_eq_true_iff.mp c10
      cases q3:ot.data with
      |seq xs nn=>
       rw[q3] at k2
       dsimp only at k2
       exact .inr ⟨t,xs.toList,rfl,⟨ot,X _ _ q2,eq_of_beq k1,nn,by rw[q3]⟩,fun _ _ _ _=>xg k2⟩
      |_=>rw[q3] at k2;cases k2
    |_=>rw[hdf] at c10;cases c10
   ·split at s3
    ·assumption
    ·cases s3
   ·have:=List.all_eq_true.mp s4 x hx
    split at this
    ·exact .inl (by assumption)
    ·exact .inr (by assumption)
    ·cases this
def KH(v:Option (Option Value))(r:Option Value):Bool:=v==some r
def Mn(K:Frag)(C:Addr):Bool:=(clsIn K C).any (·.hasDict)&&KH (findIn K (.ref C) "__getattribute__") (some (.builtin "object.__getattribute__"))&&cN.all (fun a=>KH (findIn K (.ref C) a) none)&&KH (findIn K (.ref C) "__getattr__") none
theorem lL{v:Option (Option Value)}{r:Option Value}(h:KH v r=true):v=some r:=beq_iff_eq.mp h
theorem Jr{C:Addr}(h:Mn K C=true):FZ K C:=by
 unfold Mn at h
 simp only[Bool.and_eq_true] at h
 obtain⟨⟨⟨h1,h2⟩,h3⟩,h4⟩:=h
 refine⟨?_,lL h2,fun a ha=>lL (List.all_eq_true.mp h3 a ha),lL h4⟩
 cases q:clsIn K C with
 |none=>rw[q] at h1;cases h1
 |some cd=>rw[q] at h1;exact⟨cd,rfl,by simpa using h1⟩
def KJ(r:Option CFound)(v:Value):Bool:=match r with
 |some (.val u)=>u==v
 |_=>false
def HD(K:Frag)(C fI:Addr)(fn:Fn):Bool:=makesIn K C&&KH (findIn K (.ref C) "__init__") (some (.ref fI))&&typeIn K (.ref fI)==some (.type "function")&&keepIn K (.ref fI)&&KJ (findCls K (.ref C) (.type "type") "__init__") (.ref fI)&&
 plainOver K C&&KH (findIn K (.ref C) "__setattr__") (some (.builtin "object.__setattr__"))&&KH (specialIn K (.ref C) "__getattribute__") (some (.builtin "type.__getattribute__"))&&readsIn K C (.type "type")&&keepIn K (.ref C)&&
 (match fn.params with
 |me::_=>(match fn.scope.names.lookup me with
  |some .local=>true
  |_=>false)
 |[]=>true)
theorem Gk{C fI:Addr}{fn:Fn}(h:HD K C fI fn=true)(hf:pi B fI fn):wX K B C fn:=by
 unfold HD at h
 simp only[Bool.and_eq_true] at h
 obtain⟨⟨⟨⟨⟨⟨⟨⟨⟨⟨h1,h2⟩,h3⟩,h4⟩,h5⟩,h6⟩,h7⟩,h8⟩,h9⟩,h10⟩,h11⟩:=h
 refine⟨h1,⟨fI,lL h2,beq_iff_eq.mp h3,hf,h4,?_⟩,h6,lL h7,lL h8,h9,h10,fun me ps e=>?_⟩
 ·unfold KJ at h5
  split at h5
  ·rename_i u hu
   rw[hu,eq_of_beq h5]
  ·cases h5
 ·rw[e] at h11
  dsimp only at h11
  split at h11
  ·assumption
  ·cases h11
def KS(K:Frag)(a:Addr)(mth:Str)(f:Addr):Bool:=KH (findIn K (.ref a) mth) (some (.ref f))&&typeIn K (.ref f)==some (.type "function")&&keepIn K (.ref f)
def rc(c:Str):Option Addr:=(xN.lookup c).map (·.1)
def tH:List (Addr×Fn):=EO.map (fun p=>(p.2,fnOf p.1))++xN.map (fun p=>(p.2.2,dM p.1))++re.map (fun p=>(p.2.2,ed p.1 p.2.1))
def KY(K:Frag):Bool:=tH.all (fun p=>HY K p.1 p.2)&&EO.all (fun p=>gl K p.1==some (.ref p.2))&&xN.all (fun p=>gl K p.1==some (.ref p.2.1)&&Mn K p.2.1&&HD K p.2.1 p.2.2 (dM p.1))&&
 re.all (fun p=>(rc p.1).all fun a=>KS K a p.2.1 p.2.2)&&Bd.all (fun x=>match gl K x,T.glob x with
  |some v,some y=>Ji v y
  |_,_=>false)&&bK.all (fun f=>Ms K f&&decide (bootBuiltins f=some (k9 f))&&!(f=="__name__"))
theorem pQ{α β:Type}{f g:α→β}:∀ {l:List α},l.map f=l.map g→∀ x∈l,f x=g x
 |a::l,h,x,hx=>by
  simp only[List.map_cons,List.cons.injEq] at h
  rcases List.mem_cons.mp hx with rfl|hx
  ·exact h.1
  ·exact pQ h.2 x hx
theorem ID(X:K.In B)(g:B.Ns mainGlobals m)(b:B.Ns builtinsNs mb)(nl:B.NoLimit)(hb:∀ x:Str,x≠"__name__"→mb x=bootBuiltins x)(c:KY K=true)
  (ea:tH.map (fun p=>Be K p.1)=tH.map (fun p=>some (.stmts p.2.body,p.2.scope))):eQ T prog w rc B m mb K:=by
 unfold KY at c
 simp only[Bool.and_eq_true] at c
 obtain⟨⟨⟨⟨⟨c1,c2⟩,c3⟩,c4⟩,c5⟩,c6⟩:=c
 have each:∀ p∈tH,pi B p.1 p.2:=fun p hp=>Jk X (List.all_eq_true.mp c1 p hp) (pQ ea p hp)
 have cl:∀ C a,rc C=some a→∃ f,(C,a,f)∈xN:=fun C a h=>by
  unfold rc at h
  cases q:xN.lookup C with
  |none=>rw[q] at h;cases h
  |some r=>
   rw[q] at h
   cases h
   exact⟨r.2,mem_of_lookup q⟩
 refine⟨X,fun C a h=>?_,g,b,fun f fn h=>?_,fun C fn h=>?_,fun C mth fn h a ha=>?_,fun x v h=>?_,fun f hf=>?_,⟨mainGlobals,by decide,by obtain⟨o,_,_,ho,_⟩:=g;rw[ho];simp⟩,nl⟩
 ·obtain⟨f,hm⟩:=cl C a h
  have:=List.all_eq_true.mp c3 _ hm
  simp only[Bool.and_eq_true] at this
  exact Jr this.1.2
 ·have h0:=h
  change (EO.lookup f).bind _=some fn at h
  cases q:EO.lookup f with
  |none=>rw[q] at h;cases h
  |some a=>
   have hm:=mem_of_lookup q
   have e1:fnOf f=fn:=by unfold fnOf;rw[h0];rfl
   refine⟨a,Gp X g (beq_iff_eq.mp (List.all_eq_true.mp c2 _ hm)),?_⟩
   have:=each (a,fnOf f) (List.mem_append_left _ (List.mem_append_left _ (List.mem_map.mpr ⟨(f,a),hm,rfl⟩)))
   rw[e1] at this
   exact this
 ·have h0:=h
  change (xN.lookup C).bind _=some fn at h
  cases q:xN.lookup C with
  |none=>rw[q] at h;cases h
  |some r=>
   have hm:=mem_of_lookup q
   have e1:dM C=fn:=by unfold dM;rw[h0];rfl
   have h3:=List.all_eq_true.mp c3 _ hm
   simp only[Bool.and_eq_true] at h3
   have hf:=each (r.2,dM C) (List.mem_append_left _ (List.mem_append_right _ (List.mem_map.mpr ⟨(C,r),hm,rfl⟩)))
   rw[e1] at hf
   have h4:=h3.2
   rw[e1] at h4
   exact⟨r.1,Gp X g (beq_iff_eq.mp h3.1.1),by unfold rc;rw[q];rfl,Gk h4 hf⟩
 ·have h0:=h
  change (re.find? (vF C mth)).bind _=some fn at h
  cases q:re.find? (vF C mth) with
  |none=>rw[q] at h;cases h
  |some p=>
   have hm:=List.mem_of_find?_eq_some q
   have hp:=List.find?_some q
   unfold vF at hp
   obtain⟨p1,p2⟩:=Bool.and_eq_true_iff.mp hp
   have p1:=eq_of_beq p1
   have p2:=eq_of_beq p2
   have e1:ed p.1 p.2.1=fn:=by unfold ed;rw[p1,p2,h0];rfl
   have hf:=each (p.2.2,ed p.1 p.2.1) (List.mem_append_right _ (List.mem_map.mpr ⟨p,hm,rfl⟩))
   rw[e1] at hf
   have h4:=List.all_eq_true.mp c4 _ hm
   skip
   rw[p1,ha] at h4
   simp only[Option.all_some] at h4
   unfold KS at h4
   simp only[Bool.and_eq_true] at h4
   obtain⟨⟨k1,k2⟩,k3⟩:=h4
   rw[p2] at k1
   exact⟨p.2.2,lL k1,beq_iff_eq.mp k2,k3,hf⟩
 ·have h0:=h
  change (bif Bd.contains x then vC top x else none)=some v at h
  cases q:Bd.contains x with
  |false=>rw[q] at h;cases h
  |true=>
   have h5:=List.all_eq_true.mp c5 x (List.contains_iff_mem.mp q)
   skip
   rw[h0] at h5
   split at h5
   ·rename_i u y e1 e2
    cases e2
    exact⟨u,Gp X g e1,Bq h5⟩
   ·cases h5
 ·have h6:=List.all_eq_true.mp c6 f hf
  simp only[Bool.and_eq_true] at h6
  obtain⟨⟨k1,k2⟩,k3⟩:=h6
  exact⟨J7 X g k1,(hb f (by simpa using k3)).trans (of_decide_eq_true k2)⟩
end
section
variable{prog:Program}{w:World}{cls:Str→Option Addr}{B G:Heap}{μ:List Addr}{H H':Hp}{s:Shared}{A:Around}{T:gI}{m mb:Str→Option Value}{K:Frag}{n:Nat}
theorem sP(F:eQ T prog w cls B m mb K)(ih:gT T prog w cls B n){fn:Fn}{a:Addr}{vs:List MV}{as:List Value}{v:MV}(e0:fE (aQ T n) fn vs H=some (v,H'))(hf:pi B a fn)(hr:bA A (n+1))
  (S:St prog w cls B G μ H s.heap) (tk:1≤s.toks∨(as≠[]∧∃ x ps,fn.params=x::ps∧fn.scope.names.lookup x=some .local)) (rs:aW prog w cls G μ as vs) {R:Result→Shared→Prop}
  (hR:∀ r s',bf prog w cls B [] G μ s H' v r s'→R (.ok (.ret r)) s'):codeAny (model prog w) A (.call (.ref a) ⟨as,[]⟩) R s:=by
 obtain⟨bs,H1,e1,e⟩:=ag e0
 clear e0
 obtain⟨e2,rfl⟩:=bB e1
 clear e1
 obtain⟨q1,q2,rfl⟩:=iP e2
 have hlen:=rs.length
 refine jn F hf (by have:=hr.2.1;omega) S tk (by omega) (by omega) fun ds rd env h1 tk1 ent t1 E'=>?_
 have ru:=rs.append (rd.drop (vs.length+fn.dflts.length - fn.params.length))
 rw[←hlen] at ru
 have V:=ent.V (frame fn.scope (fn.params.zip (vs++fn.dflts.drop (vs.length+fn.dflts.length - fn.params.length)))) fun y z hy=>by
  rw[←hlen] at hy
  exact vv ru y z (ii hf.names hy)
 have I1:cB prog w cls B ⟨fn.scope,frame fn.scope (fn.params.zip (vs++fn.dflts.drop (vs.length+fn.dflts.length - fn.params.length)))⟩ env G μ H1 { s with heap:=h1,toks:=tk1 }:=
  ⟨S.grow ent.le,V,nL ent.scope,t1⟩
 refine wpAny_mono (ih.ex e (A:=A.deeper env) ⟨hr.1,by have:=hr.2.1;show A.depth+1+4 * n < 1000;omega,by have:=hr.2.2;show A.units+3+10 * n+80 < 9900;omega⟩ I1) (fun fl s2 y=>?_) fun _ _ h=>h
 rcases y with⟨r,rfl,hp⟩|⟨rfl,ρ',H2,G2,μ2,ek,n2,I2⟩
 ·exact hR _ _ (np (cS ent.le) hp fun b hb=>.inr (ent.fresh b hb))
 ·cases ek
  exact hR _ _ ⟨G2,μ2,(cS (P:=[]) ent.le).trans' n2 fun b hb=>.inr (ent.fresh b hb),I2.S,.none⟩
end
theorem Ab:(fnOf "law").params=[("script":Str)]:=by kernel_rfl
theorem Dh:(fnOf "law").scope.names.lookup ("script":Str)=some NameKind.local:=by kernel_rfl
theorem K2:T.fn "law"=some (fnOf "law"):=by kernel_rfl
def IX:Prop:=∀ is:List Int,is.length≤63→∃ H',ab T 8 (fnOf "law") [.raw (is.map .int)] []=some (.bool true,H')
theorem law_walk{prog:Program}{w:World}{s₁:Shared}{mg mb:Str→Option Value}{K:Frag}(hlaw:IX)(X:K.In s₁.heap)(g:s₁.heap.Ns mainGlobals mg)(b:s₁.heap.Ns builtinsNs mb)(nl:s₁.heap.NoLimit)
  (hb:∀ x:Str,x≠"__name__"→mb x=bootBuiltins x) (c:KY K=true) (ea:tH.map (fun p=>Be K p.1)=tH.map (fun p=>some (.stmts p.2.body,p.2.scope)))
  {fa l:Addr} {vs:List Value} {is:List Int} (hfa:mg "law"=some (.ref fa)) (hl:s₁.heap.IsList l vs.toArray) (hi:IntsAre vs is) (hlen:is.length≤63) {R:Result→Shared→Prop}
  (hR:∀ h tk,Le s₁.heap h→R (.ok (.ret (.bool true))) { s₁ with heap:=h,toks:=tk }):codeAny (model prog w) callerA (.call (.ref fa) ⟨[.ref l],[]⟩) R s₁:=by
 have F:eQ T prog w rc s₁.heap mg mb K:=ID X g b nl hb c ea
 obtain⟨H',e⟩:=hlaw is hlen
 have e1:=wv 8 _ _ _ _ e
 obtain⟨a,ha,hf⟩:=F.fn "law" _ K2
 have hfa':a=fa:=by rw[hfa] at ha;cases ha;rfl
 subst hfa'
 have S:St prog w rc s₁.heap s₁.heap [] [] s₁.heap:=⟨Le.refl _,Le.refl _,rfl,fun i a mo h=>by simp at h,fun a h=>by simp at h,.nil⟩
 refine sP (n:=167) F (K8 F 167).1 (show fE (aQ T 167) (fnOf "law") [.raw (is.map .int)] []=some (.bool true,H') from e1) hf ⟨rfl,by decide,by decide⟩ S (.inr ⟨by simp,("script":Str),[],Ab,Dh⟩) (.cons (.raw hl (vX hi)) .nil) fun r s' hp=>?_
 obtain⟨G',μ',n,S',rr⟩:=hp
 cases rr
 obtain⟨h,tk,rfl⟩:=n.same
 exact hR h tk (n.sub.trans S'.keep)
end
end Mine.S
namespace Mine
section
open PySem
def fu:List (M MV)→M (List MV)
 |[]=>ret []
 |m::ms=>bnd m fun v=>bnd (fu ms) fun vs=>ret (v::vs)
def bu(op:Operator)(A B:M MV):M MV:=bnd A fun a=>bnd B fun b=>opt (bF op a b)
def Ou(op:UnaryOp)(A:M MV):M MV:=bnd A fun a=>opt (uC op a)
def aO(op:CmpOp)(A B:M MV):M Bool:=bnd A fun a=>bnd B fun b=>dA op a b
def cmp2(op op':CmpOp)(A B C:M MV):M Bool:=bnd A fun a=>bnd B fun b=>bnd (dA op a b) fun x=>bif x then bnd C fun d=>dA op' b d else ret false
def ifT{α:Type}(t:M Bool)(A B:M α):M α:=bnd t fun x=>bif x then A else B
def lh(t:M Bool):M MV:=bnd t bool
def Ig(t:M Bool):M Bool:=bnd t fun b=>ret (!b)
def k6:List (M Bool)→M Bool
 |[]=>ret true
 |t::r=>bnd t fun b=>bif b then k6 r else ret false
def oD:List (M Bool)→M Bool
 |[]=>ret false
 |t::r=>bnd t fun b=>bif b then ret true else oD r
def xu(t r:M Bool):M Bool:=bnd t fun b=>bif b then r else ret false
def i5(a:Str)(A:M MV):M MV:=bnd A fun ov=>opt (Cz ov a)
def aq(A B:M MV):M MV:=bnd A fun ov=>bnd B fun iv=>bE ov iv
def A7(A:M MV):M (Option Int):=bnd A BL
def D0(A:M MV)(lo hi:M (Option Int)):M MV:=bnd A fun ov=>bnd lo fun a=>bnd hi fun b=>opt (dd ov a b)
def kZ(l:List (M MV)):M MV:=bnd (fu l) fun vs=>bif bZ vs then ret (.tup vs) else fail
def bP(l:List (M MV)):M MV:=bnd (fu l) fun vs=>bif bZ vs then ret (.lst vs) else fail
def r9(l:List (M MV)):M MV:=bnd (fu l) fun vs=>bif bZ vs then oI (.lst vs) else fail
def L2:List (M MV×M MV)→M (List (MV×MV))
 |[]=>ret []
 |p::r=>bnd p.1 fun kv=>bnd p.2 fun v=>bnd (L2 r) fun vs=>ret ((kv,v)::vs)
def N0(l:List (M MV×M MV)):M MV:=bnd (L2 l) fun es=>match cj es with
 |some l=>bif nodup (l.map (·.1)) then ret (.dcs l) else fail
 |none=>(match cP es with
  |some l=>bif nodup (l.map (·.1)) then ret (.dci l) else fail
  |none=>fail)
def qU(l:List (M MV×M MV)):M MV:=bnd (L2 l) fun es=>match cj es with
 |some l=>bif nodup (l.map (·.1)) then oI (.dcs l) else fail
 |none=>fail
def Ot(l:List (M MV×M MV)):M MV:=bnd (L2 l) fun es=>match cP es with
 |some l=>bif nodup (l.map (·.1)) then oI (.dci l) else fail
 |none=>fail
def cU(f:Str)(l:List (M MV)):M MV:=bnd (fu l) fun vs=>builtin f vs
def ai(cl:Fn→List MV→M MV)(f:Str)(l:List (M MV)):M MV:=bnd (fu l) fun vs=>cl (fnOf f) vs
def bk(cl:Fn→List MV→M MV)(A:M MV)(m:Str)(l:List (M MV)):M MV:=bnd A fun ov=>match ov with
 |.inst C fs=>(match T.meth C m with
  |some fn=>bif (fs.lookup m).isSome then fail else bnd (fu l) fun vs=>cl fn (ov::vs)
  |none=>fail)
 |_=>bnd (dI ov m) fun k=>bnd (fu l) fun vs=>bx k ov m vs
def ee(l:List (M MV)):M (List MV):=bnd (fu l) fun vs=>opt (dN vs)
def eP(A:M MV):M (List MV):=bnd A g9
def Mw(f:Str)(l:List (M MV)):M (List MV):=bnd (fu l) fun vs=>opt (dr f vs)
def bn(t:M Bool)(A:M MV):M (Option MV):=bnd t fun b=>bif b then bnd A fun y=>ret (some y) else ret none
def bw(I:M (List MV))(f:MV→M (Option MV)):M MV:=bnd I fun vs=>bnd (bQ f vs) fun ys=>ret (.lst ys)
def dU(A K:M MV):M MV:=bnd A fun v=>match v with
 |.none=>K
 |_=>fail
def lS(O I:M MV)(v:MV)(K:M MV):M MV:=bnd O fun ov=>bnd I fun iv=>bnd (setItem ov iv v) fun _=>K
def v6(V O I K:M MV):M MV:=bnd V fun v=>lS O I v K
def Hb(V:M MV)(K:List MV→M MV):M MV:=bnd V fun v=>match v with
 |.tup vs=>K vs
 |_=>fail
def sZ(V:M MV)(K:MV→MV→M MV):M MV:=Hb V fun vs=>Ce vs fun a vs=>Ce vs fun b vs=>Mu vs (K a b)
def Nq(V:M MV)(K:MV→MV→MV→M MV):M MV:=Hb V fun vs=>Ce vs fun a vs=>Ce vs fun b vs=>Ce vs fun c vs=>Mu vs (K a b c)
def KB(V:M MV)(K:MV→MV→MV→MV→M MV):M MV:=Hb V fun vs=>Ce vs fun a vs=>Ce vs fun b vs=>Ce vs fun c vs=>Ce vs fun d vs=>Mu vs (K a b c d)
structure Fl where
 cf:Int
 pf:Int
 af:Int
 zf:Int
 sf:Int
 of:Int
 df:Int
structure W where
 r:List Int
 m:List (Int×Int)
 f:Fl
 rd:List Int
 st:List Int
 load:Bool
 store:Bool
structure Pt where
 w:Nat
 t:Nat
 r:Nat
 m:Nat
 f:Nat
 rd:Nat
 st:Nat
def Fl.toL(f:Fl):List (Str×MV):=[("cf",.int f.cf),("pf",.int f.pf),("af",.int f.af),("zf",.int f.zf),("sf",.int f.sf),("of",.int f.of),("df",.int f.df)]
def bj(l:List Int):MO:=.lst (l.map .int)
def a9(l:List (Int×Int)):List (Int×MV):=l.map fun p=>(p.1,.int p.2)
def W.top(p:Pt)(w:W):MO:=.dcs [("t",.ref p.t),("r",.ref p.r),("m",.ref p.m),("f",.ref p.f),("read",.ref p.rd),("set",.ref p.st),("load",.bool w.load),("store",.bool w.store)]
def yY:List (Nat×Str×Str×Str×Str):=[(0,"rax","eax","ax","al"),(1,"rcx","ecx","cx","cl"),(2,"rdx","edx","dx","dl"),(3,"rbx","ebx","bx","bl"),(4,"rsp","esp","sp","spl"),(5,"rbp","ebp","bp","bpl"),(6,"rsi","esi","si","sil"),(7,"rdi","edi","di","dil"),(8,"r8","r8d","r8w","r8b"),(9,"r9","r9d","r9w","r9b")]
def pU(n s h:Int):MV:=.tup [.int n,.int s,.int h]
def bO:List (Str×MV):=(yY.flatMap fun x=>[(x.2.1,pU x.1 64 0),(x.2.2.1,pU x.1 32 0),(x.2.2.2.1,pU x.1 16 0),(x.2.2.2.2,pU x.1 8 0)])++[(("ah":Str),pU 0 8 8)]
def cE(p:Pt)(w:W)(i:Nat)(o:MO):MO:=
 if i=p.w then w.top p else if i=p.r then bj w.r else if i=p.m then .dci (a9 w.m) else if i=p.f then .dcs w.f.toL else if i=p.rd then bj w.rd else if i=p.st then bj w.st else o
def ao(H:Hp)(p:Pt)(w:W):Hp:=H.mapIdx (cE p w)
structure Pt.ok(p:Pt)(H:Hp):Prop where
 lw:p.w < H.length
 lr:p.r < H.length
 lm:p.m < H.length
 lf:p.f < H.length
 ld:p.rd < H.length
 ls:p.st < H.length
 t:H[p.t]?=some (.dcs bO)
 nd:[p.w,p.r,p.m,p.f,p.rd,p.st].Nodup
 nt:p.t∉[p.w,p.r,p.m,p.f,p.rd,p.st]
section
variable{H:Hp}{p:Pt}{w:W}
theorem cy(i:Nat):(ao H p w)[i]?=(H[i]?).map (cE p w i):=by unfold ao;rw[List.getElem?_mapIdx]
theorem cg:(ao H p w).length=H.length:=by simp[ao]
theorem lQ{i:Nat}(h:i < H.length):(ao H p w)[i]?=some (cE p w i H[i]):=by rw[cy,List.getElem?_eq_getElem h];rfl
theorem H8(h:p.ok H):(ao H p w)[p.w]?=some (w.top p):=by rw[lQ h.lw];simp[cE]
theorem NS(h:p.ok H):(ao H p w)[p.r]?=some (bj w.r):=by
 have:=h.nd;simp at this
 rw[lQ h.lr];unfold cE;rw[if_neg (by intro e;simp[e] at this),if_pos rfl]
theorem MQ(h:p.ok H):(ao H p w)[p.m]?=some (.dci (a9 w.m)):=by
 have:=h.nd;simp at this
 rw[lQ h.lm];unfold cE;rw[if_neg (by intro e;simp[e] at this),if_neg (by intro e;simp[e] at this),if_pos rfl]
theorem Ea(h:p.ok H):(ao H p w)[p.f]?=some (.dcs w.f.toL):=by
 have:=h.nd;simp at this
 rw[lQ h.lf];unfold cE;rw[if_neg (by intro e;simp[e] at this),if_neg (by intro e;simp[e] at this),if_neg (by intro e;simp[e] at this),if_pos rfl]
theorem OO(h:p.ok H):(ao H p w)[p.rd]?=some (bj w.rd):=by
 have:=h.nd;simp at this
 rw[lQ h.ld];unfold cE;rw[if_neg (by intro e;simp[e] at this),if_neg (by intro e;simp[e] at this),if_neg (by intro e;simp[e] at this),if_neg (by intro e;simp[e] at this),if_pos rfl]
theorem OE(h:p.ok H):(ao H p w)[p.st]?=some (bj w.st):=by
 have:=h.nd;simp at this
 rw[lQ h.ls];unfold cE;rw[if_neg (by intro e;simp[e] at this),if_neg (by intro e;simp[e] at this),if_neg (by intro e;simp[e] at this),if_neg (by intro e;simp[e] at this),if_neg (by intro e;simp[e] at this),if_pos rfl]
theorem O6(h:p.ok H):(ao H p w)[p.t]?=some (.dcs bO):=by
 have:=h.nt;simp at this
 rw[cy,h.t];simp[cE,this]
theorem Dm{H:Hp}{p:Pt}{w w':W}{i:Nat}{o:MO}(hi:i < H.length)(e:∀ x,cE p w' i x=o)(k:∀ j x,j≠i→cE p w' j x=cE p w j x):(ao H p w).set i o=ao H p w':=by
 apply List.ext_getElem?
 intro j
 by_cases hj:j=i
 ·subst hj
  rw[List.getElem?_set_self (by rw[cg];exact hi),lQ hi,e]
 ·rw[List.getElem?_set_ne (Ne.symm hj),cy,cy]
  cases H[j]? with
  |none=>rfl
  |some x=>simp only[Option.map_some];rw[k j x hj]
theorem O0(h:p.ok H)(r:List Int):(ao H p w).set p.r (bj r)=ao H p { w with r:=r }:=by
 have:=h.nd;simp at this
 exact Dm h.lr (fun x=>by unfold cE;rw[if_neg (by intro e;simp[e] at this),if_pos rfl]) fun j x hj=>by simp only[cE,W.top,hj,if_false]
theorem Nt(h:p.ok H)(m:List (Int×Int)):(ao H p w).set p.m (.dci (a9 m))=ao H p { w with m:=m }:=by
 have:=h.nd;simp at this
 exact Dm h.lm (fun x=>by unfold cE;rw[if_neg (by intro e;simp[e] at this),if_neg (by intro e;simp[e] at this),if_pos rfl]) fun j x hj=>by simp only[cE,W.top,hj,if_false]
theorem Nm(h:p.ok H)(f:Fl):(ao H p w).set p.f (.dcs f.toL)=ao H p { w with f:=f }:=by
 have:=h.nd;simp at this
 exact Dm h.lf (fun x=>by unfold cE;rw[if_neg (by intro e;simp[e] at this),if_neg (by intro e;simp[e] at this),if_neg (by intro e;simp[e] at this),if_pos rfl]) fun j x hj=>by simp only[cE,W.top,hj,if_false]
theorem OC(h:p.ok H)(l:List Int):(ao H p w).set p.rd (bj l)=ao H p { w with rd:=l }:=by
 have:=h.nd;simp at this
 exact Dm h.ld (fun x=>by unfold cE;rw[if_neg (by intro e;simp[e] at this),if_neg (by intro e;simp[e] at this),if_neg (by intro e;simp[e] at this),if_neg (by intro e;simp[e] at this),if_pos rfl]) fun j x hj=>by simp only[cE,W.top,hj,if_false]
theorem Ox(h:p.ok H)(l:List Int):(ao H p w).set p.st (bj l)=ao H p { w with st:=l }:=by
 have:=h.nd;simp at this
 exact Dm h.ls (fun x=>by unfold cE;rw[if_neg (by intro e;simp[e] at this),if_neg (by intro e;simp[e] at this),if_neg (by intro e;simp[e] at this),if_neg (by intro e;simp[e] at this),if_neg (by intro e;simp[e] at this),if_pos rfl]) fun j x hj=>by simp only[cE,W.top,hj,if_false]
theorem Gu(h:p.ok H)(a b:Bool):(ao H p w).set p.w (W.top p { w with load:=a,store:=b })=ao H p { w with load:=a,store:=b }:=by
 exact Dm h.lw (fun x=>by simp[cE]) fun j x hj=>by simp only[cE,W.top,hj,if_false]
theorem gM{o i v:MV}(h:getItem H o i=some v):bE o i H=some (v,H):=by unfold bE;rw[h]
theorem gP{a:Nat}{es:List (Str×MV)}{k:Str}{v:MV}(h:H[a]?=some (.dcs es))(e:es.lookup k=some v):bE (.ref a) (.str k) H=some (v,H):=gM (by simp only[getItem,h];exact e)
theorem O8(h:p.ok H):bE (.ref p.w) (.str "t") (ao H p w)=some (.ref p.t,ao H p w):=gP (H8 h) (by kernel_rfl)
theorem O3(h:p.ok H):bE (.ref p.w) (.str "r") (ao H p w)=some (.ref p.r,ao H p w):=gP (H8 h) (by kernel_rfl)
theorem O5(h:p.ok H):bE (.ref p.w) (.str "m") (ao H p w)=some (.ref p.m,ao H p w):=gP (H8 h) (by kernel_rfl)
theorem Pb(h:p.ok H):bE (.ref p.w) (.str "f") (ao H p w)=some (.ref p.f,ao H p w):=gP (H8 h) (by kernel_rfl)
theorem Nf(h:p.ok H):bE (.ref p.w) (.str "read") (ao H p w)=some (.ref p.rd,ao H p w):=gP (H8 h) (by kernel_rfl)
theorem NB(h:p.ok H):bE (.ref p.w) (.str "set") (ao H p w)=some (.ref p.st,ao H p w):=gP (H8 h) (by kernel_rfl)
theorem L7(h:p.ok H):bE (.ref p.w) (.str "load") (ao H p w)=some (.bool w.load,ao H p w):=gP (H8 h) (by kernel_rfl)
theorem JY(h:p.ok H):bE (.ref p.w) (.str "store") (ao H p w)=some (.bool w.store,ao H p w):=gP (H8 h) (by kernel_rfl)
theorem IG(h:p.ok H):bE (.ref p.f) (.str "cf") (ao H p w)=some (.int w.f.cf,ao H p w):=gP (Ea h) (by kernel_rfl)
theorem L1(h:p.ok H):bE (.ref p.f) (.str "pf") (ao H p w)=some (.int w.f.pf,ao H p w):=gP (Ea h) (by kernel_rfl)
theorem NY(h:p.ok H):bE (.ref p.f) (.str "af") (ao H p w)=some (.int w.f.af,ao H p w):=gP (Ea h) (by kernel_rfl)
theorem GO(h:p.ok H):bE (.ref p.f) (.str "zf") (ao H p w)=some (.int w.f.zf,ao H p w):=gP (Ea h) (by kernel_rfl)
theorem Jm(h:p.ok H):bE (.ref p.f) (.str "sf") (ao H p w)=some (.int w.f.sf,ao H p w):=gP (Ea h) (by kernel_rfl)
theorem Kb(h:p.ok H):bE (.ref p.f) (.str "of") (ao H p w)=some (.int w.f.of,ao H p w):=gP (Ea h) (by kernel_rfl)
theorem NN(h:p.ok H):bE (.ref p.f) (.str "df") (ao H p w)=some (.int w.f.df,ao H p w):=gP (Ea h) (by kernel_rfl)
theorem pI(h:p.ok H){k:Str}{v:MV}(e:bO.lookup k=some v):bE (.ref p.t) (.str k) (ao H p w)=some (v,ao H p w):=gP (O6 h) e
theorem Kv(h:p.ok H){i:Int}{v:Int}(hl:w.r.length≤100000)(h0:0≤i)(e:w.r[i.toNat]?=some v):bE (.ref p.r) (.int i) (ao H p w)=some (.int v,ao H p w):=by
 refine gM ?_
 simp only[getItem,NS h,bj]
 have:bZ (w.r.map .int)=true:=Nat.ble_eq_true_of_le (by simpa using hl)
 unfold D6
 rw[decide_eq_true h0,this]
 simp[e]
theorem qK{k:Str}{v:Int}{f f':Fl}(e:put k (.int v) f.toL=f'.toL)(h:p.ok H):setItem (.ref p.f) (.str k) (.int v) (ao H p { w with f:=f })=some ((),ao H p { w with f:=f' }):=by
 have hl:Nat.ble f.toL.length 100000=true:=rfl
 simp only[setItem]
 rw[Ea h]
 dsimp only
 rw[hl]
 dsimp only[cond_true]
 rw[e]
 exact congrArg some (Prod.ext rfl (Nm (w:={ w with f:=f }) h f'))
theorem OK(h:p.ok H)(v:Int):setItem (.ref p.f) (.str "cf") (.int v) (ao H p w)=some ((),ao H p { w with f:={ w.f with cf:=v } }):=qK (f:=w.f) (by kernel_rfl) h
theorem OV(h:p.ok H)(v:Int):setItem (.ref p.f) (.str "pf") (.int v) (ao H p w)=some ((),ao H p { w with f:={ w.f with pf:=v } }):=qK (f:=w.f) (by kernel_rfl) h
theorem OL(h:p.ok H)(v:Int):setItem (.ref p.f) (.str "af") (.int v) (ao H p w)=some ((),ao H p { w with f:={ w.f with af:=v } }):=qK (f:=w.f) (by kernel_rfl) h
theorem OP(h:p.ok H)(v:Int):setItem (.ref p.f) (.str "zf") (.int v) (ao H p w)=some ((),ao H p { w with f:={ w.f with zf:=v } }):=qK (f:=w.f) (by kernel_rfl) h
theorem OX(h:p.ok H)(v:Int):setItem (.ref p.f) (.str "sf") (.int v) (ao H p w)=some ((),ao H p { w with f:={ w.f with sf:=v } }):=qK (f:=w.f) (by kernel_rfl) h
theorem Om(h:p.ok H)(v:Int):setItem (.ref p.f) (.str "of") (.int v) (ao H p w)=some ((),ao H p { w with f:={ w.f with of:=v } }):=qK (f:=w.f) (by kernel_rfl) h
theorem OY(h:p.ok H)(v:Int):setItem (.ref p.f) (.str "df") (.int v) (ao H p w)=some ((),ao H p { w with f:={ w.f with df:=v } }):=qK (f:=w.f) (by kernel_rfl) h
theorem G8(h:p.ok H)(b:Bool):setItem (.ref p.w) (.str "load") (.bool b) (ao H p w)=some ((),ao H p { w with load:=b }):=by
 simp only[setItem]
 rw[H8 h]
 exact congrArg some (Prod.ext rfl ((show(ao H p w).set p.w (.dcs (put "load" (.bool b) [("t",.ref p.t),("r",.ref p.r),("m",.ref p.m),("f",.ref p.f),("read",.ref p.rd),("set",.ref p.st),("load",.bool w.load),("store",.bool w.store)]))=(ao H p w).set p.w (W.top p { w with load:=b,store:=w.store }) by
  congr 1).trans (Gu h b w.store)))
theorem Bc(h:p.ok H)(b:Bool):setItem (.ref p.w) (.str "store") (.bool b) (ao H p w)=some ((),ao H p { w with store:=b }):=by
 simp only[setItem]
 rw[H8 h]
 exact congrArg some (Prod.ext rfl ((show(ao H p w).set p.w (.dcs (put "store" (.bool b) [("t",.ref p.t),("r",.ref p.r),("m",.ref p.m),("f",.ref p.f),("read",.ref p.rd),("set",.ref p.st),("load",.bool w.load),("store",.bool w.store)]))=(ao H p w).set p.w (W.top p { w with load:=w.load,store:=b }) by
  congr 1).trans (Gu h w.load b)))
theorem KP(h:p.ok H){i v:Int}(hl:w.r.length≤100000)(h0:0≤i)(hi:i.toNat < w.r.length):setItem (.ref p.r) (.int i) (.int v) (ao H p w)=some ((),ao H p { w with r:=w.r.set i.toNat v }):=by
 simp only[setItem,NS h,bj]
 have h1:bZ (w.r.map MV.int)=true:=Nat.ble_eq_true_of_le (by simpa using hl)
 have h2:decide (i < ((w.r.map MV.int).length:Int))=true:=decide_eq_true (by simp;omega)
 rw[decide_eq_true h0,h1,h2]
 have:=O0 (w:=w) h (w.r.set i.toNat v)
 simp only[bj,List.map_set] at this
 simp[this]
def sM(a b:Int):List (Int×Int)→List (Int×Int)
 |[]=>[(a,b)]
 |(x,y)::r=>bif x==a then (x,b)::r else (x,y)::sM a b r
theorem tX(a b:Int):∀ m:List (Int×Int),put a (.int b) (a9 m)=a9 (sM a b m)
 |[]=>rfl
 |(x,y)::r=>by
  show(bif x==a then (x,.int b)::a9 r else (x,.int y)::put a (.int b) (a9 r))=a9 (bif x==a then (x,b)::r else (x,y)::sM a b r)
  cases x==a with
  |true=>rfl
  |false=>simp only[cond_false];rw[tX a b r];rfl
theorem Ks(h:p.ok H){a v:Int}(hl:w.m.length≤100000):setItem (.ref p.m) (.int a) (.int v) (ao H p w)=some ((),ao H p { w with m:=sM a v w.m }):=by
 simp only[setItem,MQ h]
 have h1:Nat.ble (a9 w.m).length 100000=true:=Nat.ble_eq_true_of_le (by simpa [a9] using hl)
 rw[h1]
 simp only[cond_true]
 rw[tX,Nt h]
theorem EX(h:p.ok H){n:Int}(hl:w.rd.length≤100000):bx 1 (.ref p.rd) "append" [.int n] (ao H p w)=some (.none,ao H p { w with rd:=w.rd++[n] }):=by
 simp only[bx,OO h,bj]
 have h1:bZ (w.rd.map MV.int)=true:=Nat.ble_eq_true_of_le (by simpa using hl)
 have:=OC (w:=w) h (w.rd++[n])
 simp only[bj,List.map_append,List.map_cons,List.map_nil] at this
 rw[h1]
 simp[this]
theorem Gx(h:p.ok H){n:Int}(hl:w.st.length≤100000):bx 1 (.ref p.st) "append" [.int n] (ao H p w)=some (.none,ao H p { w with st:=w.st++[n] }):=by
 simp only[bx,OE h,bj]
 have h1:bZ (w.st.map MV.int)=true:=Nat.ble_eq_true_of_le (by simpa using hl)
 have:=Ox (w:=w) h (w.st++[n])
 simp only[bj,List.map_append,List.map_cons,List.map_nil] at this
 rw[h1]
 simp[this]
theorem Ky(h:p.ok H):dI (.ref p.rd) "append" (ao H p w)=some (1,ao H p w):=by simp[dI,OO h,bj]
theorem KI(h:p.ok H):dI (.ref p.st) "append" (ao H p w)=some (1,ao H p w):=by simp[dI,OE h,bj]
theorem Fm(h:p.ok H):dI (.ref p.m) "get" (ao H p w)=some (2,ao H p w):=by simp[dI,MQ h]
theorem il(a:Int):∀ m:List (Int×Int),(a9 m).lookup a=(m.lookup a).map .int
 |[]=>rfl
 |(x,y)::r=>by
  show List.lookup a ((x,MV.int y)::a9 r)=_
  rw[List.lookup_cons,List.lookup_cons]
  cases a==x with
  |true=>rfl
  |false=>exact il a r
theorem BN(h:p.ok H){a d:Int}:bx 2 (.ref p.m) "get" [.int a,.int d] (ao H p w)=some (.int ((w.m.lookup a).getD d),ao H p w):=by
 simp only[bx,MQ h]
 rw[il]
 cases w.m.lookup a<;>rfl
end
section
variable{α β:Type}{H H':Hp}
theorem aa(m:M α)(f:α→M β)(H:Hp):bnd m f H=match m H with
 |none=>none
 |some (a,h')=>f a h':=rfl
theorem ad(a:α)(H:Hp):ret a H=some (a,H):=rfl
theorem kT(o:Option α)(H:Hp):opt o H=match o with
 |none=>none
 |some a=>some (a,H):=rfl
theorem uE(b:Bool)(f g:M α)(H:Hp):(bif b then f else g) H=bif b then f H else g H:=by cases b<;>rfl
theorem bC(H:Hp):fu [] H=some ([],H):=rfl
theorem aJ(m:M MV)(ms:List (M MV))(H:Hp):fu (m::ms) H=bnd m (fun v=>bnd (fu ms) fun vs=>ret (v::vs)) H:=rfl
theorem bI(op:Operator)(A B:M MV)(H:Hp):bu op A B H=bnd A (fun a=>bnd B fun b=>opt (bF op a b)) H:=rfl
theorem LU(op:UnaryOp)(A:M MV)(H:Hp):Ou op A H=bnd A (fun a=>opt (uC op a)) H:=rfl
theorem bS(op:CmpOp)(A B:M MV)(H:Hp):aO op A B H=bnd A (fun a=>bnd B fun b=>dA op a b) H:=rfl
theorem cF(t:M Bool)(A B:M α)(H:Hp):ifT t A B H=bnd t (fun x=>bif x then A else B) H:=rfl
theorem wL(t:M Bool)(H:Hp):lh t H=bnd t (fun b=>ret (.bool b)) H:=rfl
theorem Jp(t:M Bool)(H:Hp):Ig t H=bnd t (fun b=>ret (!b)) H:=rfl
theorem iR(t:M Bool)(r:List (M Bool))(H:Hp):k6 (t::r) H=bnd t (fun b=>bif b then k6 r else ret false) H:=rfl
theorem iX(t:M Bool)(r:List (M Bool))(H:Hp):oD (t::r) H=bnd t (fun b=>bif b then ret true else oD r) H:=rfl
theorem mv(t r:M Bool)(H:Hp):xu t r H=bnd t (fun b=>bif b then r else ret false) H:=rfl
theorem b9(A B:M MV)(H:Hp):aq A B H=bnd A (fun ov=>bnd B fun iv=>bE ov iv) H:=rfl
theorem BZ(A:M MV)(lo hi:M (Option Int))(H:Hp):D0 A lo hi H=bnd A (fun ov=>bnd lo fun a=>bnd hi fun b=>opt (dd ov a b)) H:=rfl
theorem u6(l:List (M MV))(H:Hp):kZ l H=bnd (fu l) (fun vs=>bif bZ vs then ret (.tup vs) else fail) H:=rfl
theorem IJ(l:List (M MV))(H:Hp):bP l H=bnd (fu l) (fun vs=>bif bZ vs then ret (.lst vs) else fail) H:=rfl
theorem J0(f:Str)(l:List (M MV))(H:Hp):cU f l H=bnd (fu l) (fun vs=>builtin f vs) H:=rfl
theorem dC(cl:Fn→List MV→M MV)(f:Str)(l:List (M MV))(H:Hp):ai cl f l H=bnd (fu l) (fun vs=>cl (fnOf f) vs) H:=rfl
theorem dR(t:M Bool)(A:M MV)(H:Hp):bn t A H=bnd t (fun b=>bif b then bnd A fun y=>ret (some y) else ret none) H:=rfl
theorem gS(A K:M MV)(H:Hp):dU A K H=bnd A (fun v=>match v with
 |.none=>K
 |_=>fail) H:=rfl
theorem kI(V O I K:M MV)(H:Hp):v6 V O I K H=bnd V (fun v=>lS O I v K) H:=rfl
theorem dE(O I:M MV)(v:MV)(K:M MV)(H:Hp):lS O I v K H=bnd O (fun ov=>bnd I fun iv=>bnd (setItem ov iv v) fun _=>K) H:=rfl
theorem xK(V:M MV)(K:MV→MV→M MV)(H:Hp):sZ V K H=bnd V (fun v=>match v with
 |.tup vs=>Ce vs fun a vs=>Ce vs fun b vs=>Mu vs (K a b)
 |_=>fail) H:=rfl
theorem jK(a:MV)(r:List MV)(K:MV→List MV→M MV):Ce (a::r) K=K a r:=rfl
theorem vt(K:M MV):Mu [] K=K:=rfl
theorem nW(cl:Fn→List MV→M MV)(A:M MV)(m:Str)(l:List (M MV))(H:Hp):bk cl A m l H=bnd A (fun ov=>match ov with
 |.inst C fs=>(match T.meth C m with
  |some fn=>bif (fs.lookup m).isSome then fail else bnd (fu l) fun vs=>cl fn (ov::vs)
  |none=>fail)
 |_=>bnd (dI ov m) fun k=>bnd (fu l) fun vs=>bx k ov m vs) H:=rfl
set_option exponentiation.threshold 3000 in
theorem rI {a:Int} (h:-(2 ^ 2000)≤a∧a≤2 ^ 2000):sm a=true:=by
 unfold sm
 have h1:a.natAbs≤2 ^ 2000:=by omega
 exact Nat.blt_eq.mpr (Nat.lt_of_le_of_lt h1 (Nat.pow_lt_pow_right (by decide) (by decide)))
theorem HJ(a b:Int):bF .Add (.int a) (.int b)=some (.int (a+b)):=rfl
theorem M7(a b:Int):bF .Sub (.int a) (.int b)=some (.int (a - b)):=rfl
theorem KC(a b:Int):bF .BitAnd (.int a) (.int b)=some (.int (Builtin.bitAnd a b)):=rfl
theorem O2(a b:Int):bF .BitOr (.int a) (.int b)=some (.int (Builtin.bitOr a b)):=rfl
theorem Hi{a b:Int}(ha:sm a=true)(hb:sm b=true):bF .Mult (.int a) (.int b)=some (.int (a * b)):=by
 show(bif sm a&&sm b then some (MV.int (a * b)) else none)=_
 rw[ha,hb];rfl
theorem tE{a b:Int}(hb:sm b=true)(h0:b≠0):bF .Mod (.int a) (.int b)=some (.int (a.fmod b)):=by
 show(bif sm b&&!(b==0) then some (MV.int (a.fmod b)) else none)=_
 rw[hb,beq_false_of_ne h0];rfl
theorem BO{a b:Int}(hb:sm b=true)(h0:b≠0):bF .FloorDiv (.int a) (.int b)=some (.int (a.fdiv b)):=by
 show(bif sm b&&!(b==0) then some (MV.int (a.fdiv b)) else none)=_
 rw[hb,beq_false_of_ne h0];rfl
theorem tF{a k:Int}(ha:Bs a=true)(h0:0≤k)(h1:k < 1000):bF .Pow (.int a) (.int k)=some (.int (a ^ k.toNat)):=by
 show(bif Bs a&&jd k then some (MV.int (a ^ k.toNat)) else none)=_
 unfold jd
 rw[ha,decide_eq_true h0,decide_eq_true h1];rfl
theorem EU:Bs 2=true:=by decide+kernel
theorem OB(a b:Int)(H:Hp):dA .Lt (.int a) (.int b) H=some (decide (a < b),H):=rfl
theorem D9(a b:Int)(H:Hp):dA .Eq (.int a) (.int b) H=some (a==b,H):=rfl
theorem O1(a b:Int)(H:Hp):dA .NotEq (.int a) (.int b) H=some (!(a==b),H):=rfl
end
def p2(k:Int):Int:=2 ^ k.toNat
theorem sk(k:Int):0 < p2 k:=Int.pow_pos (by decide)
theorem iL{a b:Nat}(h:a≤b):(2:Int) ^ a≤2 ^ b:=by
 have h1:2 ^ a≤2 ^ b:=Nat.pow_le_pow_right (by decide) h
 have h2:((2 ^ a:Nat):Int)≤((2 ^ b:Nat):Int):=Int.ofNat_le.mpr h1
 rw[Int.natCast_pow,Int.natCast_pow] at h2
 exact h2
theorem KD{k:Int}(h:k≤1000):p2 k≤2 ^ 1000:=iL (by omega)
theorem Em{k:Int}(h:k≤1000):sm (p2 k)=true:=rI ⟨by have:=sk k;omega,Int.le_trans (KD h) (iL (by decide))⟩
theorem Hq(k:Int):p2 k≠0:=by have:=sk k;omega
theorem NO{k:Int}(h0:0≤k)(h1:k < 1000):bF .Pow (.int 2) (.int k)=some (.int (p2 k)):=tF EU h0 h1
inductive D where
 |v (n:Nat)
 |k (c:MV)
 |op (o:Operator) (a b:D)
 |neg (a:D)
 |ite (t a b:D)
 |bl (t:D)
 |idx (a b:D)
 |tup (l:D)
 |lst (l:D)
 |call (f:Str) (alts l:D)
 |hold (x:Str) (a:D)
 |bsum (w b:D)
 |letE (a b:D)
 |set (x o i k:D)
 |app (o x k:D)
 |get (o a b:D)
 |ex (a k:D)
 |un3 (a k:D)
 |un2 (a k:D)
 |cmp (o:CmpOp) (a b:D)
 |cmp2 (o p:CmpOp) (a b c:D)
 |not (t:D)
 |all (l:D)
 |any (l:D)
 |tst (a:D)
 |nil
 |cons (a r:D)
 |tmp (t:List (Option MV)) (f:Str) (d r:D)
 |tm8 (f:Str) (d r:D)
 |pr (c:MV) (a r:D)
 |dct (x:Str) (l:D)
 |ins (o w s h:Nat)
 |itz (j:Nat) (a b:D)
structure DS where
 v:List MV→M MV:=fun _=>fail
 t:List MV→M Bool:=fun _=>fail
 l:List MV→M (List MV):=fun _=>fail
 b:List MV→M Bool:=fun _=>fail
 o:List MV→M Bool:=fun _=>fail
 p:List MV→M (List (MV×MV)):=fun _=>fail
def eY(e:List MV)(n:Nat):M MV:=match e[n]? with
 |some x=>ret x
 |none=>fail
def aU(cl:Fn→List MV→M MV):D→DS
 |.v n=>{ v:=fun e=>eY e n }
 |.k c=>{ v:=fun _=>ret c }
 |.op o a b=>{ v:=fun e=>bu o ((aU cl a).v e) ((aU cl b).v e) }
 |.neg a=>{ v:=fun e=>Ou .USub ((aU cl a).v e) }
 |.ite t a b=>{ v:=fun e=>ifT ((aU cl t).t e) ((aU cl a).v e) ((aU cl b).v e) }
 |.bl t=>{ v:=fun e=>lh ((aU cl t).t e) }
 |.idx a b=>{ v:=fun e=>aq ((aU cl a).v e) ((aU cl b).v e) }
 |.tup l=>{ v:=fun e=>bnd ((aU cl l).l e) fun vs=>bif bZ vs then ret (.tup vs) else fail }
 |.lst l=>{ v:=fun e=>bnd ((aU cl l).l e) fun vs=>bif bZ vs then ret (.lst vs) else fail }
 |.call f _ l=>{ v:=fun e=>bnd ((aU cl l).l e) fun vs=>cl (fnOf f) vs }
 |.hold x a=>{ v:=fun e=>bnd ((aU cl a).v e) fun y=>cl (fnOf "_law_holds") [y,.str x] }
 |.bsum w b=>{ v:=fun e=>cU "sum" [bw (ee [(aU cl w).v e]) fun c=>bn (ret true) ((aU cl b).v (c::e))] }
 |.letE a b=>{ v:=fun e=>bnd ((aU cl a).v e) fun x=>(aU cl b).v (x::e) }
 |.set x o i k=>{ v:=fun e=>v6 ((aU cl x).v e) ((aU cl o).v e) ((aU cl i).v e) ((aU cl k).v e) }
 |.app o x k=>{ v:=fun e=>dU (bk cl ((aU cl o).v e) "append" [(aU cl x).v e]) ((aU cl k).v e) }
 |.get o a b=>{ v:=fun e=>bk cl ((aU cl o).v e) "get" [(aU cl a).v e,(aU cl b).v e] }
 |.ex a k=>{ v:=fun e=>dU ((aU cl a).v e) ((aU cl k).v e) }
 |.un3 a k=>{ v:=fun e=>Nq ((aU cl a).v e) fun x y z=>(aU cl k).v (z::y::x::e) }
 |.un2 a k=>{ v:=fun e=>sZ ((aU cl a).v e) fun x y=>(aU cl k).v (y::x::e) }
 |.cmp o a b=>{ t:=fun e=>aO o ((aU cl a).v e) ((aU cl b).v e) }
 |.cmp2 o p a b c=>{ t:=fun e=>Mine.cmp2 o p ((aU cl a).v e) ((aU cl b).v e) ((aU cl c).v e) }
 |.not t=>{ t:=fun e=>Ig ((aU cl t).t e) }
 |.all l=>{ t:=fun e=>(aU cl l).b e }
 |.any l=>{ t:=fun e=>(aU cl l).o e }
 |.tst a=>{ t:=fun e=>bnd ((aU cl a).v e) cI }
 |.nil=>{ l:=fun _=>ret [],b:=fun _=>ret true,o:=fun _=>ret false,p:=fun _=>ret [] }
 |.cons a r=>{ l:=fun e=>bnd ((aU cl a).v e) fun x=>bnd ((aU cl r).l e) fun xs=>ret (x::xs),b:=fun e=>bnd ((aU cl a).t e) fun x=>bif x then (aU cl r).b e else ret false,o:=fun e=>bnd ((aU cl a).t e) fun x=>bif x then ret true else (aU cl r).o e }
 |.tmp _ _ _ _=>{}
 |.tm8 _ _ _=>{}
 |.itz j a b=>{ v:=fun e=>ifT (aO .Eq (eY e j) (ret (.int 0))) ((aU cl a).v e) ((aU cl b).v e) }
 |.ins o w s h=>{ v:=fun e=>bu .Add (bu .Sub (eY e o) (bu .Mult (bu .Mod (bu .FloorDiv (eY e o) (bu .Pow (ret (.int 2)) (eY e h))) (bu .Pow (ret (.int 2)) (eY e s))) (bu .Pow (ret (.int 2)) (eY e h)))) (bu .Mult (bu .Mod (eY e w) (bu .Pow (ret (.int 2)) (eY e s))) (bu .Pow (ret (.int 2)) (eY e h))) }
 |.pr c a r=>{ p:=fun e=>bnd ((aU cl a).v e) fun x=>bnd ((aU cl r).p e) fun xs=>ret ((c,x)::xs) }
 |.dct x l=>{ v:=fun e=>aq (bnd ((aU cl l).p e) fun es=>match cj es with
  |some l=>bif nodup (l.map (·.1)) then ret (.dcs l) else fail
  |none=>(match cP es with
   |some l=>bif nodup (l.map (·.1)) then ret (.dci l) else fail
   |none=>fail)) (ret (.str x)) }
def Oe(P:List MV→Prop):List (Option MV)→Prop
 |[]=>P []
 |none::t=>∀ a,Oe (fun r=>P (a::r)) t
 |some m::t=>Oe (fun r=>P (m::r)) t
def cW(f:Str)(t:List (Option MV))(d:D):Prop:=Oe (fun vs=>∀ (cl:Fn→List MV→M MV) (H:Hp),an T cl (fnOf f) vs H=(aU cl d).v vs H) t
def O9(f:Str)(d:D):Prop:=∀ (w x0 x1 x2 x3 x4 x5 x6 x7:MV) (cl:Fn→List MV→M MV) (H:Hp),an T cl (fnOf f) [w,.tup [x0,x1,x2,x3,x4,x5,x6,x7]] H=(aU cl d).v [w,x0,x1,x2,x3,x4,x5,x6,x7] H
inductive AV where
 |c (v:MV)
 |i (lo hi:Int) (d:Nat)
 |s (k:Nat)
 |n (k:Nat)
 |b (d:Nat)
 |r (k:Nat)
 |t (vs:List AV)
 |l (vs:List AV)
inductive AB where
 |k (b:Bool)
 |u (d:Nat)
structure AW where
 r:Nat
 m:Nat
 mn:Nat
 f:List AV
 rd:List Int
 st:List Int
 ld:Bool
 sd:Bool
 tk:Nat
abbrev Gm:=Nat→Int×Int
def MP:List Nat→List Nat→Bool
 |[],[]=>true
 |a::r,b::q=>Nat.beq a b&&MP r q
 |_,_=>false
def seq(a b:Str):Bool:=MP a.cps.toList b.cps.toList
def AM(A:Type):=AW→Option (A×AW)
def iT{A:Type}(a:A):AM A:=fun w=>some (a,w)
def fj{A:Type}:AM A:=fun _=>none
def a0{A B:Type}(m:AM A)(f:A→AM B):AM B:=fun w=>match m w with
 |none=>none
 |some (a,w')=>f a w'
def jc{A:Type}(o:Option A):AM A:=fun w=>match o with
 |none=>none
 |some a=>some (a,w)
def oj:AV→Option (Int×Int×Nat)
 |.c (.int z)=>some (z,z,0)
 |.i lo hi d=>some (lo,hi,d)
 |_=>none
def jP(a b:Int):Int:=bif decide (a≤b) then a else b
def jY(a b:Int):Int:=bif decide (a≤b) then b else a
def bd(z:Int):Bool:=decide (-(2 ^ 2000)≤z)&&decide (z≤2 ^ 2000)
def jh(z:Int):Bool:=decide (0≤z)&&decide (z≤18446744073709551615)
def Iq(o:Operator)(a b c d:Int):Option (Int×Int):=match o with
 |.Add=>some (a+c,b+d)
 |.Sub=>some (a - d,b - c)
 |.Mult=>bif bd a&&bd b&&bd c&&bd d then some (jP (jP (a * c) (a * d)) (jP (b * c) (b * d)),jY (jY (a * c) (a * d)) (jY (b * c) (b * d))) else none
 |.FloorDiv=>bif decide (1≤c)&&bd d then (bif c==d then some (a.fdiv c,b.fdiv c) else some (jP a 0,jY b 0)) else none
 |.Mod=>bif decide (1≤c)&&bd d then some (0,d - 1) else none
 |.Pow=>bif a==b&&decide (1≤a)&&decide (a≤256)&&decide (0≤c)&&decide (d < 1000) then some (a ^ c.toNat,a ^ d.toNat) else none
 |.BitAnd=>bif jh a&&jh b&&jh c&&jh d then some (0,18446744073709551615) else none
 |.BitOr=>bif jh a&&jh b&&jh c&&jh d then some (0,18446744073709551615) else none
 |.BitXor=>bif jh a&&jh b&&jh c&&jh d then some (0,18446744073709551615) else none
 |_=>none
def cc(x y:AV):Option (MV×MV):=match x,y with
 |.c a,.c b=>some (a,b)
 |_,_=>none
def Md(o:Operator)(x y:AV):Option AV:=match cc x y with
 |some (a,b)=>(bF o a b).map .c
 |none=>match oj x,oj y with
  |some (a,b,d),some (a',b',d')=>(Iq o a b a' b').map fun p=>.i p.1 p.2 (d|||d')
  |_,_=>none
def LS(x:AV):Option AV:=match oj x with
 |some (a,b,d)=>some (.i (-b) (-a) d)
 |none=>none
def Ax(o:CmpOp)(a b:Int):Option Bool:=match o with
 |.Eq=>some (a==b)
 |.NotEq=>some (!(a==b))
 |.Lt=>some (decide (a < b))
 |.LtE=>some (decide (a≤b))
 |.Gt=>some (decide (b < a))
 |.GtE=>some (decide (b≤a))
 |_=>none
def Lu(o:CmpOp)(x:Bool):Option AB:=match o with
 |.Eq=>some (.k x)
 |.NotEq=>some (.k (!x))
 |_=>none
def yF(o:CmpOp)(x y:AV):Option AB:=match y with
 |.c (.str t)=>(match x with
  |.s _=>bif seq t "" then Lu o false else none
  |.c (.str a)=>Lu o (seq a t)
  |_=>none)
 |y=>match oj x,oj y with
  |some (a,b,d),some (a',b',d')=>bif a==b&&a'==b' then (Ax o a a').map .k else (Ax o a a').map fun _=>.u (d|||d')
  |_,_=>none
def jN(x:Str):Option Nat:=
 bif seq x "cf" then some 0 else bif seq x "pf" then some 1 else bif seq x "af" then some 2 else bif seq x "zf" then some 3
 else bif seq x "sf" then some 4 else bif seq x "of" then some 5 else bif seq x "df" then some 6 else none
def uN(x:Str):Option Nat:=
 bif seq x "t" then some 1 else bif seq x "r" then some 2 else bif seq x "m" then some 3 else bif seq x "f" then some 4
 else bif seq x "read" then some 5 else bif seq x "set" then some 6 else none
def nv:AV→Option Int
 |.c (.int z)=>bif decide (0≤z)&&decide (z≤9) then some z else none
 |.n k=>some (-1 - (k:Int))
 |_=>none
def Bb(x:Str):Option MV:=(bO.find? fun p=>seq p.1 x).map (·.2)
def MH(g:Gm)(x y:AV):AM AV:=fun w=>match x with
 |.r k=>(match k,y with
  |0,.c (.str s)=>(uN s).map fun j=>(.r j,w)
  |1,.c (.str s)=>(Bb s).map fun v=>(.c v,w)
  |1,.s k=>some (.t [.n k,.c (.int (g k).1),.c (.int (g k).2)],w)
  |2,y=>(nv y).map fun _=>(.i 0 18446744073709551615 w.r,w)
  |4,.c (.str s)=>(match jN s with
   |some j=>(match w.f[j]? with
    |some v=>some (v,w)
    |none=>none)
   |none=>none)
  |_,_=>none)
 |.t vs=>(match y with
  |.c (.int z)=>bif decide (0≤z)&&Nat.ble vs.length 1000 then (vs[z.toNat]?).map fun v=>(v,w) else none
  |_=>none)
 |.l vs=>(match y with
  |.c (.int z)=>bif decide (0≤z)&&Nat.ble vs.length 1000 then (vs[z.toNat]?).map fun v=>(v,w) else none
  |_=>none)
 |.c v=>(match y with
  |.c i=>(getItem [] v i).map fun z=>(.c z,w)
  |_=>none)
 |_=>none
def gQ(d:Nat)(x y:AV):Option AV:=match oj x,oj y with
 |some (a,b,e),some (a',b',e')=>some (.i (jP a a') (jY b b') (d|||(e|||e')))
 |_,_=>match cc x y with
  |some (.none,.none)=>some (.c .none)
  |_=>none
def p8:List AV→List AV→Option (List AV)
 |[],[]=>some []
 |x::xs,y::ys=>match gQ 0 x y,p8 xs ys with
  |some z,some zs=>some (z::zs)
  |_,_=>none
 |_,_=>none
def tw(a b:AW):Option AW:=bif a.rd==b.rd&&a.st==b.st&&a.ld==b.ld&&a.sd==b.sd then
  (p8 a.f b.f).map fun f=>⟨a.r|||b.r,a.m|||b.m,Nat.max a.mn b.mn,f,a.rd,a.st,a.ld,a.sd,a.tk+b.tk⟩ else none
def LR(x o i:AV):AM Unit:=fun w=>match o with
 |.r 2=>(match nv i,oj x with
  |some _,some (a,b,d)=>bif jh a&&jh b then some ((),{ w with r:=w.r|||d,tk:=w.tk+1 }) else none
  |_,_=>none)
 |.r 3=>(match oj i,oj x with
  |some (_,_,e),some (a,b,d)=>bif decide (0≤a)&&decide (b≤255)&&Nat.ble w.mn 1000 then some ((),{ w with m:=w.m|||(e|||d),mn:=w.mn+1,tk:=w.tk+1 }) else none
  |_,_=>none)
 |.r 4=>(match i,oj x with
  |.c (.str s),some _=>(match jN s with
   |some j=>some ((),{ w with f:=w.f.set j x,tk:=w.tk+1 })
   |none=>none)
  |_,_=>none)
 |.r 0=>(match i,x with
  |.c (.str s),.c (.bool true)=>bif seq s "load" then some ((),{ w with ld:=true,tk:=w.tk+1 }) else bif seq s "store" then some ((),{ w with sd:=true,tk:=w.tk+1 }) else none
  |_,_=>none)
 |_=>none
def sq(o x:AV):AM Unit:=fun w=>match o with
 |.r 5=>(match nv x with
  |some z=>bif Nat.ble w.rd.length 1000 then some ((),{ w with rd:=w.rd++[z],tk:=w.tk+1 }) else none
  |none=>none)
 |.r 6=>(match nv x with
  |some z=>bif Nat.ble w.st.length 1000 then some ((),{ w with st:=w.st++[z],tk:=w.tk+1 }) else none
  |none=>none)
 |_=>none
def EI(o x y:AV):AM AV:=fun w=>match o with
 |.r 3=>(match oj x,oj y with
  |some (_,_,d),some (a,b,e)=>bif decide (0≤a)&&decide (b≤255) then some (.i 0 255 (w.m|||(d|||e)),w) else none
  |_,_=>none)
 |_=>none
def og:List (Str×List Nat):=[("o",[5]),("no",[5]),("b",[0]),("ae",[0]),("e",[3]),("ne",[3]),("be",[0,3]),("a",[0,3]),("s",[4]),("ns",[4]),("p",[1]),("np",[1]),("l",[4,5]),("ge",[4,5]),("le",[3,4,5]),("g",[3,4,5])]
def nZ(f:List AV):List Nat→Option Nat
 |[]=>some 0
 |j::r=>match f[j]? with
  |some x=>(match oj x,nZ f r with
   |some (_,_,d),some e=>some (d|||e)
   |_,_=>none)
  |none=>none
def F2(x:Str)(o:AV):AM AV:=fun w=>match o with
 |.r 4=>(match og.find? fun p=>seq p.1 x with
  |some p=>(match nZ w.f p.2 with
   |some d=>some (.b d,{ w with tk:=w.tk+1 })
   |none=>none)
  |none=>none)
 |_=>none
def Hu(o w s h:AV):Option AV:=match oj o,oj w,cc s h with
 |some (a,b,d),some (a',b',d'),some (.int s,.int h)=>bif jh a&&jh b&&bd a'&&bd b'&&((s==8&&h==0)||(s==16&&h==0)||(s==8&&h==8)) then some (.i 0 18446744073709551615 (d|||d')) else none
 |_,_,_=>none
def CP(f:AV→AM AV):Nat→Nat→AM (Int×Int×Nat)
 |0,_=>iT (0,0,0)
 |n+1,k=>a0 (f (.c (.int k))) fun x=>a0 (jc (oj x)) fun p=>a0 (CP f n (k+1)) fun q=>iT (p.1+q.1,p.2.1+q.2.1,p.2.2|||q.2.2)
def Od:AV→Option AB
 |.c (.bool b)=>some (.k b)
 |.b d=>some (.u d)
 |_=>none
def Oi:AB→AV
 |.k b=>.c (.bool b)
 |.u d=>.b d
def M3:AB→Nat
 |.k _=>0
 |.u d=>d
def OT:MV→AV→Bool
 |.int x,.c (.int y)=>x==y
 |.str x,.c (.str y)=>seq x y
 |_,_=>false
def zS:List (Option MV)→List AV→Bool
 |[],[]=>true
 |none::t,_::vs=>zS t vs
 |some m::t,v::vs=>OT m v&&zS t vs
 |_,_=>false
def Ll(t:AM AB)(A B:AM AV):AM AV:=fun w=>match t w with
 |none=>none
 |some (.k b,w1)=>bif b then A w1 else B w1
 |some (.u d,w1)=>match A w1,B w1 with
  |some (va,wa),some (vb,wb)=>bif wa.tk==w1.tk&&wb.tk==w1.tk then (gQ d va vb).map fun v=>(v,w1)
   else bif d==0 then (match gQ 0 va vb,tw wa wb with
    |some v,some x=>some (v,x)
    |_,_=>none) else none
  |_,_=>none
def rA(x:Bool)(t r:AM AB):AM AB:=fun w=>match t w with
 |none=>none
 |some (.k b,w1)=>bif b==x then r w1 else some (.k (!x),w1)
 |some (.u d,w1)=>match r w1 with
  |some (q,w2)=>bif w2.tk==w1.tk then some (.u (d|||M3 q),w1) else none
  |none=>none
def K5(x:Option AV)(A:AM AV)(B:Bool→AM AV):AM AV:=fun w=>match x with
 |none=>none
 |some x=>match oj x with
  |none=>none
  |some (a,b,d)=>bif d==0 then (bif decide (1≤a) then B false w else bif a==0&&b==0 then A w else bif a==0 then (match A w,B true w with
   |some (va,wa),some (vb,wb)=>(match gQ 0 va vb,tw wa wb with
    |some v,some x=>some (v,x)
    |_,_=>none)
   |_,_=>none) else none) else none
def Er(e:List AV)(j:Nat):List AV:=match e[j]? with
 |some (.i _ b d)=>e.set j (.i 1 b d)
 |_=>e
structure AS where
 v:List AV→AM AV:=fun _=>fj
 t:List AV→AM AB:=fun _=>fj
 l:List AV→AM (List AV):=fun _=>fj
 b:List AV→AM AB:=fun _=>fj
 o:List AV→AM AB:=fun _=>fj
 p:List AV→AM (List (Str×AV)):=fun _=>fj
 a:List AV→AM AV:=fun _=>fj
def cw(g:Gm):D→AS
 |.v n=>{ v:=fun e=>jc e[n]? }
 |.k c=>{ v:=fun _=>iT (.c c) }
 |.op o a b=>{ v:=fun e=>a0 ((cw g a).v e) fun x=>a0 ((cw g b).v e) fun y=>jc (Md o x y) }
 |.neg a=>{ v:=fun e=>a0 ((cw g a).v e) fun x=>jc (LS x) }
 |.ite t a b=>{ v:=fun e=>Ll ((cw g t).t e) ((cw g a).v e) ((cw g b).v e) }
 |.bl t=>{ v:=fun e=>a0 ((cw g t).t e) fun x=>iT (Oi x) }
 |.idx a b=>{ v:=fun e=>a0 ((cw g a).v e) fun x=>a0 ((cw g b).v e) fun y=>MH g x y }
 |.tup l=>{ v:=fun e=>a0 ((cw g l).l e) fun vs=>bif Nat.ble vs.length 1000 then iT (.t vs) else fj }
 |.lst l=>{ v:=fun e=>a0 ((cw g l).l e) fun vs=>bif Nat.ble vs.length 1000 then iT (.l vs) else fj }
 |.call _ alts l=>{ v:=fun e=>a0 ((cw g l).l e) fun vs=>(cw g alts).a vs }
 |.hold x a=>{ v:=fun e=>a0 ((cw g a).v e) fun o=>F2 x o }
 |.bsum w b=>{ v:=fun e=>a0 ((cw g w).v e) fun n=>match n with
   |.c (.int z)=>bif decide (0≤z)&&decide (z≤64) then a0 (CP (fun x=>(cw g b).v (x::e)) z.toNat 0) fun p=>iT (.i p.1 p.2.1 p.2.2) else fj
   |_=>fj }
 |.letE a b=>{ v:=fun e=>a0 ((cw g a).v e) fun x=>(cw g b).v (x::e) }
 |.set x o i k=>{ v:=fun e=>a0 ((cw g x).v e) fun x=>a0 ((cw g o).v e) fun o=>a0 ((cw g i).v e) fun i=>a0 (LR x o i) fun _=>(cw g k).v e }
 |.app o x k=>{ v:=fun e=>a0 ((cw g o).v e) fun o=>a0 ((cw g x).v e) fun x=>a0 (sq o x) fun _=>(cw g k).v e }
 |.get o a b=>{ v:=fun e=>a0 ((cw g o).v e) fun o=>a0 ((cw g a).v e) fun x=>a0 ((cw g b).v e) fun y=>EI o x y }
 |.ex a k=>{ v:=fun e=>a0 ((cw g a).v e) fun x=>match x with
   |.c .none=>(cw g k).v e
   |_=>fj }
 |.un3 a k=>{ v:=fun e=>a0 ((cw g a).v e) fun v=>match v with
   |.t [x,y,z]=>(cw g k).v (z::y::x::e)
   |.c (.tup [x,y,z])=>(cw g k).v (.c z::.c y::.c x::e)
   |_=>fj }
 |.un2 _ _=>{}
 |.cmp o a b=>{ t:=fun e=>a0 ((cw g a).v e) fun x=>a0 ((cw g b).v e) fun y=>jc (yF o x y) }
 |.cmp2 o p a b c=>{ t:=fun e=>a0 ((cw g a).v e) fun x=>a0 ((cw g b).v e) fun y=>rA true (jc (yF o x y)) (a0 ((cw g c).v e) fun z=>jc (yF p y z)) }
 |.not t=>{ t:=fun e=>a0 ((cw g t).t e) fun x=>match x with
   |.k b=>iT (.k (!b))
   |.u d=>iT (.u d) }
 |.all l=>{ t:=fun e=>(cw g l).b e }
 |.any l=>{ t:=fun e=>(cw g l).o e }
 |.tst a=>{ t:=fun e=>a0 ((cw g a).v e) fun x=>jc (Od x) }
 |.nil=>{ l:=fun _=>iT [],b:=fun _=>iT (.k true),o:=fun _=>iT (.k false),p:=fun _=>iT [] }
 |.cons a r=>{ l:=fun e=>a0 ((cw g a).v e) fun x=>a0 ((cw g r).l e) fun xs=>iT (x::xs),b:=fun e=>rA true ((cw g a).t e) ((cw g r).b e),o:=fun e=>rA false ((cw g a).t e) ((cw g r).o e) }
 |.tmp t _ d r=>{ a:=fun vs=>bif zS t vs then (cw g d).v vs else (cw g r).a vs }
 |.tm8 _ d r=>{ a:=fun vs=>match vs with
   |[w,.t [x0,x1,x2,x3,x4,x5,x6,x7]]=>(cw g d).v [w,x0,x1,x2,x3,x4,x5,x6,x7]
   |_=>fj }
 |.itz j a b=>{ v:=fun e=>K5 e[j]? ((cw g a).v e) fun x=>(cw g b).v (bif x then Er e j else e) }
 |.ins o w s h=>{ v:=fun e=>match e[o]?,e[w]?,e[s]?,e[h]? with
   |some o,some w,some s,some h=>jc (Hu o w s h)
   |_,_,_,_=>fj }
 |.pr c a r=>{ p:=fun e=>match c with
   |.str s=>a0 ((cw g a).v e) fun x=>a0 ((cw g r).p e) fun xs=>iT ((s,x)::xs)
   |_=>fj }
 |.dct x l=>{ v:=fun e=>a0 ((cw g l).p e) fun es=>bif nodup (es.map (·.1)) then jc (es.lookup x) else fj }
def vu:D:=.ite (.cmp .Eq (.idx (.v 1) (.k (.int 0))) (.k (.str "reg"))) (.idx (.idx (.idx (.v 0) (.k (.str "t"))) (.idx (.v 1) (.k (.int 1)))) (.k (.int 1))) (.idx (.v 1) (.k (.int 5)))
theorem LZ:cW "_law_bits" [none,none] vu:=fun _ _ _ _=>by kernel_rfl
def aB:D→D:=.tmp [none,none] "_law_bits" vu
def vc:D:=.set (.k (.bool true)) (.v 0) (.k (.str "load")) (.bsum (.v 2) (.op .Mult (.get (.idx (.v 1) (.k (.str "m"))) (.op .Mod (.op .Add (.v 2) (.v 0)) (.k (.int 18446744073709551616))) (.op .Mod (.op .Mult (.op .Add (.v 2) (.v 0)) (.k (.int 37))) (.k (.int 251)))) (.op .Pow (.k (.int 256)) (.v 0))))
theorem KZ:cW "_law_load" [none,none,none] vc:=fun _ _ _ _ _=>by kernel_rfl
def lA:D→D:=.tmp [none,none,none] "_law_load" vc
def vo:D:=.ite (.cmp .NotEq (.v 2) (.k (.str ""))) (.letE (.idx (.idx (.idx (.v 0) (.k (.str "t"))) (.v 2)) (.k (.int 0))) (.app (.idx (.v 1) (.k (.str "read"))) (.v 0) (.letE (.op .Add (.v 6) (.op .Mult (.idx (.idx (.v 1) (.k (.str "r"))) (.v 0)) (.k (.int 1)))) (.ite (.cmp .NotEq (.v 5) (.k (.str ""))) (.letE (.idx (.idx (.idx (.v 2) (.k (.str "t"))) (.v 5)) (.k (.int 0))) (.app (.idx (.v 3) (.k (.str "read"))) (.v 0) (.letE (.op .Add (.v 1) (.op .Mult (.idx (.idx (.v 3) (.k (.str "r"))) (.v 0)) (.v 7))) (.op .Mod (.v 0) (.k (.int 18446744073709551616)))))) (.op .Mod (.v 0) (.k (.int 18446744073709551616))))))) (.ite (.cmp .NotEq (.v 3) (.k (.str ""))) (.letE (.idx (.idx (.idx (.v 0) (.k (.str "t"))) (.v 3)) (.k (.int 0))) (.app (.idx (.v 1) (.k (.str "read"))) (.v 0) (.letE (.op .Add (.v 6) (.op .Mult (.idx (.idx (.v 1) (.k (.str "r"))) (.v 0)) (.v 5))) (.op .Mod (.v 0) (.k (.int 18446744073709551616)))))) (.op .Mod (.v 5) (.k (.int 18446744073709551616))))
theorem LW:O9 "_law_spot" vo:=fun _ _ _ _ _ _ _ _ _ _ _=>by kernel_rfl
def vd:D→D:=.tm8 "_law_spot" vo
def BP:D:=.ite (.cmp .Eq (.idx (.v 1) (.k (.int 0))) (.k (.str "imm"))) (.op .Mod (.idx (.v 1) (.k (.int 1))) (.op .Pow (.k (.int 2)) (.v 2))) (.ite (.cmp .Eq (.idx (.v 1) (.k (.int 0))) (.k (.str "mem"))) (.call "_law_load" (lA .nil) (.cons (.v 0) (.cons (.call "_law_spot" (vd .nil) (.cons (.v 0) (.cons (.v 1) .nil))) (.cons (.op .FloorDiv (.idx (.v 1) (.k (.int 5))) (.k (.int 8))) .nil)))) (.un3 (.idx (.idx (.v 0) (.k (.str "t"))) (.idx (.v 1) (.k (.int 1)))) (.app (.idx (.v 3) (.k (.str "read"))) (.v 2) (.op .Mod (.op .FloorDiv (.idx (.idx (.v 3) (.k (.str "r"))) (.v 2)) (.op .Pow (.k (.int 2)) (.v 0))) (.op .Pow (.k (.int 2)) (.v 1))))))
theorem Ni:cW "_law_get" [none,none,none] BP:=fun _ _ _ _ _=>by kernel_rfl
def az:D→D:=.tmp [none,none,none] "_law_get" BP
def ur:D:=.ite (.cmp .GtE (.v 0) (.op .Pow (.k (.int 2)) (.op .Sub (.v 1) (.k (.int 1))))) (.op .Sub (.v 0) (.op .Pow (.k (.int 2)) (.v 1))) (.v 0)
theorem LK:cW "_law_sign" [none,none] ur:=fun _ _ _ _=>by kernel_rfl
def d4:D→D:=.tmp [none,none] "_law_sign" ur
def Bn:D:=.set (.op .Mod (.op .FloorDiv (.v 1) (.op .Pow (.k (.int 2)) (.op .Sub (.v 2) (.k (.int 1))))) (.k (.int 2))) (.v 0) (.k (.str "sf")) (.set (.ite (.cmp .Eq (.op .Mod (.v 1) (.op .Pow (.k (.int 2)) (.v 2))) (.k (.int 0))) (.k (.int 1)) (.k (.int 0))) (.v 0) (.k (.str "zf")) (.set (.op .Sub (.k (.int 1)) (.op .Mod (.bsum (.k (.int 8)) (.op .Mod (.op .FloorDiv (.v 2) (.op .Pow (.k (.int 2)) (.v 0))) (.k (.int 2)))) (.k (.int 2)))) (.v 0) (.k (.str "pf")) (.op .Mod (.v 1) (.op .Pow (.k (.int 2)) (.v 2)))))
theorem NW:cW "_law_szp" [none,none,none] Bn:=fun _ _ _ _ _=>by kernel_rfl
def nj:D→D:=.tmp [none,none,none] "_law_szp" Bn
def Cc:D:=.letE (.op .Add (.call "_law_sign" (d4 .nil) (.cons (.v 1) (.cons (.v 4) .nil))) (.op .Mult (.v 5) (.op .Add (.call "_law_sign" (d4 .nil) (.cons (.v 2) (.cons (.v 4) .nil))) (.v 3)))) (.letE (.op .Add (.v 2) (.op .Mult (.v 6) (.op .Add (.v 3) (.v 4)))) (.set (.ite (.cmp2 .LtE .Lt (.neg (.op .Pow (.k (.int 2)) (.op .Sub (.v 6) (.k (.int 1))))) (.v 1) (.op .Pow (.k (.int 2)) (.op .Sub (.v 6) (.k (.int 1))))) (.k (.int 0)) (.k (.int 1))) (.v 2) (.k (.str "of")) (.set (.ite (.any (.cons (.cmp .Lt (.v 0) (.k (.int 0))) (.cons (.cmp .GtE (.v 0) (.op .Pow (.k (.int 2)) (.v 6))) .nil))) (.k (.int 1)) (.k (.int 0))) (.v 2) (.k (.str "cf")) (.letE (.op .Add (.op .Mod (.v 3) (.k (.int 16))) (.op .Mult (.v 7) (.op .Add (.op .Mod (.v 4) (.k (.int 16))) (.v 5)))) (.set (.ite (.any (.cons (.cmp .Lt (.v 0) (.k (.int 0))) (.cons (.cmp .Gt (.v 0) (.k (.int 15))) .nil))) (.k (.int 1)) (.k (.int 0))) (.v 3) (.k (.str "af")) (.call "_law_szp" (nj .nil) (.cons (.v 3) (.cons (.op .Mod (.v 1) (.op .Pow (.k (.int 2)) (.v 7))) (.cons (.v 7) .nil)))))))))
theorem N8:cW "_law_sum" [none,none,none,none,none,none] Cc:=fun _ _ _ _ _ _ _ _=>by kernel_rfl
def mc:D→D:=.tmp [none,none,none,none,none,none] "_law_sum" Cc
def kU:D:=.letE (.idx (.v 0) (.k (.str "f"))) (.letE (.call "_law_get" (az .nil) (.cons (.v 1) (.cons (.v 3) (.cons (.v 5) .nil)))) (.letE (.call "_law_get" (az .nil) (.cons (.v 2) (.cons (.v 5) (.cons (.v 6) .nil)))) (.call "_law_sum" (mc .nil) (.cons (.v 2) (.cons (.v 1) (.cons (.v 0) (.cons (.idx (.v 2) (.k (.str "cf"))) (.cons (.v 7) (.cons (.k (.int 1)) .nil)))))))))
theorem Dj:cW "_law_two" [none,some (.str "adc"),none,none,none] kU:=fun _ _ _ _ _ _=>by kernel_rfl
def tW:D→D:=.tmp [none,some (.str "adc"),none,none,none] "_law_two" kU
def kE:D:=.set (.k (.bool true)) (.v 0) (.k (.str "store")) (.set (.op .Mod (.op .FloorDiv (.v 3) (.k (.int 1))) (.k (.int 256))) (.idx (.v 0) (.k (.str "m"))) (.op .Mod (.op .Add (.v 1) (.k (.int 0))) (.k (.int 18446744073709551616))) (.k .none))
theorem CJ:cW "_law_store" [none,none,some (.int 1),none] kE:=fun _ _ _ _ _=>by kernel_rfl
def d6:D→D:=.tmp [none,none,some (.int 1),none] "_law_store" kE
def kH:D:=.set (.k (.bool true)) (.v 0) (.k (.str "store")) (.set (.op .Mod (.op .FloorDiv (.v 3) (.k (.int 1))) (.k (.int 256))) (.idx (.v 0) (.k (.str "m"))) (.op .Mod (.op .Add (.v 1) (.k (.int 0))) (.k (.int 18446744073709551616))) (.set (.op .Mod (.op .FloorDiv (.v 3) (.k (.int 256))) (.k (.int 256))) (.idx (.v 0) (.k (.str "m"))) (.op .Mod (.op .Add (.v 1) (.k (.int 1))) (.k (.int 18446744073709551616))) (.k .none)))
theorem CK:cW "_law_store" [none,none,some (.int 2),none] kH:=fun _ _ _ _ _=>by kernel_rfl
def d7:D→D:=.tmp [none,none,some (.int 2),none] "_law_store" kH
def kz:D:=.set (.k (.bool true)) (.v 0) (.k (.str "store")) (.set (.op .Mod (.op .FloorDiv (.v 3) (.k (.int 1))) (.k (.int 256))) (.idx (.v 0) (.k (.str "m"))) (.op .Mod (.op .Add (.v 1) (.k (.int 0))) (.k (.int 18446744073709551616))) (.set (.op .Mod (.op .FloorDiv (.v 3) (.k (.int 256))) (.k (.int 256))) (.idx (.v 0) (.k (.str "m"))) (.op .Mod (.op .Add (.v 1) (.k (.int 1))) (.k (.int 18446744073709551616))) (.set (.op .Mod (.op .FloorDiv (.v 3) (.k (.int 65536))) (.k (.int 256))) (.idx (.v 0) (.k (.str "m"))) (.op .Mod (.op .Add (.v 1) (.k (.int 2))) (.k (.int 18446744073709551616))) (.set (.op .Mod (.op .FloorDiv (.v 3) (.k (.int 16777216))) (.k (.int 256))) (.idx (.v 0) (.k (.str "m"))) (.op .Mod (.op .Add (.v 1) (.k (.int 3))) (.k (.int 18446744073709551616))) (.k .none)))))
theorem DM:cW "_law_store" [none,none,some (.int 4),none] kz:=fun _ _ _ _ _=>by kernel_rfl
def d9:D→D:=.tmp [none,none,some (.int 4),none] "_law_store" kz
def ky:D:=.set (.k (.bool true)) (.v 0) (.k (.str "store")) (.set (.op .Mod (.op .FloorDiv (.v 3) (.k (.int 1))) (.k (.int 256))) (.idx (.v 0) (.k (.str "m"))) (.op .Mod (.op .Add (.v 1) (.k (.int 0))) (.k (.int 18446744073709551616))) (.set (.op .Mod (.op .FloorDiv (.v 3) (.k (.int 256))) (.k (.int 256))) (.idx (.v 0) (.k (.str "m"))) (.op .Mod (.op .Add (.v 1) (.k (.int 1))) (.k (.int 18446744073709551616))) (.set (.op .Mod (.op .FloorDiv (.v 3) (.k (.int 65536))) (.k (.int 256))) (.idx (.v 0) (.k (.str "m"))) (.op .Mod (.op .Add (.v 1) (.k (.int 2))) (.k (.int 18446744073709551616))) (.set (.op .Mod (.op .FloorDiv (.v 3) (.k (.int 16777216))) (.k (.int 256))) (.idx (.v 0) (.k (.str "m"))) (.op .Mod (.op .Add (.v 1) (.k (.int 3))) (.k (.int 18446744073709551616))) (.set (.op .Mod (.op .FloorDiv (.v 3) (.k (.int 4294967296))) (.k (.int 256))) (.idx (.v 0) (.k (.str "m"))) (.op .Mod (.op .Add (.v 1) (.k (.int 4))) (.k (.int 18446744073709551616))) (.set (.op .Mod (.op .FloorDiv (.v 3) (.k (.int 1099511627776))) (.k (.int 256))) (.idx (.v 0) (.k (.str "m"))) (.op .Mod (.op .Add (.v 1) (.k (.int 5))) (.k (.int 18446744073709551616))) (.set (.op .Mod (.op .FloorDiv (.v 3) (.k (.int 281474976710656))) (.k (.int 256))) (.idx (.v 0) (.k (.str "m"))) (.op .Mod (.op .Add (.v 1) (.k (.int 6))) (.k (.int 18446744073709551616))) (.set (.op .Mod (.op .FloorDiv (.v 3) (.k (.int 72057594037927936))) (.k (.int 256))) (.idx (.v 0) (.k (.str "m"))) (.op .Mod (.op .Add (.v 1) (.k (.int 7))) (.k (.int 18446744073709551616))) (.k .none)))))))))
theorem CI:cW "_law_store" [none,none,some (.int 8),none] ky:=fun _ _ _ _ _=>by kernel_rfl
def eu:D→D:=.tmp [none,none,some (.int 8),none] "_law_store" ky
def BJ:D:=.ite (.cmp .Eq (.idx (.v 1) (.k (.int 0))) (.k (.str "mem"))) (.ex (.call "_law_store" (d6 (d7 (d9 (eu .nil)))) (.cons (.v 0) (.cons (.call "_law_spot" (vd .nil) (.cons (.v 0) (.cons (.v 1) .nil))) (.cons (.op .FloorDiv (.idx (.v 1) (.k (.int 5))) (.k (.int 8))) (.cons (.v 2) .nil))))) (.k .none)) (.un3 (.idx (.idx (.v 0) (.k (.str "t"))) (.idx (.v 1) (.k (.int 1)))) (.app (.idx (.v 3) (.k (.str "set"))) (.v 2) (.ite (.cmp .GtE (.v 1) (.k (.int 32))) (.set (.op .Mod (.v 5) (.op .Pow (.k (.int 2)) (.v 1))) (.idx (.v 3) (.k (.str "r"))) (.v 2) (.k .none)) (.app (.idx (.v 3) (.k (.str "read"))) (.v 2) (.letE (.idx (.idx (.v 3) (.k (.str "r"))) (.v 2)) (.set (.ins 0 6 2 1) (.idx (.v 4) (.k (.str "r"))) (.v 3) (.k .none)))))))
theorem NC:cW "_law_put" [none,none,none] BJ:=fun _ _ _ _ _=>by kernel_rfl
def aC:D→D:=.tmp [none,none,none] "_law_put" BJ
def mh:D:=.letE (.idx (.v 0) (.k (.str "f"))) (.letE (.call "_law_bits" (aB .nil) (.cons (.v 1) (.cons (.v 2) .nil))) (.letE (.call "_law_two" (tW .nil) (.cons (.v 2) (.cons (.k (.str "adc")) (.cons (.v 3) (.cons (.v 4) (.cons (.v 0) .nil)))))) (.ex (.call "_law_put" (aC .nil) (.cons (.v 3) (.cons (.v 4) (.cons (.v 0) .nil)))) (.k .none))))
theorem Gy(cl:Fn→List MV→M MV)(w o0 o1:MV)(H:Hp):an T cl (fnOf "_law_do") [w,.tup [.str "adc",.str "",.tup [o0,o1]]] H=(aU cl mh).v [w,o0,o1] H:=by kernel_rfl
def kK:D:=.letE (.idx (.v 0) (.k (.str "f"))) (.letE (.call "_law_get" (az .nil) (.cons (.v 1) (.cons (.v 3) (.cons (.v 5) .nil)))) (.letE (.call "_law_get" (az .nil) (.cons (.v 2) (.cons (.v 5) (.cons (.v 6) .nil)))) (.call "_law_sum" (mc .nil) (.cons (.v 2) (.cons (.v 1) (.cons (.v 0) (.cons (.k (.int 0)) (.cons (.v 7) (.cons (.k (.int 1)) .nil)))))))))
theorem DI:cW "_law_two" [none,some (.str "add"),none,none,none] kK:=fun _ _ _ _ _ _=>by kernel_rfl
def tO:D→D:=.tmp [none,some (.str "add"),none,none,none] "_law_two" kK
def mx:D:=.letE (.idx (.v 0) (.k (.str "f"))) (.letE (.call "_law_bits" (aB .nil) (.cons (.v 1) (.cons (.v 2) .nil))) (.letE (.call "_law_two" (tO .nil) (.cons (.v 2) (.cons (.k (.str "add")) (.cons (.v 3) (.cons (.v 4) (.cons (.v 0) .nil)))))) (.ex (.call "_law_put" (aC .nil) (.cons (.v 3) (.cons (.v 4) (.cons (.v 0) .nil)))) (.k .none))))
theorem FK(cl:Fn→List MV→M MV)(w o0 o1:MV)(H:Hp):an T cl (fnOf "_law_do") [w,.tup [.str "add",.str "",.tup [o0,o1]]] H=(aU cl mx).v [w,o0,o1] H:=by kernel_rfl
def kG:D:=.letE (.idx (.v 0) (.k (.str "f"))) (.letE (.call "_law_get" (az .nil) (.cons (.v 1) (.cons (.v 3) (.cons (.v 5) .nil)))) (.letE (.call "_law_get" (az .nil) (.cons (.v 2) (.cons (.v 5) (.cons (.v 6) .nil)))) (.call "_law_sum" (mc .nil) (.cons (.v 2) (.cons (.v 1) (.cons (.v 0) (.cons (.k (.int 0)) (.cons (.v 7) (.cons (.k (.int (-1))) .nil)))))))))
theorem CM:cW "_law_two" [none,some (.str "sub"),none,none,none] kG:=fun _ _ _ _ _ _=>by kernel_rfl
def t6:D→D:=.tmp [none,some (.str "sub"),none,none,none] "_law_two" kG
def ni:D:=.letE (.idx (.v 0) (.k (.str "f"))) (.letE (.call "_law_bits" (aB .nil) (.cons (.v 1) (.cons (.v 2) .nil))) (.letE (.call "_law_two" (t6 .nil) (.cons (.v 2) (.cons (.k (.str "sub")) (.cons (.v 3) (.cons (.v 4) (.cons (.v 0) .nil)))))) (.ex (.call "_law_put" (aC .nil) (.cons (.v 3) (.cons (.v 4) (.cons (.v 0) .nil)))) (.k .none))))
theorem Ek(cl:Fn→List MV→M MV)(w o0 o1:MV)(H:Hp):an T cl (fnOf "_law_do") [w,.tup [.str "sub",.str "",.tup [o0,o1]]] H=(aU cl ni).v [w,o0,o1] H:=by kernel_rfl
def kS:D:=.letE (.idx (.v 0) (.k (.str "f"))) (.letE (.call "_law_get" (az .nil) (.cons (.v 1) (.cons (.v 3) (.cons (.v 5) .nil)))) (.letE (.call "_law_get" (az .nil) (.cons (.v 2) (.cons (.v 5) (.cons (.v 6) .nil)))) (.call "_law_sum" (mc .nil) (.cons (.v 2) (.cons (.v 1) (.cons (.v 0) (.cons (.idx (.v 2) (.k (.str "cf"))) (.cons (.v 7) (.cons (.k (.int (-1))) .nil)))))))))
theorem Df:cW "_law_two" [none,some (.str "sbb"),none,none,none] kS:=fun _ _ _ _ _ _=>by kernel_rfl
def tP:D→D:=.tmp [none,some (.str "sbb"),none,none,none] "_law_two" kS
def lY:D:=.letE (.idx (.v 0) (.k (.str "f"))) (.letE (.call "_law_bits" (aB .nil) (.cons (.v 1) (.cons (.v 2) .nil))) (.letE (.call "_law_two" (tP .nil) (.cons (.v 2) (.cons (.k (.str "sbb")) (.cons (.v 3) (.cons (.v 4) (.cons (.v 0) .nil)))))) (.ex (.call "_law_put" (aC .nil) (.cons (.v 3) (.cons (.v 4) (.cons (.v 0) .nil)))) (.k .none))))
theorem EP(cl:Fn→List MV→M MV)(w o0 o1:MV)(H:Hp):an T cl (fnOf "_law_do") [w,.tup [.str "sbb",.str "",.tup [o0,o1]]] H=(aU cl lY).v [w,o0,o1] H:=by kernel_rfl
def kB:D:=.letE (.idx (.v 0) (.k (.str "f"))) (.letE (.call "_law_get" (az .nil) (.cons (.v 1) (.cons (.v 3) (.cons (.v 5) .nil)))) (.letE (.call "_law_get" (az .nil) (.cons (.v 2) (.cons (.v 5) (.cons (.v 6) .nil)))) (.letE (.dct "and" (.pr (.str "and") (.op .BitAnd (.v 1) (.v 0)) (.pr (.str "test") (.op .BitAnd (.v 1) (.v 0)) (.pr (.str "or") (.op .BitOr (.v 1) (.v 0)) (.pr (.str "xor") (.op .BitXor (.v 1) (.v 0)) .nil))))) (.set (.k (.int 0)) (.v 3) (.k (.str "cf")) (.set (.k (.int 0)) (.v 3) (.k (.str "of")) (.set (.k (.int 0)) (.v 3) (.k (.str "af")) (.call "_law_szp" (nj .nil) (.cons (.v 3) (.cons (.v 0) (.cons (.v 8) .nil))))))))))
theorem DV:cW "_law_two" [none,some (.str "and"),none,none,none] kB:=fun _ _ _ _ _ _=>by kernel_rfl
def sW:D→D:=.tmp [none,some (.str "and"),none,none,none] "_law_two" kB
def mt:D:=.letE (.idx (.v 0) (.k (.str "f"))) (.letE (.call "_law_bits" (aB .nil) (.cons (.v 1) (.cons (.v 2) .nil))) (.letE (.call "_law_two" (sW .nil) (.cons (.v 2) (.cons (.k (.str "and")) (.cons (.v 3) (.cons (.v 4) (.cons (.v 0) .nil)))))) (.ex (.call "_law_put" (aC .nil) (.cons (.v 3) (.cons (.v 4) (.cons (.v 0) .nil)))) (.k .none))))
theorem EJ(cl:Fn→List MV→M MV)(w o0 o1:MV)(H:Hp):an T cl (fnOf "_law_do") [w,.tup [.str "and",.str "",.tup [o0,o1]]] H=(aU cl mt).v [w,o0,o1] H:=by kernel_rfl
def mJ:D:=.letE (.idx (.v 0) (.k (.str "f"))) (.letE (.call "_law_get" (az .nil) (.cons (.v 1) (.cons (.v 3) (.cons (.v 5) .nil)))) (.letE (.call "_law_get" (az .nil) (.cons (.v 2) (.cons (.v 5) (.cons (.v 6) .nil)))) (.letE (.dct "or" (.pr (.str "and") (.op .BitAnd (.v 1) (.v 0)) (.pr (.str "test") (.op .BitAnd (.v 1) (.v 0)) (.pr (.str "or") (.op .BitOr (.v 1) (.v 0)) (.pr (.str "xor") (.op .BitXor (.v 1) (.v 0)) .nil))))) (.set (.k (.int 0)) (.v 3) (.k (.str "cf")) (.set (.k (.int 0)) (.v 3) (.k (.str "of")) (.set (.k (.int 0)) (.v 3) (.k (.str "af")) (.call "_law_szp" (nj .nil) (.cons (.v 3) (.cons (.v 0) (.cons (.v 8) .nil))))))))))
theorem ES:cW "_law_two" [none,some (.str "or"),none,none,none] mJ:=fun _ _ _ _ _ _=>by kernel_rfl
def wg:D→D:=.tmp [none,some (.str "or"),none,none,none] "_law_two" mJ
def pC:D:=.letE (.idx (.v 0) (.k (.str "f"))) (.letE (.call "_law_bits" (aB .nil) (.cons (.v 1) (.cons (.v 2) .nil))) (.letE (.call "_law_two" (wg .nil) (.cons (.v 2) (.cons (.k (.str "or")) (.cons (.v 3) (.cons (.v 4) (.cons (.v 0) .nil)))))) (.ex (.call "_law_put" (aC .nil) (.cons (.v 3) (.cons (.v 4) (.cons (.v 0) .nil)))) (.k .none))))
theorem IZ(cl:Fn→List MV→M MV)(w o0 o1:MV)(H:Hp):an T cl (fnOf "_law_do") [w,.tup [.str "or",.str "",.tup [o0,o1]]] H=(aU cl pC).v [w,o0,o1] H:=by kernel_rfl
def kq:D:=.letE (.idx (.v 0) (.k (.str "f"))) (.letE (.call "_law_get" (az .nil) (.cons (.v 1) (.cons (.v 3) (.cons (.v 5) .nil)))) (.letE (.call "_law_get" (az .nil) (.cons (.v 2) (.cons (.v 5) (.cons (.v 6) .nil)))) (.letE (.dct "xor" (.pr (.str "and") (.op .BitAnd (.v 1) (.v 0)) (.pr (.str "test") (.op .BitAnd (.v 1) (.v 0)) (.pr (.str "or") (.op .BitOr (.v 1) (.v 0)) (.pr (.str "xor") (.op .BitXor (.v 1) (.v 0)) .nil))))) (.set (.k (.int 0)) (.v 3) (.k (.str "cf")) (.set (.k (.int 0)) (.v 3) (.k (.str "of")) (.set (.k (.int 0)) (.v 3) (.k (.str "af")) (.call "_law_szp" (nj .nil) (.cons (.v 3) (.cons (.v 0) (.cons (.v 8) .nil))))))))))
theorem Du:cW "_law_two" [none,some (.str "xor"),none,none,none] kq:=fun _ _ _ _ _ _=>by kernel_rfl
def tf:D→D:=.tmp [none,some (.str "xor"),none,none,none] "_law_two" kq
def ng:D:=.letE (.idx (.v 0) (.k (.str "f"))) (.letE (.call "_law_bits" (aB .nil) (.cons (.v 1) (.cons (.v 2) .nil))) (.letE (.call "_law_two" (tf .nil) (.cons (.v 2) (.cons (.k (.str "xor")) (.cons (.v 3) (.cons (.v 4) (.cons (.v 0) .nil)))))) (.ex (.call "_law_put" (aC .nil) (.cons (.v 3) (.cons (.v 4) (.cons (.v 0) .nil)))) (.k .none))))
theorem FW(cl:Fn→List MV→M MV)(w o0 o1:MV)(H:Hp):an T cl (fnOf "_law_do") [w,.tup [.str "xor",.str "",.tup [o0,o1]]] H=(aU cl ng).v [w,o0,o1] H:=by kernel_rfl
def kC:D:=.letE (.idx (.v 0) (.k (.str "f"))) (.letE (.call "_law_get" (az .nil) (.cons (.v 1) (.cons (.v 3) (.cons (.v 5) .nil)))) (.letE (.call "_law_get" (az .nil) (.cons (.v 2) (.cons (.v 5) (.cons (.v 6) .nil)))) (.call "_law_sum" (mc .nil) (.cons (.v 2) (.cons (.v 1) (.cons (.v 0) (.cons (.k (.int 0)) (.cons (.v 7) (.cons (.k (.int (-1))) .nil)))))))))
theorem Dv:cW "_law_two" [none,some (.str "cmp"),none,none,none] kC:=fun _ _ _ _ _ _=>by kernel_rfl
def tp:D→D:=.tmp [none,some (.str "cmp"),none,none,none] "_law_two" kC
def nB:D:=.letE (.idx (.v 0) (.k (.str "f"))) (.letE (.call "_law_bits" (aB .nil) (.cons (.v 1) (.cons (.v 2) .nil))) (.letE (.call "_law_two" (tp .nil) (.cons (.v 2) (.cons (.k (.str "cmp")) (.cons (.v 3) (.cons (.v 4) (.cons (.v 0) .nil)))))) (.k .none)))
theorem D7(cl:Fn→List MV→M MV)(w o0 o1:MV)(H:Hp):an T cl (fnOf "_law_do") [w,.tup [.str "cmp",.str "",.tup [o0,o1]]] H=(aU cl nB).v [w,o0,o1] H:=by kernel_rfl
def hV:D:=.letE (.idx (.v 0) (.k (.str "f"))) (.letE (.call "_law_get" (az .nil) (.cons (.v 1) (.cons (.v 3) (.cons (.v 5) .nil)))) (.letE (.call "_law_get" (az .nil) (.cons (.v 2) (.cons (.v 5) (.cons (.v 6) .nil)))) (.letE (.dct "test" (.pr (.str "and") (.op .BitAnd (.v 1) (.v 0)) (.pr (.str "test") (.op .BitAnd (.v 1) (.v 0)) (.pr (.str "or") (.op .BitOr (.v 1) (.v 0)) (.pr (.str "xor") (.op .BitXor (.v 1) (.v 0)) .nil))))) (.set (.k (.int 0)) (.v 3) (.k (.str "cf")) (.set (.k (.int 0)) (.v 3) (.k (.str "of")) (.set (.k (.int 0)) (.v 3) (.k (.str "af")) (.call "_law_szp" (nj .nil) (.cons (.v 3) (.cons (.v 0) (.cons (.v 8) .nil))))))))))
theorem Aa:cW "_law_two" [none,some (.str "test"),none,none,none] hV:=fun _ _ _ _ _ _=>by kernel_rfl
def rF:D→D:=.tmp [none,some (.str "test"),none,none,none] "_law_two" hV
def j8:D:=.letE (.idx (.v 0) (.k (.str "f"))) (.letE (.call "_law_bits" (aB .nil) (.cons (.v 1) (.cons (.v 2) .nil))) (.letE (.call "_law_two" (rF .nil) (.cons (.v 2) (.cons (.k (.str "test")) (.cons (.v 3) (.cons (.v 4) (.cons (.v 0) .nil)))))) (.k .none)))
theorem C6(cl:Fn→List MV→M MV)(w o0 o1:MV)(H:Hp):an T cl (fnOf "_law_do") [w,.tup [.str "test",.str "",.tup [o0,o1]]] H=(aU cl j8).v [w,o0,o1] H:=by kernel_rfl
def mN:D:=.letE (.idx (.v 0) (.k (.str "f"))) (.letE (.call "_law_bits" (aB .nil) (.cons (.v 1) (.cons (.v 2) .nil))) (.ex (.call "_law_put" (aC .nil) (.cons (.v 2) (.cons (.v 3) (.cons (.call "_law_get" (az .nil) (.cons (.v 2) (.cons (.v 4) (.cons (.v 0) .nil)))) .nil)))) (.k .none)))
theorem E8(cl:Fn→List MV→M MV)(w o0 o1:MV)(H:Hp):an T cl (fnOf "_law_do") [w,.tup [.str "mov",.str "",.tup [o0,o1]]] H=(aU cl mN).v [w,o0,o1] H:=by kernel_rfl
def mz:D:=.letE (.idx (.v 0) (.k (.str "f"))) (.letE (.call "_law_bits" (aB .nil) (.cons (.v 1) (.cons (.v 2) .nil))) (.ex (.call "_law_put" (aC .nil) (.cons (.v 2) (.cons (.v 3) (.cons (.call "_law_spot" (vd .nil) (.cons (.v 2) (.cons (.v 4) .nil))) .nil)))) (.k .none)))
theorem FP(cl:Fn→List MV→M MV)(w o0 o1:MV)(H:Hp):an T cl (fnOf "_law_do") [w,.tup [.str "lea",.str "",.tup [o0,o1]]] H=(aU cl mz).v [w,o0,o1] H:=by kernel_rfl
def iM:D:=.letE (.idx (.v 0) (.k (.str "f"))) (.letE (.call "_law_bits" (aB .nil) (.cons (.v 1) (.cons (.v 2) .nil))) (.ex (.call "_law_put" (aC .nil) (.cons (.v 2) (.cons (.v 3) (.cons (.call "_law_get" (az .nil) (.cons (.v 2) (.cons (.v 4) (.cons (.v 0) .nil)))) .nil)))) (.k .none)))
theorem yq(cl:Fn→List MV→M MV)(w o0 o1:MV)(H:Hp):an T cl (fnOf "_law_do") [w,.tup [.str "movzx",.str "",.tup [o0,o1]]] H=(aU cl iM).v [w,o0,o1] H:=by kernel_rfl
def g5:D:=.letE (.idx (.v 0) (.k (.str "f"))) (.letE (.call "_law_bits" (aB .nil) (.cons (.v 1) (.cons (.v 2) .nil))) (.letE (.call "_law_bits" (aB .nil) (.cons (.v 2) (.cons (.v 4) .nil))) (.ex (.call "_law_put" (aC .nil) (.cons (.v 3) (.cons (.v 4) (.cons (.call "_law_sign" (d4 .nil) (.cons (.call "_law_get" (az .nil) (.cons (.v 3) (.cons (.v 5) (.cons (.v 0) .nil)))) (.cons (.v 0) .nil))) .nil)))) (.k .none))))
theorem yC(cl:Fn→List MV→M MV)(w o0 o1:MV)(H:Hp):an T cl (fnOf "_law_do") [w,.tup [.str "movsx",.str "",.tup [o0,o1]]] H=(aU cl g5).v [w,o0,o1] H:=by kernel_rfl
def kD:D:=.letE (.idx (.v 0) (.k (.str "f"))) (.letE (.call "_law_bits" (aB .nil) (.cons (.v 1) (.cons (.v 2) .nil))) (.letE (.call "_law_get" (az .nil) (.cons (.v 2) (.cons (.v 3) (.cons (.v 0) .nil)))) (.letE (.call "_law_get" (az .nil) (.cons (.v 3) (.cons (.v 5) (.cons (.v 1) .nil)))) (.ex (.call "_law_put" (aC .nil) (.cons (.v 4) (.cons (.v 5) (.cons (.v 0) .nil)))) (.ex (.call "_law_put" (aC .nil) (.cons (.v 4) (.cons (.v 6) (.cons (.v 1) .nil)))) (.k .none))))))
theorem Co(cl:Fn→List MV→M MV)(w o0 o1:MV)(H:Hp):an T cl (fnOf "_law_do") [w,.tup [.str "xchg",.str "",.tup [o0,o1]]] H=(aU cl kD).v [w,o0,o1] H:=by kernel_rfl
def f7:D:=.letE (.op .Mod (.v 3) (.ite (.cmp .Eq (.v 4) (.k (.int 64))) (.k (.int 64)) (.k (.int 32)))) (.itz 0 (.v 3) (.letE (.op .Mult (.v 3) (.op .Pow (.k (.int 2)) (.v 0))) (.set (.op .Mod (.op .FloorDiv (.v 0) (.op .Pow (.k (.int 2)) (.v 6))) (.k (.int 2))) (.v 2) (.k (.str "cf")) (.set (.ite (.all (.cons (.cmp .Eq (.v 1) (.k (.int 1))) (.cons (.cmp .NotEq (.op .Mod (.op .FloorDiv (.v 0) (.op .Pow (.k (.int 2)) (.op .Sub (.v 6) (.k (.int 1))))) (.k (.int 2))) (.idx (.v 2) (.k (.str "cf")))) .nil))) (.k (.int 1)) (.k (.int 0))) (.v 2) (.k (.str "of")) (.set (.k (.int 0)) (.v 2) (.k (.str "af")) (.call "_law_szp" (nj .nil) (.cons (.v 2) (.cons (.op .Mod (.v 0) (.op .Pow (.k (.int 2)) (.v 6))) (.cons (.v 6) .nil)))))))))
theorem wC:cW "_law_shift" [none,some (.str "shl"),none,none,none] f7:=fun _ _ _ _ _ _=>by kernel_rfl
def oH:D→D:=.tmp [none,some (.str "shl"),none,none,none] "_law_shift" f7
def lZ:D:=.letE (.idx (.v 0) (.k (.str "f"))) (.letE (.call "_law_bits" (aB .nil) (.cons (.v 1) (.cons (.v 2) .nil))) (.letE (.call "_law_get" (az .nil) (.cons (.v 2) (.cons (.v 3) (.cons (.v 0) .nil)))) (.ex (.call "_law_put" (aC .nil) (.cons (.v 3) (.cons (.v 4) (.cons (.call "_law_shift" (oH .nil) (.cons (.v 2) (.cons (.k (.str "shl")) (.cons (.v 0) (.cons (.call "_law_get" (az .nil) (.cons (.v 3) (.cons (.v 5) (.cons (.k (.int 8)) .nil)))) (.cons (.v 1) .nil)))))) .nil)))) (.k .none))))
theorem ED(cl:Fn→List MV→M MV)(w o0 o1:MV)(H:Hp):an T cl (fnOf "_law_do") [w,.tup [.str "shl",.str "",.tup [o0,o1]]] H=(aU cl lZ).v [w,o0,o1] H:=by kernel_rfl
def fP:D:=.letE (.op .Mod (.v 3) (.ite (.cmp .Eq (.v 4) (.k (.int 64))) (.k (.int 64)) (.k (.int 32)))) (.itz 0 (.v 3) (.letE (.op .FloorDiv (.v 3) (.op .Pow (.k (.int 2)) (.v 0))) (.set (.op .Mod (.op .FloorDiv (.v 4) (.op .Pow (.k (.int 2)) (.op .Sub (.v 1) (.k (.int 1))))) (.k (.int 2))) (.v 2) (.k (.str "cf")) (.set (.ite (.all (.cons (.cmp .Eq (.v 1) (.k (.int 1))) (.cons (.cmp .Eq (.k (.str "shr")) (.k (.str "shr"))) .nil))) (.op .FloorDiv (.v 4) (.op .Pow (.k (.int 2)) (.op .Sub (.v 6) (.k (.int 1))))) (.k (.int 0))) (.v 2) (.k (.str "of")) (.set (.k (.int 0)) (.v 2) (.k (.str "af")) (.call "_law_szp" (nj .nil) (.cons (.v 2) (.cons (.op .Mod (.v 0) (.op .Pow (.k (.int 2)) (.v 6))) (.cons (.v 6) .nil)))))))))
theorem v0:cW "_law_shift" [none,some (.str "shr"),none,none,none] fP:=fun _ _ _ _ _ _=>by kernel_rfl
def oN:D→D:=.tmp [none,some (.str "shr"),none,none,none] "_law_shift" fP
def mY:D:=.letE (.idx (.v 0) (.k (.str "f"))) (.letE (.call "_law_bits" (aB .nil) (.cons (.v 1) (.cons (.v 2) .nil))) (.letE (.call "_law_get" (az .nil) (.cons (.v 2) (.cons (.v 3) (.cons (.v 0) .nil)))) (.ex (.call "_law_put" (aC .nil) (.cons (.v 3) (.cons (.v 4) (.cons (.call "_law_shift" (oN .nil) (.cons (.v 2) (.cons (.k (.str "shr")) (.cons (.v 0) (.cons (.call "_law_get" (az .nil) (.cons (.v 3) (.cons (.v 5) (.cons (.k (.int 8)) .nil)))) (.cons (.v 1) .nil)))))) .nil)))) (.k .none))))
theorem Hn(cl:Fn→List MV→M MV)(w o0 o1:MV)(H:Hp):an T cl (fnOf "_law_do") [w,.tup [.str "shr",.str "",.tup [o0,o1]]] H=(aU cl mY).v [w,o0,o1] H:=by kernel_rfl
def gw:D:=.letE (.op .Mod (.v 3) (.ite (.cmp .Eq (.v 4) (.k (.int 64))) (.k (.int 64)) (.k (.int 32)))) (.itz 0 (.v 3) (.letE (.call "_law_sign" (d4 .nil) (.cons (.v 3) (.cons (.v 5) .nil))) (.letE (.op .FloorDiv (.v 0) (.op .Pow (.k (.int 2)) (.v 1))) (.set (.op .Mod (.op .FloorDiv (.v 1) (.op .Pow (.k (.int 2)) (.op .Sub (.v 2) (.k (.int 1))))) (.k (.int 2))) (.v 3) (.k (.str "cf")) (.set (.ite (.all (.cons (.cmp .Eq (.v 2) (.k (.int 1))) (.cons (.cmp .Eq (.k (.str "sar")) (.k (.str "shr"))) .nil))) (.op .FloorDiv (.v 5) (.op .Pow (.k (.int 2)) (.op .Sub (.v 7) (.k (.int 1))))) (.k (.int 0))) (.v 3) (.k (.str "of")) (.set (.k (.int 0)) (.v 3) (.k (.str "af")) (.call "_law_szp" (nj .nil) (.cons (.v 3) (.cons (.op .Mod (.v 0) (.op .Pow (.k (.int 2)) (.v 7))) (.cons (.v 7) .nil))))))))))
theorem xL:cW "_law_shift" [none,some (.str "sar"),none,none,none] gw:=fun _ _ _ _ _ _=>by kernel_rfl
def oQ:D→D:=.tmp [none,some (.str "sar"),none,none,none] "_law_shift" gw
def mQ:D:=.letE (.idx (.v 0) (.k (.str "f"))) (.letE (.call "_law_bits" (aB .nil) (.cons (.v 1) (.cons (.v 2) .nil))) (.letE (.call "_law_get" (az .nil) (.cons (.v 2) (.cons (.v 3) (.cons (.v 0) .nil)))) (.ex (.call "_law_put" (aC .nil) (.cons (.v 3) (.cons (.v 4) (.cons (.call "_law_shift" (oQ .nil) (.cons (.v 2) (.cons (.k (.str "sar")) (.cons (.v 0) (.cons (.call "_law_get" (az .nil) (.cons (.v 3) (.cons (.v 5) (.cons (.k (.int 8)) .nil)))) (.cons (.v 1) .nil)))))) .nil)))) (.k .none))))
theorem HV(cl:Fn→List MV→M MV)(w o0 o1:MV)(H:Hp):an T cl (fnOf "_law_do") [w,.tup [.str "sar",.str "",.tup [o0,o1]]] H=(aU cl mQ).v [w,o0,o1] H:=by kernel_rfl
def gj:D:=.letE (.op .Mod (.v 3) (.ite (.cmp .Eq (.v 4) (.k (.int 64))) (.k (.int 64)) (.k (.int 32)))) (.itz 0 (.v 3) (.letE (.op .Mod (.v 0) (.v 5)) (.letE (.op .Add (.op .Mod (.op .Mult (.v 4) (.op .Pow (.k (.int 2)) (.v 0))) (.op .Pow (.k (.int 2)) (.v 6))) (.op .FloorDiv (.v 4) (.op .Pow (.k (.int 2)) (.op .Sub (.v 6) (.v 0))))) (.letE (.lst (.cons (.op .Mod (.v 0) (.k (.int 2))) (.cons (.op .Mod (.op .FloorDiv (.v 0) (.op .Pow (.k (.int 2)) (.op .Sub (.v 7) (.k (.int 1))))) (.k (.int 2))) (.cons (.op .Mod (.op .FloorDiv (.v 0) (.op .Pow (.k (.int 2)) (.op .Sub (.v 7) (.k (.int 2))))) (.k (.int 2))) .nil)))) (.set (.idx (.v 0) (.k (.int 0))) (.v 4) (.k (.str "cf")) (.set (.ite (.cmp .Gt (.v 3) (.k (.int 1))) (.k (.int 0)) (.op .Mod (.op .Add (.idx (.v 0) (.k (.int 1))) (.idx (.v 0) (.k (.int 0)))) (.k (.int 2)))) (.v 4) (.k (.str "of")) (.op .Mod (.v 1) (.op .Pow (.k (.int 2)) (.v 8)))))))))
theorem wI:cW "_law_shift" [none,some (.str "rol"),none,none,none] gj:=fun _ _ _ _ _ _=>by kernel_rfl
def ou:D→D:=.tmp [none,some (.str "rol"),none,none,none] "_law_shift" gj
def mA:D:=.letE (.idx (.v 0) (.k (.str "f"))) (.letE (.call "_law_bits" (aB .nil) (.cons (.v 1) (.cons (.v 2) .nil))) (.letE (.call "_law_get" (az .nil) (.cons (.v 2) (.cons (.v 3) (.cons (.v 0) .nil)))) (.ex (.call "_law_put" (aC .nil) (.cons (.v 3) (.cons (.v 4) (.cons (.call "_law_shift" (ou .nil) (.cons (.v 2) (.cons (.k (.str "rol")) (.cons (.v 0) (.cons (.call "_law_get" (az .nil) (.cons (.v 3) (.cons (.v 5) (.cons (.k (.int 8)) .nil)))) (.cons (.v 1) .nil)))))) .nil)))) (.k .none))))
theorem Hj(cl:Fn→List MV→M MV)(w o0 o1:MV)(H:Hp):an T cl (fnOf "_law_do") [w,.tup [.str "rol",.str "",.tup [o0,o1]]] H=(aU cl mA).v [w,o0,o1] H:=by kernel_rfl
def fR:D:=.letE (.op .Mod (.v 3) (.ite (.cmp .Eq (.v 4) (.k (.int 64))) (.k (.int 64)) (.k (.int 32)))) (.itz 0 (.v 3) (.letE (.op .Mod (.op .Sub (.v 5) (.op .Mod (.v 0) (.v 5))) (.v 5)) (.letE (.op .Add (.op .Mod (.op .Mult (.v 4) (.op .Pow (.k (.int 2)) (.v 0))) (.op .Pow (.k (.int 2)) (.v 6))) (.op .FloorDiv (.v 4) (.op .Pow (.k (.int 2)) (.op .Sub (.v 6) (.v 0))))) (.letE (.lst (.cons (.op .Mod (.v 0) (.k (.int 2))) (.cons (.op .Mod (.op .FloorDiv (.v 0) (.op .Pow (.k (.int 2)) (.op .Sub (.v 7) (.k (.int 1))))) (.k (.int 2))) (.cons (.op .Mod (.op .FloorDiv (.v 0) (.op .Pow (.k (.int 2)) (.op .Sub (.v 7) (.k (.int 2))))) (.k (.int 2))) .nil)))) (.set (.idx (.v 0) (.k (.int 1))) (.v 4) (.k (.str "cf")) (.set (.ite (.cmp .Gt (.v 3) (.k (.int 1))) (.k (.int 0)) (.op .Mod (.op .Add (.idx (.v 0) (.k (.int 1))) (.idx (.v 0) (.k (.int 2)))) (.k (.int 2)))) (.v 4) (.k (.str "of")) (.op .Mod (.v 1) (.op .Pow (.k (.int 2)) (.v 8)))))))))
theorem xT:cW "_law_shift" [none,some (.str "ror"),none,none,none] fR:=fun _ _ _ _ _ _=>by kernel_rfl
def oY:D→D:=.tmp [none,some (.str "ror"),none,none,none] "_law_shift" fR
def mH:D:=.letE (.idx (.v 0) (.k (.str "f"))) (.letE (.call "_law_bits" (aB .nil) (.cons (.v 1) (.cons (.v 2) .nil))) (.letE (.call "_law_get" (az .nil) (.cons (.v 2) (.cons (.v 3) (.cons (.v 0) .nil)))) (.ex (.call "_law_put" (aC .nil) (.cons (.v 3) (.cons (.v 4) (.cons (.call "_law_shift" (oY .nil) (.cons (.v 2) (.cons (.k (.str "ror")) (.cons (.v 0) (.cons (.call "_law_get" (az .nil) (.cons (.v 3) (.cons (.v 5) (.cons (.k (.int 8)) .nil)))) (.cons (.v 1) .nil)))))) .nil)))) (.k .none))))
theorem Fd(cl:Fn→List MV→M MV)(w o0 o1:MV)(H:Hp):an T cl (fnOf "_law_do") [w,.tup [.str "ror",.str "",.tup [o0,o1]]] H=(aU cl mH).v [w,o0,o1] H:=by kernel_rfl
def pN:D:=.letE (.idx (.v 0) (.k (.str "f"))) (.letE (.call "_law_bits" (aB .nil) (.cons (.v 1) (.cons (.v 2) .nil))) (.set (.op .Mod (.op .FloorDiv (.call "_law_get" (az .nil) (.cons (.v 2) (.cons (.v 3) (.cons (.v 0) .nil)))) (.op .Pow (.k (.int 2)) (.idx (.v 4) (.k (.int 1))))) (.k (.int 2))) (.v 1) (.k (.str "cf")) (.set (.k (.int 0)) (.v 1) (.k (.str "pf")) (.set (.k (.int 0)) (.v 1) (.k (.str "af")) (.set (.k (.int 0)) (.v 1) (.k (.str "sf")) (.set (.k (.int 0)) (.v 1) (.k (.str "of")) (.k .none)))))))
theorem Jt(cl:Fn→List MV→M MV)(w o0 o1:MV)(H:Hp):an T cl (fnOf "_law_do") [w,.tup [.str "bt",.str "",.tup [o0,o1]]] H=(aU cl pN).v [w,o0,o1] H:=by kernel_rfl
def j7:D:=.letE (.idx (.v 0) (.k (.str "f"))) (.letE (.call "_law_get" (az .nil) (.cons (.v 1) (.cons (.v 3) (.cons (.v 4) .nil)))) (.letE (.idx (.v 1) (.k (.str "cf"))) (.letE (.call "_law_sum" (mc .nil) (.cons (.v 2) (.cons (.v 1) (.cons (.k (.int 1)) (.cons (.k (.int 0)) (.cons (.v 6) (.cons (.k (.int 1)) .nil))))))) (.set (.v 1) (.v 3) (.k (.str "cf")) (.v 0)))))
theorem Da:cW "_law_one" [none,some (.str "inc"),none,none] j7:=fun _ _ _ _ _=>by kernel_rfl
def tD:D→D:=.tmp [none,some (.str "inc"),none,none] "_law_one" j7
def mr:D:=.letE (.idx (.v 0) (.k (.str "f"))) (.letE (.call "_law_bits" (aB .nil) (.cons (.v 1) (.cons (.v 2) .nil))) (.ex (.call "_law_put" (aC .nil) (.cons (.v 2) (.cons (.v 3) (.cons (.call "_law_one" (tD .nil) (.cons (.v 2) (.cons (.k (.str "inc")) (.cons (.v 3) (.cons (.v 0) .nil))))) .nil)))) (.k .none)))
theorem EF(cl:Fn→List MV→M MV)(w o0:MV)(H:Hp):an T cl (fnOf "_law_do") [w,.tup [.str "inc",.str "",.tup [o0]]] H=(aU cl mr).v [w,o0] H:=by kernel_rfl
def kh:D:=.letE (.idx (.v 0) (.k (.str "f"))) (.letE (.call "_law_get" (az .nil) (.cons (.v 1) (.cons (.v 3) (.cons (.v 4) .nil)))) (.letE (.idx (.v 1) (.k (.str "cf"))) (.letE (.call "_law_sum" (mc .nil) (.cons (.v 2) (.cons (.v 1) (.cons (.k (.int 1)) (.cons (.k (.int 0)) (.cons (.v 6) (.cons (.k (.int (-1))) .nil))))))) (.set (.v 1) (.v 3) (.k (.str "cf")) (.v 0)))))
theorem Dq:cW "_law_one" [none,some (.str "dec"),none,none] kh:=fun _ _ _ _ _=>by kernel_rfl
def tr:D→D:=.tmp [none,some (.str "dec"),none,none] "_law_one" kh
def mw:D:=.letE (.idx (.v 0) (.k (.str "f"))) (.letE (.call "_law_bits" (aB .nil) (.cons (.v 1) (.cons (.v 2) .nil))) (.ex (.call "_law_put" (aC .nil) (.cons (.v 2) (.cons (.v 3) (.cons (.call "_law_one" (tr .nil) (.cons (.v 2) (.cons (.k (.str "dec")) (.cons (.v 3) (.cons (.v 0) .nil))))) .nil)))) (.k .none)))
theorem Gv(cl:Fn→List MV→M MV)(w o0:MV)(H:Hp):an T cl (fnOf "_law_do") [w,.tup [.str "dec",.str "",.tup [o0]]] H=(aU cl mw).v [w,o0] H:=by kernel_rfl
def kO:D:=.letE (.idx (.v 0) (.k (.str "f"))) (.letE (.call "_law_get" (az .nil) (.cons (.v 1) (.cons (.v 3) (.cons (.v 4) .nil)))) (.call "_law_sum" (mc .nil) (.cons (.v 1) (.cons (.k (.int 0)) (.cons (.v 0) (.cons (.k (.int 0)) (.cons (.v 5) (.cons (.k (.int (-1))) .nil))))))))
theorem Dn:cW "_law_one" [none,some (.str "neg"),none,none] kO:=fun _ _ _ _ _=>by kernel_rfl
def ub:D→D:=.tmp [none,some (.str "neg"),none,none] "_law_one" kO
def lX:D:=.letE (.idx (.v 0) (.k (.str "f"))) (.letE (.call "_law_bits" (aB .nil) (.cons (.v 1) (.cons (.v 2) .nil))) (.ex (.call "_law_put" (aC .nil) (.cons (.v 2) (.cons (.v 3) (.cons (.call "_law_one" (ub .nil) (.cons (.v 2) (.cons (.k (.str "neg")) (.cons (.v 3) (.cons (.v 0) .nil))))) .nil)))) (.k .none)))
theorem Ga(cl:Fn→List MV→M MV)(w o0:MV)(H:Hp):an T cl (fnOf "_law_do") [w,.tup [.str "neg",.str "",.tup [o0]]] H=(aU cl lX).v [w,o0] H:=by kernel_rfl
def km:D:=.letE (.idx (.v 0) (.k (.str "f"))) (.letE (.call "_law_get" (az .nil) (.cons (.v 1) (.cons (.v 3) (.cons (.v 4) .nil)))) (.op .Sub (.op .Sub (.op .Pow (.k (.int 2)) (.v 5)) (.k (.int 1))) (.v 0)))
theorem CY:cW "_law_one" [none,some (.str "not"),none,none] km:=fun _ _ _ _ _=>by kernel_rfl
def tn:D→D:=.tmp [none,some (.str "not"),none,none] "_law_one" km
def mR:D:=.letE (.idx (.v 0) (.k (.str "f"))) (.letE (.call "_law_bits" (aB .nil) (.cons (.v 1) (.cons (.v 2) .nil))) (.ex (.call "_law_put" (aC .nil) (.cons (.v 2) (.cons (.v 3) (.cons (.call "_law_one" (tn .nil) (.cons (.v 2) (.cons (.k (.str "not")) (.cons (.v 3) (.cons (.v 0) .nil))))) .nil)))) (.k .none)))
theorem F6(cl:Fn→List MV→M MV)(w o0:MV)(H:Hp):an T cl (fnOf "_law_do") [w,.tup [.str "not",.str "",.tup [o0]]] H=(aU cl mR).v [w,o0] H:=by kernel_rfl
def dg:D:=.letE (.idx (.v 0) (.k (.str "f"))) (.set (.k (.int 0)) (.v 0) (.k (.str "sf")) (.set (.k (.int 0)) (.v 0) (.k (.str "zf")) (.set (.k (.int 0)) (.v 0) (.k (.str "af")) (.set (.k (.int 0)) (.v 0) (.k (.str "pf")) (.letE (.op .Mult (.call "_law_get" (az .nil) (.cons (.v 1) (.cons (.idx (.v 3) (.k (.int 0))) (.cons (.k (.int 8)) .nil)))) (.call "_law_get" (az .nil) (.cons (.v 1) (.cons (.k (.tup [(.str "reg"),(.str "al")])) (.cons (.k (.int 8)) .nil))))) (.set (.ite (.cmp .GtE (.v 0) (.k (.int 256))) (.k (.int 1)) (.k (.int 0))) (.v 1) (.k (.str "cf")) (.ex (.call "_law_put" (aC .nil) (.cons (.v 2) (.cons (.k (.tup [(.str "reg"),(.str "ax")])) (.cons (.v 0) .nil)))) (.set (.idx (.v 1) (.k (.str "cf"))) (.v 1) (.k (.str "of")) (.k .none)))))))))
theorem pn:cW "_law_product" [none,some (.str "mul"),none,some (.int 8)] dg:=fun _ _ _ _=>by kernel_rfl
def i6:D→D:=.tmp [none,some (.str "mul"),none,some (.int 8)] "_law_product" dg
def cR:D:=.letE (.idx (.v 0) (.k (.str "f"))) (.set (.k (.int 0)) (.v 0) (.k (.str "sf")) (.set (.k (.int 0)) (.v 0) (.k (.str "zf")) (.set (.k (.int 0)) (.v 0) (.k (.str "af")) (.set (.k (.int 0)) (.v 0) (.k (.str "pf")) (.letE (.op .Mult (.call "_law_get" (az .nil) (.cons (.v 1) (.cons (.idx (.v 3) (.k (.int 0))) (.cons (.k (.int 16)) .nil)))) (.call "_law_get" (az .nil) (.cons (.v 1) (.cons (.k (.tup [(.str "reg"),(.str "ax")])) (.cons (.k (.int 16)) .nil))))) (.set (.ite (.cmp .GtE (.v 0) (.k (.int 65536))) (.k (.int 1)) (.k (.int 0))) (.v 1) (.k (.str "cf")) (.ex (.call "_law_put" (aC .nil) (.cons (.v 2) (.cons (.k (.tup [(.str "reg"),(.str "ax")])) (.cons (.v 0) .nil)))) (.ex (.call "_law_put" (aC .nil) (.cons (.v 2) (.cons (.k (.tup [(.str "reg"),(.str "dx")])) (.cons (.op .FloorDiv (.v 0) (.k (.int 65536))) .nil)))) (.set (.idx (.v 1) (.k (.str "cf"))) (.v 1) (.k (.str "of")) (.k .none))))))))))
theorem nC:cW "_law_product" [none,some (.str "mul"),none,some (.int 16)] cR:=fun _ _ _ _=>by kernel_rfl
def gJ:D→D:=.tmp [none,some (.str "mul"),none,some (.int 16)] "_law_product" cR
def cQ:D:=.letE (.idx (.v 0) (.k (.str "f"))) (.set (.k (.int 0)) (.v 0) (.k (.str "sf")) (.set (.k (.int 0)) (.v 0) (.k (.str "zf")) (.set (.k (.int 0)) (.v 0) (.k (.str "af")) (.set (.k (.int 0)) (.v 0) (.k (.str "pf")) (.letE (.op .Mult (.call "_law_get" (az .nil) (.cons (.v 1) (.cons (.idx (.v 3) (.k (.int 0))) (.cons (.k (.int 32)) .nil)))) (.call "_law_get" (az .nil) (.cons (.v 1) (.cons (.k (.tup [(.str "reg"),(.str "eax")])) (.cons (.k (.int 32)) .nil))))) (.set (.ite (.cmp .GtE (.v 0) (.k (.int 4294967296))) (.k (.int 1)) (.k (.int 0))) (.v 1) (.k (.str "cf")) (.ex (.call "_law_put" (aC .nil) (.cons (.v 2) (.cons (.k (.tup [(.str "reg"),(.str "eax")])) (.cons (.v 0) .nil)))) (.ex (.call "_law_put" (aC .nil) (.cons (.v 2) (.cons (.k (.tup [(.str "reg"),(.str "edx")])) (.cons (.op .FloorDiv (.v 0) (.k (.int 4294967296))) .nil)))) (.set (.idx (.v 1) (.k (.str "cf"))) (.v 1) (.k (.str "of")) (.k .none))))))))))
theorem nM:cW "_law_product" [none,some (.str "mul"),none,some (.int 32)] cQ:=fun _ _ _ _=>by kernel_rfl
def gO:D→D:=.tmp [none,some (.str "mul"),none,some (.int 32)] "_law_product" cQ
def cT:D:=.letE (.idx (.v 0) (.k (.str "f"))) (.set (.k (.int 0)) (.v 0) (.k (.str "sf")) (.set (.k (.int 0)) (.v 0) (.k (.str "zf")) (.set (.k (.int 0)) (.v 0) (.k (.str "af")) (.set (.k (.int 0)) (.v 0) (.k (.str "pf")) (.letE (.op .Mult (.call "_law_get" (az .nil) (.cons (.v 1) (.cons (.idx (.v 3) (.k (.int 0))) (.cons (.k (.int 64)) .nil)))) (.call "_law_get" (az .nil) (.cons (.v 1) (.cons (.k (.tup [(.str "reg"),(.str "rax")])) (.cons (.k (.int 64)) .nil))))) (.set (.ite (.cmp .GtE (.v 0) (.k (.int 18446744073709551616))) (.k (.int 1)) (.k (.int 0))) (.v 1) (.k (.str "cf")) (.ex (.call "_law_put" (aC .nil) (.cons (.v 2) (.cons (.k (.tup [(.str "reg"),(.str "rax")])) (.cons (.v 0) .nil)))) (.ex (.call "_law_put" (aC .nil) (.cons (.v 2) (.cons (.k (.tup [(.str "reg"),(.str "rdx")])) (.cons (.op .FloorDiv (.v 0) (.k (.int 18446744073709551616))) .nil)))) (.set (.idx (.v 1) (.k (.str "cf"))) (.v 1) (.k (.str "of")) (.k .none))))))))))
theorem oe:cW "_law_product" [none,some (.str "mul"),none,some (.int 64)] cT:=fun _ _ _ _=>by kernel_rfl
def gG:D→D:=.tmp [none,some (.str "mul"),none,some (.int 64)] "_law_product" cT
def nc:D:=.letE (.idx (.v 0) (.k (.str "f"))) (.letE (.call "_law_bits" (aB .nil) (.cons (.v 1) (.cons (.v 2) .nil))) (.ex (.call "_law_product" (i6 (gJ (gO (gG .nil)))) (.cons (.v 2) (.cons (.k (.str "mul")) (.cons (.tup (.cons (.v 3) .nil)) (.cons (.v 0) .nil))))) (.k .none)))
theorem GY(cl:Fn→List MV→M MV)(w o0:MV)(H:Hp):an T cl (fnOf "_law_do") [w,.tup [.str "mul",.str "",.tup [o0]]] H=(aU cl nc).v [w,o0] H:=by kernel_rfl
def eV:D:=.app (.idx (.v 0) (.k (.str "read"))) (.k (.int 4)) (.app (.idx (.v 0) (.k (.str "set"))) (.k (.int 4)) (.letE (.call "_law_get" (az .nil) (.cons (.v 0) (.cons (.v 2) (.cons (.v 3) .nil)))) (.set (.op .Mod (.op .Sub (.idx (.idx (.v 1) (.k (.str "r"))) (.k (.int 4))) (.op .FloorDiv (.v 4) (.k (.int 8)))) (.k (.int 18446744073709551616))) (.idx (.v 1) (.k (.str "r"))) (.k (.int 4)) (.ex (.call "_law_store" (d6 (d7 (d9 (eu .nil)))) (.cons (.v 1) (.cons (.idx (.idx (.v 1) (.k (.str "r"))) (.k (.int 4))) (.cons (.op .FloorDiv (.v 4) (.k (.int 8))) (.cons (.v 0) .nil))))) (.k .none)))))
theorem vk:cW "_law_stack" [none,some (.str "push"),none,none] eV:=fun _ _ _ _ _=>by kernel_rfl
def m5:D→D:=.tmp [none,some (.str "push"),none,none] "_law_stack" eV
def kw:D:=.letE (.idx (.v 0) (.k (.str "f"))) (.letE (.call "_law_bits" (aB .nil) (.cons (.v 1) (.cons (.v 2) .nil))) (.ex (.call "_law_stack" (m5 .nil) (.cons (.v 2) (.cons (.k (.str "push")) (.cons (.v 3) (.cons (.v 0) .nil))))) (.k .none)))
theorem Ci(cl:Fn→List MV→M MV)(w o0:MV)(H:Hp):an T cl (fnOf "_law_do") [w,.tup [.str "push",.str "",.tup [o0]]] H=(aU cl kw).v [w,o0] H:=by kernel_rfl
def fW:D:=.app (.idx (.v 0) (.k (.str "read"))) (.k (.int 4)) (.app (.idx (.v 0) (.k (.str "set"))) (.k (.int 4)) (.letE (.call "_law_load" (lA .nil) (.cons (.v 0) (.cons (.idx (.idx (.v 0) (.k (.str "r"))) (.k (.int 4))) (.cons (.op .FloorDiv (.v 3) (.k (.int 8))) .nil)))) (.set (.op .Mod (.op .Add (.idx (.idx (.v 1) (.k (.str "r"))) (.k (.int 4))) (.op .FloorDiv (.v 4) (.k (.int 8)))) (.k (.int 18446744073709551616))) (.idx (.v 1) (.k (.str "r"))) (.k (.int 4)) (.ex (.call "_law_put" (aC .nil) (.cons (.v 1) (.cons (.v 3) (.cons (.v 0) .nil)))) (.k .none)))))
theorem xX:cW "_law_stack" [none,some (.str "pop"),none,none] fW:=fun _ _ _ _ _=>by kernel_rfl
def oJ:D→D:=.tmp [none,some (.str "pop"),none,none] "_law_stack" fW
def l8:D:=.letE (.idx (.v 0) (.k (.str "f"))) (.letE (.call "_law_bits" (aB .nil) (.cons (.v 1) (.cons (.v 2) .nil))) (.ex (.call "_law_stack" (oJ .nil) (.cons (.v 2) (.cons (.k (.str "pop")) (.cons (.v 3) (.cons (.v 0) .nil))))) (.k .none)))
theorem Hv(cl:Fn→List MV→M MV)(w o0:MV)(H:Hp):an T cl (fnOf "_law_do") [w,.tup [.str "pop",.str "",.tup [o0]]] H=(aU cl l8).v [w,o0] H:=by kernel_rfl
def fT:D:=.letE (.idx (.v 0) (.k (.str "f"))) (.letE (.call "_law_get" (az .nil) (.cons (.v 1) (.cons (.v 3) (.cons (.v 4) .nil)))) (.bsum (.op .FloorDiv (.v 5) (.k (.int 8))) (.op .Mult (.op .Mod (.op .FloorDiv (.v 1) (.op .Pow (.k (.int 256)) (.v 0))) (.k (.int 256))) (.op .Pow (.k (.int 256)) (.op .Sub (.op .Sub (.op .FloorDiv (.v 6) (.k (.int 8))) (.k (.int 1))) (.v 0))))))
theorem xp:cW "_law_one" [none,some (.str "bswap"),none,none] fT:=fun _ _ _ _ _=>by kernel_rfl
def oS:D→D:=.tmp [none,some (.str "bswap"),none,none] "_law_one" fT
def iI:D:=.letE (.idx (.v 0) (.k (.str "f"))) (.letE (.call "_law_bits" (aB .nil) (.cons (.v 1) (.cons (.v 2) .nil))) (.ex (.call "_law_put" (aC .nil) (.cons (.v 2) (.cons (.v 3) (.cons (.call "_law_one" (oS .nil) (.cons (.v 2) (.cons (.k (.str "bswap")) (.cons (.v 3) (.cons (.v 0) .nil))))) .nil)))) (.k .none)))
theorem A5(cl:Fn→List MV→M MV)(w o0:MV)(H:Hp):an T cl (fnOf "_law_do") [w,.tup [.str "bswap",.str "",.tup [o0]]] H=(aU cl iI).v [w,o0] H:=by kernel_rfl
def dP:D:=.letE (.idx (.v 0) (.k (.str "f"))) (.set (.k (.int 0)) (.v 0) (.k (.str "sf")) (.set (.k (.int 0)) (.v 0) (.k (.str "zf")) (.set (.k (.int 0)) (.v 0) (.k (.str "af")) (.set (.k (.int 0)) (.v 0) (.k (.str "pf")) (.letE (.op .Mult (.call "_law_sign" (d4 .nil) (.cons (.call "_law_get" (az .nil) (.cons (.v 1) (.cons (.idx (.v 3) (.k (.int 1))) (.cons (.v 4) .nil)))) (.cons (.v 4) .nil))) (.call "_law_sign" (d4 .nil) (.cons (.idx (.idx (.v 3) (.k (.int 2))) (.k (.int 1))) (.cons (.v 4) .nil)))) (.set (.ite (.cmp2 .LtE .Lt (.neg (.op .Pow (.k (.int 2)) (.op .Sub (.v 5) (.k (.int 1))))) (.v 0) (.op .Pow (.k (.int 2)) (.op .Sub (.v 5) (.k (.int 1))))) (.k (.int 0)) (.k (.int 1))) (.v 1) (.k (.str "cf")) (.ex (.call "_law_put" (aC .nil) (.cons (.v 2) (.cons (.idx (.v 4) (.k (.int 0))) (.cons (.op .Mod (.v 0) (.op .Pow (.k (.int 2)) (.v 5))) .nil)))) (.set (.idx (.v 1) (.k (.str "cf"))) (.v 1) (.k (.str "of")) (.k .none)))))))))
theorem qd:cW "_law_product" [none,some (.str "imul"),none,none] dP:=fun _ _ _ _ _=>by kernel_rfl
def jO:D→D:=.tmp [none,some (.str "imul"),none,none] "_law_product" dP
def j6:D:=.letE (.idx (.v 0) (.k (.str "f"))) (.letE (.call "_law_bits" (aB .nil) (.cons (.v 1) (.cons (.v 2) .nil))) (.ex (.call "_law_product" (jO .nil) (.cons (.v 2) (.cons (.k (.str "imul")) (.cons (.tup (.cons (.v 3) (.cons (.v 4) (.cons (.v 5) .nil)))) (.cons (.v 0) .nil))))) (.k .none)))
theorem DK(cl:Fn→List MV→M MV)(w o0 o1 o2:MV)(H:Hp):an T cl (fnOf "_law_do") [w,.tup [.str "imul",.str "",.tup [o0,o1,o2]]] H=(aU cl j6).v [w,o0,o1,o2] H:=by kernel_rfl
def kx:D:=.letE (.idx (.v 0) (.k (.str "f"))) (.letE (.call "_law_bits" (aB .nil) (.cons (.v 1) (.cons (.v 2) .nil))) (.ex (.call "_law_put" (aC .nil) (.cons (.v 2) (.cons (.v 3) (.cons (.ite (.tst (.hold "o" (.v 1))) (.k (.int 1)) (.k (.int 0))) .nil)))) (.k .none)))
theorem DP(cl:Fn→List MV→M MV)(w o0:MV)(H:Hp):an T cl (fnOf "_law_do") [w,.tup [.str "seto",.str "",.tup [o0]]] H=(aU cl kx).v [w,o0] H:=by kernel_rfl
def ir:D:=.letE (.idx (.v 0) (.k (.str "f"))) (.letE (.call "_law_bits" (aB .nil) (.cons (.v 1) (.cons (.v 2) .nil))) (.letE (.call "_law_get" (az .nil) (.cons (.v 2) (.cons (.v 3) (.cons (.v 0) .nil)))) (.letE (.call "_law_get" (az .nil) (.cons (.v 3) (.cons (.v 5) (.cons (.v 1) .nil)))) (.ex (.call "_law_put" (aC .nil) (.cons (.v 4) (.cons (.v 5) (.cons (.ite (.tst (.hold "o" (.v 3))) (.v 0) (.v 1)) .nil)))) (.k .none)))))
theorem Ai(cl:Fn→List MV→M MV)(w o0 o1:MV)(H:Hp):an T cl (fnOf "_law_do") [w,.tup [.str "cmovo",.str "",.tup [o0,o1]]] H=(aU cl ir).v [w,o0,o1] H:=by kernel_rfl
def gU:D:=.letE (.idx (.v 0) (.k (.str "f"))) (.letE (.call "_law_bits" (aB .nil) (.cons (.v 1) (.cons (.v 2) .nil))) (.ex (.call "_law_put" (aC .nil) (.cons (.v 2) (.cons (.v 3) (.cons (.ite (.tst (.hold "no" (.v 1))) (.k (.int 1)) (.k (.int 0))) .nil)))) (.k .none)))
theorem zh(cl:Fn→List MV→M MV)(w o0:MV)(H:Hp):an T cl (fnOf "_law_do") [w,.tup [.str "setno",.str "",.tup [o0]]] H=(aU cl gU).v [w,o0] H:=by kernel_rfl
def gg:D:=.letE (.idx (.v 0) (.k (.str "f"))) (.letE (.call "_law_bits" (aB .nil) (.cons (.v 1) (.cons (.v 2) .nil))) (.letE (.call "_law_get" (az .nil) (.cons (.v 2) (.cons (.v 3) (.cons (.v 0) .nil)))) (.letE (.call "_law_get" (az .nil) (.cons (.v 3) (.cons (.v 5) (.cons (.v 1) .nil)))) (.ex (.call "_law_put" (aC .nil) (.cons (.v 4) (.cons (.v 5) (.cons (.ite (.tst (.hold "no" (.v 3))) (.v 0) (.v 1)) .nil)))) (.k .none)))))
theorem xU(cl:Fn→List MV→M MV)(w o0 o1:MV)(H:Hp):an T cl (fnOf "_law_do") [w,.tup [.str "cmovno",.str "",.tup [o0,o1]]] H=(aU cl gg).v [w,o0,o1] H:=by kernel_rfl
def kN:D:=.letE (.idx (.v 0) (.k (.str "f"))) (.letE (.call "_law_bits" (aB .nil) (.cons (.v 1) (.cons (.v 2) .nil))) (.ex (.call "_law_put" (aC .nil) (.cons (.v 2) (.cons (.v 3) (.cons (.ite (.tst (.hold "b" (.v 1))) (.k (.int 1)) (.k (.int 0))) .nil)))) (.k .none)))
theorem C4(cl:Fn→List MV→M MV)(w o0:MV)(H:Hp):an T cl (fnOf "_law_do") [w,.tup [.str "setb",.str "",.tup [o0]]] H=(aU cl kN).v [w,o0] H:=by kernel_rfl
def iF:D:=.letE (.idx (.v 0) (.k (.str "f"))) (.letE (.call "_law_bits" (aB .nil) (.cons (.v 1) (.cons (.v 2) .nil))) (.letE (.call "_law_get" (az .nil) (.cons (.v 2) (.cons (.v 3) (.cons (.v 0) .nil)))) (.letE (.call "_law_get" (az .nil) (.cons (.v 3) (.cons (.v 5) (.cons (.v 1) .nil)))) (.ex (.call "_law_put" (aC .nil) (.cons (.v 4) (.cons (.v 5) (.cons (.ite (.tst (.hold "b" (.v 3))) (.v 0) (.v 1)) .nil)))) (.k .none)))))
theorem AN(cl:Fn→List MV→M MV)(w o0 o1:MV)(H:Hp):an T cl (fnOf "_law_do") [w,.tup [.str "cmovb",.str "",.tup [o0,o1]]] H=(aU cl iF).v [w,o0,o1] H:=by kernel_rfl
def iC:D:=.letE (.idx (.v 0) (.k (.str "f"))) (.letE (.call "_law_bits" (aB .nil) (.cons (.v 1) (.cons (.v 2) .nil))) (.ex (.call "_law_put" (aC .nil) (.cons (.v 2) (.cons (.v 3) (.cons (.ite (.tst (.hold "ae" (.v 1))) (.k (.int 1)) (.k (.int 0))) .nil)))) (.k .none)))
theorem yv(cl:Fn→List MV→M MV)(w o0:MV)(H:Hp):an T cl (fnOf "_law_do") [w,.tup [.str "setae",.str "",.tup [o0]]] H=(aU cl iC).v [w,o0] H:=by kernel_rfl
def gb:D:=.letE (.idx (.v 0) (.k (.str "f"))) (.letE (.call "_law_bits" (aB .nil) (.cons (.v 1) (.cons (.v 2) .nil))) (.letE (.call "_law_get" (az .nil) (.cons (.v 2) (.cons (.v 3) (.cons (.v 0) .nil)))) (.letE (.call "_law_get" (az .nil) (.cons (.v 3) (.cons (.v 5) (.cons (.v 1) .nil)))) (.ex (.call "_law_put" (aC .nil) (.cons (.v 4) (.cons (.v 5) (.cons (.ite (.tst (.hold "ae" (.v 3))) (.v 0) (.v 1)) .nil)))) (.k .none)))))
theorem xc(cl:Fn→List MV→M MV)(w o0 o1:MV)(H:Hp):an T cl (fnOf "_law_do") [w,.tup [.str "cmovae",.str "",.tup [o0,o1]]] H=(aU cl gb).v [w,o0,o1] H:=by kernel_rfl
def j3:D:=.letE (.idx (.v 0) (.k (.str "f"))) (.letE (.call "_law_bits" (aB .nil) (.cons (.v 1) (.cons (.v 2) .nil))) (.ex (.call "_law_put" (aC .nil) (.cons (.v 2) (.cons (.v 3) (.cons (.ite (.tst (.hold "e" (.v 1))) (.k (.int 1)) (.k (.int 0))) .nil)))) (.k .none)))
theorem Dw(cl:Fn→List MV→M MV)(w o0:MV)(H:Hp):an T cl (fnOf "_law_do") [w,.tup [.str "sete",.str "",.tup [o0]]] H=(aU cl j3).v [w,o0] H:=by kernel_rfl
def iy:D:=.letE (.idx (.v 0) (.k (.str "f"))) (.letE (.call "_law_bits" (aB .nil) (.cons (.v 1) (.cons (.v 2) .nil))) (.letE (.call "_law_get" (az .nil) (.cons (.v 2) (.cons (.v 3) (.cons (.v 0) .nil)))) (.letE (.call "_law_get" (az .nil) (.cons (.v 3) (.cons (.v 5) (.cons (.v 1) .nil)))) (.ex (.call "_law_put" (aC .nil) (.cons (.v 4) (.cons (.v 5) (.cons (.ite (.tst (.hold "e" (.v 3))) (.v 0) (.v 1)) .nil)))) (.k .none)))))
theorem yk(cl:Fn→List MV→M MV)(w o0 o1:MV)(H:Hp):an T cl (fnOf "_law_do") [w,.tup [.str "cmove",.str "",.tup [o0,o1]]] H=(aU cl iy).v [w,o0,o1] H:=by kernel_rfl
def iU:D:=.letE (.idx (.v 0) (.k (.str "f"))) (.letE (.call "_law_bits" (aB .nil) (.cons (.v 1) (.cons (.v 2) .nil))) (.ex (.call "_law_put" (aC .nil) (.cons (.v 2) (.cons (.v 3) (.cons (.ite (.tst (.hold "ne" (.v 1))) (.k (.int 1)) (.k (.int 0))) .nil)))) (.k .none)))
theorem zE(cl:Fn→List MV→M MV)(w o0:MV)(H:Hp):an T cl (fnOf "_law_do") [w,.tup [.str "setne",.str "",.tup [o0]]] H=(aU cl iU).v [w,o0] H:=by kernel_rfl
def gy:D:=.letE (.idx (.v 0) (.k (.str "f"))) (.letE (.call "_law_bits" (aB .nil) (.cons (.v 1) (.cons (.v 2) .nil))) (.letE (.call "_law_get" (az .nil) (.cons (.v 2) (.cons (.v 3) (.cons (.v 0) .nil)))) (.letE (.call "_law_get" (az .nil) (.cons (.v 3) (.cons (.v 5) (.cons (.v 1) .nil)))) (.ex (.call "_law_put" (aC .nil) (.cons (.v 4) (.cons (.v 5) (.cons (.ite (.tst (.hold "ne" (.v 3))) (.v 0) (.v 1)) .nil)))) (.k .none)))))
theorem wY(cl:Fn→List MV→M MV)(w o0 o1:MV)(H:Hp):an T cl (fnOf "_law_do") [w,.tup [.str "cmovne",.str "",.tup [o0,o1]]] H=(aU cl gy).v [w,o0,o1] H:=by kernel_rfl
def ij:D:=.letE (.idx (.v 0) (.k (.str "f"))) (.letE (.call "_law_bits" (aB .nil) (.cons (.v 1) (.cons (.v 2) .nil))) (.ex (.call "_law_put" (aC .nil) (.cons (.v 2) (.cons (.v 3) (.cons (.ite (.tst (.hold "be" (.v 1))) (.k (.int 1)) (.k (.int 0))) .nil)))) (.k .none)))
theorem yU(cl:Fn→List MV→M MV)(w o0:MV)(H:Hp):an T cl (fnOf "_law_do") [w,.tup [.str "setbe",.str "",.tup [o0]]] H=(aU cl ij).v [w,o0] H:=by kernel_rfl
def f0:D:=.letE (.idx (.v 0) (.k (.str "f"))) (.letE (.call "_law_bits" (aB .nil) (.cons (.v 1) (.cons (.v 2) .nil))) (.letE (.call "_law_get" (az .nil) (.cons (.v 2) (.cons (.v 3) (.cons (.v 0) .nil)))) (.letE (.call "_law_get" (az .nil) (.cons (.v 3) (.cons (.v 5) (.cons (.v 1) .nil)))) (.ex (.call "_law_put" (aC .nil) (.cons (.v 4) (.cons (.v 5) (.cons (.ite (.tst (.hold "be" (.v 3))) (.v 0) (.v 1)) .nil)))) (.k .none)))))
theorem x8(cl:Fn→List MV→M MV)(w o0 o1:MV)(H:Hp):an T cl (fnOf "_law_do") [w,.tup [.str "cmovbe",.str "",.tup [o0,o1]]] H=(aU cl f0).v [w,o0,o1] H:=by kernel_rfl
def kn:D:=.letE (.idx (.v 0) (.k (.str "f"))) (.letE (.call "_law_bits" (aB .nil) (.cons (.v 1) (.cons (.v 2) .nil))) (.ex (.call "_law_put" (aC .nil) (.cons (.v 2) (.cons (.v 3) (.cons (.ite (.tst (.hold "a" (.v 1))) (.k (.int 1)) (.k (.int 0))) .nil)))) (.k .none)))
theorem DA(cl:Fn→List MV→M MV)(w o0:MV)(H:Hp):an T cl (fnOf "_law_do") [w,.tup [.str "seta",.str "",.tup [o0]]] H=(aU cl kn).v [w,o0] H:=by kernel_rfl
def iO:D:=.letE (.idx (.v 0) (.k (.str "f"))) (.letE (.call "_law_bits" (aB .nil) (.cons (.v 1) (.cons (.v 2) .nil))) (.letE (.call "_law_get" (az .nil) (.cons (.v 2) (.cons (.v 3) (.cons (.v 0) .nil)))) (.letE (.call "_law_get" (az .nil) (.cons (.v 3) (.cons (.v 5) (.cons (.v 1) .nil)))) (.ex (.call "_law_put" (aC .nil) (.cons (.v 4) (.cons (.v 5) (.cons (.ite (.tst (.hold "a" (.v 3))) (.v 0) (.v 1)) .nil)))) (.k .none)))))
theorem yu(cl:Fn→List MV→M MV)(w o0 o1:MV)(H:Hp):an T cl (fnOf "_law_do") [w,.tup [.str "cmova",.str "",.tup [o0,o1]]] H=(aU cl iO).v [w,o0,o1] H:=by kernel_rfl
def kQ:D:=.letE (.idx (.v 0) (.k (.str "f"))) (.letE (.call "_law_bits" (aB .nil) (.cons (.v 1) (.cons (.v 2) .nil))) (.ex (.call "_law_put" (aC .nil) (.cons (.v 2) (.cons (.v 3) (.cons (.ite (.tst (.hold "s" (.v 1))) (.k (.int 1)) (.k (.int 0))) .nil)))) (.k .none)))
theorem CR(cl:Fn→List MV→M MV)(w o0:MV)(H:Hp):an T cl (fnOf "_law_do") [w,.tup [.str "sets",.str "",.tup [o0]]] H=(aU cl kQ).v [w,o0] H:=by kernel_rfl
def iG:D:=.letE (.idx (.v 0) (.k (.str "f"))) (.letE (.call "_law_bits" (aB .nil) (.cons (.v 1) (.cons (.v 2) .nil))) (.letE (.call "_law_get" (az .nil) (.cons (.v 2) (.cons (.v 3) (.cons (.v 0) .nil)))) (.letE (.call "_law_get" (az .nil) (.cons (.v 3) (.cons (.v 5) (.cons (.v 1) .nil)))) (.ex (.call "_law_put" (aC .nil) (.cons (.v 4) (.cons (.v 5) (.cons (.ite (.tst (.hold "s" (.v 3))) (.v 0) (.v 1)) .nil)))) (.k .none)))))
theorem Ae(cl:Fn→List MV→M MV)(w o0 o1:MV)(H:Hp):an T cl (fnOf "_law_do") [w,.tup [.str "cmovs",.str "",.tup [o0,o1]]] H=(aU cl iG).v [w,o0,o1] H:=by kernel_rfl
def hY:D:=.letE (.idx (.v 0) (.k (.str "f"))) (.letE (.call "_law_bits" (aB .nil) (.cons (.v 1) (.cons (.v 2) .nil))) (.ex (.call "_law_put" (aC .nil) (.cons (.v 2) (.cons (.v 3) (.cons (.ite (.tst (.hold "ns" (.v 1))) (.k (.int 1)) (.k (.int 0))) .nil)))) (.k .none)))
theorem AR(cl:Fn→List MV→M MV)(w o0:MV)(H:Hp):an T cl (fnOf "_law_do") [w,.tup [.str "setns",.str "",.tup [o0]]] H=(aU cl hY).v [w,o0] H:=by kernel_rfl
def gc:D:=.letE (.idx (.v 0) (.k (.str "f"))) (.letE (.call "_law_bits" (aB .nil) (.cons (.v 1) (.cons (.v 2) .nil))) (.letE (.call "_law_get" (az .nil) (.cons (.v 2) (.cons (.v 3) (.cons (.v 0) .nil)))) (.letE (.call "_law_get" (az .nil) (.cons (.v 3) (.cons (.v 5) (.cons (.v 1) .nil)))) (.ex (.call "_law_put" (aC .nil) (.cons (.v 4) (.cons (.v 5) (.cons (.ite (.tst (.hold "ns" (.v 3))) (.v 0) (.v 1)) .nil)))) (.k .none)))))
theorem xd(cl:Fn→List MV→M MV)(w o0 o1:MV)(H:Hp):an T cl (fnOf "_law_do") [w,.tup [.str "cmovns",.str "",.tup [o0,o1]]] H=(aU cl gc).v [w,o0,o1] H:=by kernel_rfl
def kM:D:=.letE (.idx (.v 0) (.k (.str "f"))) (.letE (.call "_law_bits" (aB .nil) (.cons (.v 1) (.cons (.v 2) .nil))) (.ex (.call "_law_put" (aC .nil) (.cons (.v 2) (.cons (.v 3) (.cons (.ite (.tst (.hold "p" (.v 1))) (.k (.int 1)) (.k (.int 0))) .nil)))) (.k .none)))
theorem De(cl:Fn→List MV→M MV)(w o0:MV)(H:Hp):an T cl (fnOf "_law_do") [w,.tup [.str "setp",.str "",.tup [o0]]] H=(aU cl kM).v [w,o0] H:=by kernel_rfl
def iw:D:=.letE (.idx (.v 0) (.k (.str "f"))) (.letE (.call "_law_bits" (aB .nil) (.cons (.v 1) (.cons (.v 2) .nil))) (.letE (.call "_law_get" (az .nil) (.cons (.v 2) (.cons (.v 3) (.cons (.v 0) .nil)))) (.letE (.call "_law_get" (az .nil) (.cons (.v 3) (.cons (.v 5) (.cons (.v 1) .nil)))) (.ex (.call "_law_put" (aC .nil) (.cons (.v 4) (.cons (.v 5) (.cons (.ite (.tst (.hold "p" (.v 3))) (.v 0) (.v 1)) .nil)))) (.k .none)))))
theorem AJ(cl:Fn→List MV→M MV)(w o0 o1:MV)(H:Hp):an T cl (fnOf "_law_do") [w,.tup [.str "cmovp",.str "",.tup [o0,o1]]] H=(aU cl iw).v [w,o0,o1] H:=by kernel_rfl
def iN:D:=.letE (.idx (.v 0) (.k (.str "f"))) (.letE (.call "_law_bits" (aB .nil) (.cons (.v 1) (.cons (.v 2) .nil))) (.ex (.call "_law_put" (aC .nil) (.cons (.v 2) (.cons (.v 3) (.cons (.ite (.tst (.hold "np" (.v 1))) (.k (.int 1)) (.k (.int 0))) .nil)))) (.k .none)))
theorem yW(cl:Fn→List MV→M MV)(w o0:MV)(H:Hp):an T cl (fnOf "_law_do") [w,.tup [.str "setnp",.str "",.tup [o0]]] H=(aU cl iN).v [w,o0] H:=by kernel_rfl
def fZ:D:=.letE (.idx (.v 0) (.k (.str "f"))) (.letE (.call "_law_bits" (aB .nil) (.cons (.v 1) (.cons (.v 2) .nil))) (.letE (.call "_law_get" (az .nil) (.cons (.v 2) (.cons (.v 3) (.cons (.v 0) .nil)))) (.letE (.call "_law_get" (az .nil) (.cons (.v 3) (.cons (.v 5) (.cons (.v 1) .nil)))) (.ex (.call "_law_put" (aC .nil) (.cons (.v 4) (.cons (.v 5) (.cons (.ite (.tst (.hold "np" (.v 3))) (.v 0) (.v 1)) .nil)))) (.k .none)))))
theorem ww(cl:Fn→List MV→M MV)(w o0 o1:MV)(H:Hp):an T cl (fnOf "_law_do") [w,.tup [.str "cmovnp",.str "",.tup [o0,o1]]] H=(aU cl fZ).v [w,o0,o1] H:=by kernel_rfl
def kA:D:=.letE (.idx (.v 0) (.k (.str "f"))) (.letE (.call "_law_bits" (aB .nil) (.cons (.v 1) (.cons (.v 2) .nil))) (.ex (.call "_law_put" (aC .nil) (.cons (.v 2) (.cons (.v 3) (.cons (.ite (.tst (.hold "l" (.v 1))) (.k (.int 1)) (.k (.int 0))) .nil)))) (.k .none)))
theorem Dy(cl:Fn→List MV→M MV)(w o0:MV)(H:Hp):an T cl (fnOf "_law_do") [w,.tup [.str "setl",.str "",.tup [o0]]] H=(aU cl kA).v [w,o0] H:=by kernel_rfl
def iD:D:=.letE (.idx (.v 0) (.k (.str "f"))) (.letE (.call "_law_bits" (aB .nil) (.cons (.v 1) (.cons (.v 2) .nil))) (.letE (.call "_law_get" (az .nil) (.cons (.v 2) (.cons (.v 3) (.cons (.v 0) .nil)))) (.letE (.call "_law_get" (az .nil) (.cons (.v 3) (.cons (.v 5) (.cons (.v 1) .nil)))) (.ex (.call "_law_put" (aC .nil) (.cons (.v 4) (.cons (.v 5) (.cons (.ite (.tst (.hold "l" (.v 3))) (.v 0) (.v 1)) .nil)))) (.k .none)))))
theorem zx(cl:Fn→List MV→M MV)(w o0 o1:MV)(H:Hp):an T cl (fnOf "_law_do") [w,.tup [.str "cmovl",.str "",.tup [o0,o1]]] H=(aU cl iD).v [w,o0,o1] H:=by kernel_rfl
def g7:D:=.letE (.idx (.v 0) (.k (.str "f"))) (.letE (.call "_law_bits" (aB .nil) (.cons (.v 1) (.cons (.v 2) .nil))) (.ex (.call "_law_put" (aC .nil) (.cons (.v 2) (.cons (.v 3) (.cons (.ite (.tst (.hold "ge" (.v 1))) (.k (.int 1)) (.k (.int 0))) .nil)))) (.k .none)))
theorem AI(cl:Fn→List MV→M MV)(w o0:MV)(H:Hp):an T cl (fnOf "_law_do") [w,.tup [.str "setge",.str "",.tup [o0]]] H=(aU cl g7).v [w,o0] H:=by kernel_rfl
def fY:D:=.letE (.idx (.v 0) (.k (.str "f"))) (.letE (.call "_law_bits" (aB .nil) (.cons (.v 1) (.cons (.v 2) .nil))) (.letE (.call "_law_get" (az .nil) (.cons (.v 2) (.cons (.v 3) (.cons (.v 0) .nil)))) (.letE (.call "_law_get" (az .nil) (.cons (.v 3) (.cons (.v 5) (.cons (.v 1) .nil)))) (.ex (.call "_law_put" (aC .nil) (.cons (.v 4) (.cons (.v 5) (.cons (.ite (.tst (.hold "ge" (.v 3))) (.v 0) (.v 1)) .nil)))) (.k .none)))))
theorem wK(cl:Fn→List MV→M MV)(w o0 o1:MV)(H:Hp):an T cl (fnOf "_law_do") [w,.tup [.str "cmovge",.str "",.tup [o0,o1]]] H=(aU cl fY).v [w,o0,o1] H:=by kernel_rfl
def g6:D:=.letE (.idx (.v 0) (.k (.str "f"))) (.letE (.call "_law_bits" (aB .nil) (.cons (.v 1) (.cons (.v 2) .nil))) (.ex (.call "_law_put" (aC .nil) (.cons (.v 2) (.cons (.v 3) (.cons (.ite (.tst (.hold "le" (.v 1))) (.k (.int 1)) (.k (.int 0))) .nil)))) (.k .none)))
theorem zw(cl:Fn→List MV→M MV)(w o0:MV)(H:Hp):an T cl (fnOf "_law_do") [w,.tup [.str "setle",.str "",.tup [o0]]] H=(aU cl g6).v [w,o0] H:=by kernel_rfl
def fS:D:=.letE (.idx (.v 0) (.k (.str "f"))) (.letE (.call "_law_bits" (aB .nil) (.cons (.v 1) (.cons (.v 2) .nil))) (.letE (.call "_law_get" (az .nil) (.cons (.v 2) (.cons (.v 3) (.cons (.v 0) .nil)))) (.letE (.call "_law_get" (az .nil) (.cons (.v 3) (.cons (.v 5) (.cons (.v 1) .nil)))) (.ex (.call "_law_put" (aC .nil) (.cons (.v 4) (.cons (.v 5) (.cons (.ite (.tst (.hold "le" (.v 3))) (.v 0) (.v 1)) .nil)))) (.k .none)))))
theorem w6(cl:Fn→List MV→M MV)(w o0 o1:MV)(H:Hp):an T cl (fnOf "_law_do") [w,.tup [.str "cmovle",.str "",.tup [o0,o1]]] H=(aU cl fS).v [w,o0,o1] H:=by kernel_rfl
def kV:D:=.letE (.idx (.v 0) (.k (.str "f"))) (.letE (.call "_law_bits" (aB .nil) (.cons (.v 1) (.cons (.v 2) .nil))) (.ex (.call "_law_put" (aC .nil) (.cons (.v 2) (.cons (.v 3) (.cons (.ite (.tst (.hold "g" (.v 1))) (.k (.int 1)) (.k (.int 0))) .nil)))) (.k .none)))
theorem C5(cl:Fn→List MV→M MV)(w o0:MV)(H:Hp):an T cl (fnOf "_law_do") [w,.tup [.str "setg",.str "",.tup [o0]]] H=(aU cl kV).v [w,o0] H:=by kernel_rfl
def iQ:D:=.letE (.idx (.v 0) (.k (.str "f"))) (.letE (.call "_law_bits" (aB .nil) (.cons (.v 1) (.cons (.v 2) .nil))) (.letE (.call "_law_get" (az .nil) (.cons (.v 2) (.cons (.v 3) (.cons (.v 0) .nil)))) (.letE (.call "_law_get" (az .nil) (.cons (.v 3) (.cons (.v 5) (.cons (.v 1) .nil)))) (.ex (.call "_law_put" (aC .nil) (.cons (.v 4) (.cons (.v 5) (.cons (.ite (.tst (.hold "g" (.v 3))) (.v 0) (.v 1)) .nil)))) (.k .none)))))
theorem yn(cl:Fn→List MV→M MV)(w o0 o1:MV)(H:Hp):an T cl (fnOf "_law_do") [w,.tup [.str "cmovg",.str "",.tup [o0,o1]]] H=(aU cl iQ).v [w,o0,o1] H:=by kernel_rfl
def iV:D:=.letE (.idx (.v 0) (.k (.str "f"))) (.set (.dct "cmc" (.pr (.str "cmc") (.op .Sub (.k (.int 1)) (.idx (.v 0) (.k (.str "cf")))) (.pr (.str "clc") (.k (.int 0)) (.pr (.str "stc") (.k (.int 1)) .nil)))) (.v 0) (.k (.str "cf")) (.k .none))
theorem yr:cW "_law_word" [none,some (.str "cmc")] iV:=fun _ _ _=>by kernel_rfl
def pS:D→D:=.tmp [none,some (.str "cmc")] "_law_word" iV
def mM:D:=.letE (.idx (.v 0) (.k (.str "f"))) (.ex (.call "_law_word" (pS .nil) (.cons (.v 1) (.cons (.k (.str "cmc")) .nil))) (.k .none))
theorem E1(cl:Fn→List MV→M MV)(w:MV)(H:Hp):an T cl (fnOf "_law_do") [w,.tup [.str "cmc",.str "",.tup []]] H=(aU cl mM).v [w] H:=by kernel_rfl
def g4:D:=.letE (.idx (.v 0) (.k (.str "f"))) (.set (.dct "clc" (.pr (.str "cmc") (.op .Sub (.k (.int 1)) (.idx (.v 0) (.k (.str "cf")))) (.pr (.str "clc") (.k (.int 0)) (.pr (.str "stc") (.k (.int 1)) .nil)))) (.v 0) (.k (.str "cf")) (.k .none))
theorem AZ:cW "_law_word" [none,some (.str "clc")] g4:=fun _ _ _=>by kernel_rfl
def rQ:D→D:=.tmp [none,some (.str "clc")] "_law_word" g4
def l0:D:=.letE (.idx (.v 0) (.k (.str "f"))) (.ex (.call "_law_word" (rQ .nil) (.cons (.v 1) (.cons (.k (.str "clc")) .nil))) (.k .none))
theorem FL(cl:Fn→List MV→M MV)(w:MV)(H:Hp):an T cl (fnOf "_law_do") [w,.tup [.str "clc",.str "",.tup []]] H=(aU cl l0).v [w] H:=by kernel_rfl
def ig:D:=.letE (.idx (.v 0) (.k (.str "f"))) (.set (.dct "stc" (.pr (.str "cmc") (.op .Sub (.k (.int 1)) (.idx (.v 0) (.k (.str "cf")))) (.pr (.str "clc") (.k (.int 0)) (.pr (.str "stc") (.k (.int 1)) .nil)))) (.v 0) (.k (.str "cf")) (.k .none))
theorem zl:cW "_law_word" [none,some (.str "stc")] ig:=fun _ _ _=>by kernel_rfl
def q0:D→D:=.tmp [none,some (.str "stc")] "_law_word" ig
def ma:D:=.letE (.idx (.v 0) (.k (.str "f"))) (.ex (.call "_law_word" (q0 .nil) (.cons (.v 1) (.cons (.k (.str "stc")) .nil))) (.k .none))
theorem GW(cl:Fn→List MV→M MV)(w:MV)(H:Hp):an T cl (fnOf "_law_do") [w,.tup [.str "stc",.str "",.tup []]] H=(aU cl ma).v [w] H:=by kernel_rfl
def g8:D:=.letE (.idx (.v 0) (.k (.str "f"))) (.set (.k (.int 0)) (.v 0) (.k (.str "df")) (.k .none))
theorem AU:cW "_law_word" [none,some (.str "cld")] g8:=fun _ _ _=>by kernel_rfl
def qQ:D→D:=.tmp [none,some (.str "cld")] "_law_word" g8
def mI:D:=.letE (.idx (.v 0) (.k (.str "f"))) (.ex (.call "_law_word" (qQ .nil) (.cons (.v 1) (.cons (.k (.str "cld")) .nil))) (.k .none))
theorem Ei(cl:Fn→List MV→M MV)(w:MV)(H:Hp):an T cl (fnOf "_law_do") [w,.tup [.str "cld",.str "",.tup []]] H=(aU cl mI).v [w] H:=by kernel_rfl
def hZ:D:=.letE (.idx (.v 0) (.k (.str "f"))) (.set (.k (.int 1)) (.v 0) (.k (.str "df")) (.k .none))
theorem zZ:cW "_law_word" [none,some (.str "std")] hZ:=fun _ _ _=>by kernel_rfl
def sn:D→D:=.tmp [none,some (.str "std")] "_law_word" hZ
def md:D:=.letE (.idx (.v 0) (.k (.str "f"))) (.ex (.call "_law_word" (sn .nil) (.cons (.v 1) (.cons (.k (.str "std")) .nil))) (.k .none))
theorem HQ(cl:Fn→List MV→M MV)(w:MV)(H:Hp):an T cl (fnOf "_law_do") [w,.tup [.str "std",.str "",.tup []]] H=(aU cl md).v [w] H:=by kernel_rfl
def fQ:D:=.letE (.idx (.v 0) (.k (.str "f"))) (.letE (.op .Add (.op .Add (.op .Add (.op .Add (.op .Add (.k (.int 2)) (.idx (.v 0) (.k (.str "cf")))) (.op .Mult (.k (.int 4)) (.idx (.v 0) (.k (.str "pf"))))) (.op .Mult (.k (.int 16)) (.idx (.v 0) (.k (.str "af"))))) (.op .Mult (.k (.int 64)) (.idx (.v 0) (.k (.str "zf"))))) (.op .Mult (.k (.int 128)) (.idx (.v 0) (.k (.str "sf"))))) (.ex (.call "_law_put" (aC .nil) (.cons (.v 2) (.cons (.k (.tup [(.str "reg"),(.str "ah")])) (.cons (.v 0) .nil)))) (.k .none)))
theorem wT:cW "_law_word" [none,some (.str "lahf")] fQ:=fun _ _ _=>by kernel_rfl
def oq:D→D:=.tmp [none,some (.str "lahf")] "_law_word" fQ
def j9:D:=.letE (.idx (.v 0) (.k (.str "f"))) (.ex (.call "_law_word" (oq .nil) (.cons (.v 1) (.cons (.k (.str "lahf")) .nil))) (.k .none))
theorem DX(cl:Fn→List MV→M MV)(w:MV)(H:Hp):an T cl (fnOf "_law_do") [w,.tup [.str "lahf",.str "",.tup []]] H=(aU cl j9).v [w] H:=by kernel_rfl
def gk:D:=.letE (.idx (.v 0) (.k (.str "f"))) (.letE (.call "_law_get" (az .nil) (.cons (.v 1) (.cons (.k (.tup [(.str "reg"),(.str "ah")])) (.cons (.k (.int 8)) .nil)))) (.set (.op .Mod (.op .FloorDiv (.v 0) (.k (.int 1))) (.k (.int 2))) (.v 1) (.k (.str "cf")) (.set (.op .Mod (.op .FloorDiv (.v 0) (.k (.int 4))) (.k (.int 2))) (.v 1) (.k (.str "pf")) (.set (.op .Mod (.op .FloorDiv (.v 0) (.k (.int 16))) (.k (.int 2))) (.v 1) (.k (.str "af")) (.set (.op .Mod (.op .FloorDiv (.v 0) (.k (.int 64))) (.k (.int 2))) (.v 1) (.k (.str "zf")) (.set (.op .Mod (.op .FloorDiv (.v 0) (.k (.int 128))) (.k (.int 2))) (.v 1) (.k (.str "sf")) (.k .none)))))))
theorem xA:cW "_law_word" [none,some (.str "sahf")] gk:=fun _ _ _=>by kernel_rfl
def oP:D→D:=.tmp [none,some (.str "sahf")] "_law_word" gk
def j4:D:=.letE (.idx (.v 0) (.k (.str "f"))) (.ex (.call "_law_word" (oP .nil) (.cons (.v 1) (.cons (.k (.str "sahf")) .nil))) (.k .none))
theorem C7(cl:Fn→List MV→M MV)(w:MV)(H:Hp):an T cl (fnOf "_law_do") [w,.tup [.str "sahf",.str "",.tup []]] H=(aU cl j4).v [w] H:=by kernel_rfl
def iq:D:=.letE (.idx (.v 0) (.k (.str "f"))) (.letE (.call "_law_sign" (d4 .nil) (.cons (.call "_law_get" (az .nil) (.cons (.v 1) (.cons (.k (.tup [(.str "reg"),(.str "al")])) (.cons (.k (.int 8)) .nil)))) (.cons (.k (.int 8)) .nil))) (.ex (.call "_law_put" (aC .nil) (.cons (.v 2) (.cons (.k (.tup [(.str "reg"),(.str "ax")])) (.cons (.v 0) .nil)))) (.k .none)))
theorem yI:cW "_law_word" [none,some (.str "cbw")] iq:=fun _ _ _=>by kernel_rfl
def pT:D→D:=.tmp [none,some (.str "cbw")] "_law_word" iq
def mu:D:=.letE (.idx (.v 0) (.k (.str "f"))) (.ex (.call "_law_word" (pT .nil) (.cons (.v 1) (.cons (.k (.str "cbw")) .nil))) (.k .none))
theorem Fr(cl:Fn→List MV→M MV)(w:MV)(H:Hp):an T cl (fnOf "_law_do") [w,.tup [.str "cbw",.str "",.tup []]] H=(aU cl mu).v [w] H:=by kernel_rfl
def gn:D:=.letE (.idx (.v 0) (.k (.str "f"))) (.letE (.call "_law_sign" (d4 .nil) (.cons (.call "_law_get" (az .nil) (.cons (.v 1) (.cons (.k (.tup [(.str "reg"),(.str "ax")])) (.cons (.k (.int 16)) .nil)))) (.cons (.k (.int 16)) .nil))) (.ex (.call "_law_put" (aC .nil) (.cons (.v 2) (.cons (.k (.tup [(.str "reg"),(.str "eax")])) (.cons (.v 0) .nil)))) (.k .none)))
theorem xI:cW "_law_word" [none,some (.str "cwde")] gn:=fun _ _ _=>by kernel_rfl
def oX:D→D:=.tmp [none,some (.str "cwde")] "_law_word" gn
def kR:D:=.letE (.idx (.v 0) (.k (.str "f"))) (.ex (.call "_law_word" (oX .nil) (.cons (.v 1) (.cons (.k (.str "cwde")) .nil))) (.k .none))
theorem Dp(cl:Fn→List MV→M MV)(w:MV)(H:Hp):an T cl (fnOf "_law_do") [w,.tup [.str "cwde",.str "",.tup []]] H=(aU cl kR).v [w] H:=by kernel_rfl
def fU:D:=.letE (.idx (.v 0) (.k (.str "f"))) (.letE (.call "_law_sign" (d4 .nil) (.cons (.call "_law_get" (az .nil) (.cons (.v 1) (.cons (.k (.tup [(.str "reg"),(.str "eax")])) (.cons (.k (.int 32)) .nil)))) (.cons (.k (.int 32)) .nil))) (.ex (.call "_law_put" (aC .nil) (.cons (.v 2) (.cons (.k (.tup [(.str "reg"),(.str "rax")])) (.cons (.v 0) .nil)))) (.k .none)))
theorem xt:cW "_law_word" [none,some (.str "cdqe")] fU:=fun _ _ _=>by kernel_rfl
def oR:D→D:=.tmp [none,some (.str "cdqe")] "_law_word" fU
def kL:D:=.letE (.idx (.v 0) (.k (.str "f"))) (.ex (.call "_law_word" (oR .nil) (.cons (.v 1) (.cons (.k (.str "cdqe")) .nil))) (.k .none))
theorem Dl(cl:Fn→List MV→M MV)(w:MV)(H:Hp):an T cl (fnOf "_law_do") [w,.tup [.str "cdqe",.str "",.tup []]] H=(aU cl kL).v [w] H:=by kernel_rfl
def iB:D:=.letE (.idx (.v 0) (.k (.str "f"))) (.letE (.call "_law_sign" (d4 .nil) (.cons (.call "_law_get" (az .nil) (.cons (.v 1) (.cons (.k (.tup [(.str "reg"),(.str "ax")])) (.cons (.k (.int 16)) .nil)))) (.cons (.k (.int 16)) .nil))) (.ex (.call "_law_put" (aC .nil) (.cons (.v 2) (.cons (.k (.tup [(.str "reg"),(.str "dx")])) (.cons (.op .FloorDiv (.v 0) (.k (.int 65536))) .nil)))) (.k .none)))
theorem yh:cW "_law_word" [none,some (.str "cwd")] iB:=fun _ _ _=>by kernel_rfl
def qW:D→D:=.tmp [none,some (.str "cwd")] "_law_word" iB
def l5:D:=.letE (.idx (.v 0) (.k (.str "f"))) (.ex (.call "_law_word" (qW .nil) (.cons (.v 1) (.cons (.k (.str "cwd")) .nil))) (.k .none))
theorem E4(cl:Fn→List MV→M MV)(w:MV)(H:Hp):an T cl (fnOf "_law_do") [w,.tup [.str "cwd",.str "",.tup []]] H=(aU cl l5).v [w] H:=by kernel_rfl
def ik:D:=.letE (.idx (.v 0) (.k (.str "f"))) (.letE (.call "_law_sign" (d4 .nil) (.cons (.call "_law_get" (az .nil) (.cons (.v 1) (.cons (.k (.tup [(.str "reg"),(.str "eax")])) (.cons (.k (.int 32)) .nil)))) (.cons (.k (.int 32)) .nil))) (.ex (.call "_law_put" (aC .nil) (.cons (.v 2) (.cons (.k (.tup [(.str "reg"),(.str "edx")])) (.cons (.op .FloorDiv (.v 0) (.k (.int 4294967296))) .nil)))) (.k .none)))
theorem yE:cW "_law_word" [none,some (.str "cdq")] ik:=fun _ _ _=>by kernel_rfl
def rY:D→D:=.tmp [none,some (.str "cdq")] "_law_word" ik
def nh:D:=.letE (.idx (.v 0) (.k (.str "f"))) (.ex (.call "_law_word" (rY .nil) (.cons (.v 1) (.cons (.k (.str "cdq")) .nil))) (.k .none))
theorem Fg(cl:Fn→List MV→M MV)(w:MV)(H:Hp):an T cl (fnOf "_law_do") [w,.tup [.str "cdq",.str "",.tup []]] H=(aU cl nh).v [w] H:=by kernel_rfl
def iA:D:=.letE (.idx (.v 0) (.k (.str "f"))) (.letE (.call "_law_sign" (d4 .nil) (.cons (.call "_law_get" (az .nil) (.cons (.v 1) (.cons (.k (.tup [(.str "reg"),(.str "rax")])) (.cons (.k (.int 64)) .nil)))) (.cons (.k (.int 64)) .nil))) (.ex (.call "_law_put" (aC .nil) (.cons (.v 2) (.cons (.k (.tup [(.str "reg"),(.str "rdx")])) (.cons (.op .FloorDiv (.v 0) (.k (.int 18446744073709551616))) .nil)))) (.k .none)))
theorem AC:cW "_law_word" [none,some (.str "cqo")] iA:=fun _ _ _=>by kernel_rfl
def q8:D→D:=.tmp [none,some (.str "cqo")] "_law_word" iA
def mG:D:=.letE (.idx (.v 0) (.k (.str "f"))) (.ex (.call "_law_word" (q8 .nil) (.cons (.v 1) (.cons (.k (.str "cqo")) .nil))) (.k .none))
theorem Hw(cl:Fn→List MV→M MV)(w:MV)(H:Hp):an T cl (fnOf "_law_do") [w,.tup [.str "cqo",.str "",.tup []]] H=(aU cl mG).v [w] H:=by kernel_rfl
def iW:D:=.letE (.idx (.v 0) (.k (.str "f"))) (.k .none)
theorem yH:cW "_law_word" [none,some (.str "nop")] iW:=fun _ _ _=>by kernel_rfl
def pZ:D→D:=.tmp [none,some (.str "nop")] "_law_word" iW
def m6:D:=.letE (.idx (.v 0) (.k (.str "f"))) (.ex (.call "_law_word" (pZ .nil) (.cons (.v 1) (.cons (.k (.str "nop")) .nil))) (.k .none))
theorem Ew(cl:Fn→List MV→M MV)(w:MV)(H:Hp):an T cl (fnOf "_law_do") [w,.tup [.str "nop",.str "",.tup []]] H=(aU cl m6).v [w] H:=by kernel_rfl
def dK:D:=.letE (.ite (.cmp .Eq (.idx (.idx (.v 0) (.k (.str "f"))) (.k (.str "df"))) (.k (.int 1))) (.k (.int (-1))) (.k (.int 1))) (.letE (.call "_law_get" (az .nil) (.cons (.v 1) (.cons (.k (.tup [(.str "reg"),(.str "rdi")])) (.cons (.k (.int 64)) .nil)))) (.ex (.call "_law_store" (d6 (d7 (d9 (eu .nil)))) (.cons (.v 2) (.cons (.v 0) (.cons (.k (.int 1)) (.cons (.call "_law_get" (az .nil) (.cons (.v 2) (.cons (.k (.tup [(.str "reg"),(.str "al")])) (.cons (.k (.int 8)) .nil)))) .nil))))) (.ex (.call "_law_put" (aC .nil) (.cons (.v 2) (.cons (.k (.tup [(.str "reg"),(.str "rdi")])) (.cons (.op .Add (.v 0) (.v 1)) .nil)))) (.k .none))))
theorem qI:cW "_law_string" [none,some (.str "stosb")] dK:=fun _ _ _=>by kernel_rfl
def jE:D→D:=.tmp [none,some (.str "stosb")] "_law_string" dK
def fc:D:=.letE (.idx (.v 0) (.k (.str "f"))) (.ex (.call "_law_string" (jE .nil) (.cons (.v 1) (.cons (.k (.str "stosb")) .nil))) (.k .none))
theorem uG:cW "_law_word" [none,some (.str "stosb")] fc:=fun _ _ _=>by kernel_rfl
def nk:D→D:=.tmp [none,some (.str "stosb")] "_law_word" fc
def ip:D:=.letE (.idx (.v 0) (.k (.str "f"))) (.ex (.call "_law_word" (nk .nil) (.cons (.v 1) (.cons (.k (.str "stosb")) .nil))) (.k .none))
theorem yD(cl:Fn→List MV→M MV)(w:MV)(H:Hp):an T cl (fnOf "_law_do") [w,.tup [.str "stosb",.str "",.tup []]] H=(aU cl ip).v [w] H:=by kernel_rfl
def dF:D:=.letE (.ite (.cmp .Eq (.idx (.idx (.v 0) (.k (.str "f"))) (.k (.str "df"))) (.k (.int 1))) (.k (.int (-2))) (.k (.int 2))) (.letE (.call "_law_get" (az .nil) (.cons (.v 1) (.cons (.k (.tup [(.str "reg"),(.str "rdi")])) (.cons (.k (.int 64)) .nil)))) (.ex (.call "_law_store" (d6 (d7 (d9 (eu .nil)))) (.cons (.v 2) (.cons (.v 0) (.cons (.k (.int 2)) (.cons (.call "_law_get" (az .nil) (.cons (.v 2) (.cons (.k (.tup [(.str "reg"),(.str "ax")])) (.cons (.k (.int 16)) .nil)))) .nil))))) (.ex (.call "_law_put" (aC .nil) (.cons (.v 2) (.cons (.k (.tup [(.str "reg"),(.str "rdi")])) (.cons (.op .Add (.v 0) (.v 1)) .nil)))) (.k .none))))
theorem pV:cW "_law_string" [none,some (.str "stosw")] dF:=fun _ _ _=>by kernel_rfl
def jw:D→D:=.tmp [none,some (.str "stosw")] "_law_string" dF
def fi:D:=.letE (.idx (.v 0) (.k (.str "f"))) (.ex (.call "_law_string" (jw .nil) (.cons (.v 1) (.cons (.k (.str "stosw")) .nil))) (.k .none))
theorem vh:cW "_law_word" [none,some (.str "stosw")] fi:=fun _ _ _=>by kernel_rfl
def my:D→D:=.tmp [none,some (.str "stosw")] "_law_word" fi
def hU:D:=.letE (.idx (.v 0) (.k (.str "f"))) (.ex (.call "_law_word" (my .nil) (.cons (.v 1) (.cons (.k (.str "stosw")) .nil))) (.k .none))
theorem zu(cl:Fn→List MV→M MV)(w:MV)(H:Hp):an T cl (fnOf "_law_do") [w,.tup [.str "stosw",.str "",.tup []]] H=(aU cl hU).v [w] H:=by kernel_rfl
def dJ:D:=.letE (.ite (.cmp .Eq (.idx (.idx (.v 0) (.k (.str "f"))) (.k (.str "df"))) (.k (.int 1))) (.k (.int (-4))) (.k (.int 4))) (.letE (.call "_law_get" (az .nil) (.cons (.v 1) (.cons (.k (.tup [(.str "reg"),(.str "rdi")])) (.cons (.k (.int 64)) .nil)))) (.ex (.call "_law_store" (d6 (d7 (d9 (eu .nil)))) (.cons (.v 2) (.cons (.v 0) (.cons (.k (.int 4)) (.cons (.call "_law_get" (az .nil) (.cons (.v 2) (.cons (.k (.tup [(.str "reg"),(.str "eax")])) (.cons (.k (.int 32)) .nil)))) .nil))))) (.ex (.call "_law_put" (aC .nil) (.cons (.v 2) (.cons (.k (.tup [(.str "reg"),(.str "rdi")])) (.cons (.op .Add (.v 0) (.v 1)) .nil)))) (.k .none))))
theorem rq:cW "_law_string" [none,some (.str "stosd")] dJ:=fun _ _ _=>by kernel_rfl
def jG:D→D:=.tmp [none,some (.str "stosd")] "_law_string" dJ
def eW:D:=.letE (.idx (.v 0) (.k (.str "f"))) (.ex (.call "_law_string" (jG .nil) (.cons (.v 1) (.cons (.k (.str "stosd")) .nil))) (.k .none))
theorem u5:cW "_law_word" [none,some (.str "stosd")] eW:=fun _ _ _=>by kernel_rfl
def nA:D→D:=.tmp [none,some (.str "stosd")] "_law_word" eW
def iu:D:=.letE (.idx (.v 0) (.k (.str "f"))) (.ex (.call "_law_word" (nA .nil) (.cons (.v 1) (.cons (.k (.str "stosd")) .nil))) (.k .none))
theorem zr(cl:Fn→List MV→M MV)(w:MV)(H:Hp):an T cl (fnOf "_law_do") [w,.tup [.str "stosd",.str "",.tup []]] H=(aU cl iu).v [w] H:=by kernel_rfl
def dT:D:=.letE (.ite (.cmp .Eq (.idx (.idx (.v 0) (.k (.str "f"))) (.k (.str "df"))) (.k (.int 1))) (.k (.int (-8))) (.k (.int 8))) (.letE (.call "_law_get" (az .nil) (.cons (.v 1) (.cons (.k (.tup [(.str "reg"),(.str "rdi")])) (.cons (.k (.int 64)) .nil)))) (.ex (.call "_law_store" (d6 (d7 (d9 (eu .nil)))) (.cons (.v 2) (.cons (.v 0) (.cons (.k (.int 8)) (.cons (.call "_law_get" (az .nil) (.cons (.v 2) (.cons (.k (.tup [(.str "reg"),(.str "rax")])) (.cons (.k (.int 64)) .nil)))) .nil))))) (.ex (.call "_law_put" (aC .nil) (.cons (.v 2) (.cons (.k (.tup [(.str "reg"),(.str "rdi")])) (.cons (.op .Add (.v 0) (.v 1)) .nil)))) (.k .none))))
theorem rC:cW "_law_string" [none,some (.str "stosq")] dT:=fun _ _ _=>by kernel_rfl
def jS:D→D:=.tmp [none,some (.str "stosq")] "_law_string" dT
def ft:D:=.letE (.idx (.v 0) (.k (.str "f"))) (.ex (.call "_law_string" (jS .nil) (.cons (.v 1) (.cons (.k (.str "stosq")) .nil))) (.k .none))
theorem uL:cW "_law_word" [none,some (.str "stosq")] ft:=fun _ _ _=>by kernel_rfl
def mL:D→D:=.tmp [none,some (.str "stosq")] "_law_word" ft
def iz:D:=.letE (.idx (.v 0) (.k (.str "f"))) (.ex (.call "_law_word" (mL .nil) (.cons (.v 1) (.cons (.k (.str "stosq")) .nil))) (.k .none))
theorem zc(cl:Fn→List MV→M MV)(w:MV)(H:Hp):an T cl (fnOf "_law_do") [w,.tup [.str "stosq",.str "",.tup []]] H=(aU cl iz).v [w] H:=by kernel_rfl
def dQ:D:=.letE (.ite (.cmp .Eq (.idx (.idx (.v 0) (.k (.str "f"))) (.k (.str "df"))) (.k (.int 1))) (.k (.int (-1))) (.k (.int 1))) (.letE (.call "_law_get" (az .nil) (.cons (.v 1) (.cons (.k (.tup [(.str "reg"),(.str "rsi")])) (.cons (.k (.int 64)) .nil)))) (.ex (.call "_law_put" (aC .nil) (.cons (.v 2) (.cons (.k (.tup [(.str "reg"),(.str "al")])) (.cons (.call "_law_load" (lA .nil) (.cons (.v 2) (.cons (.v 0) (.cons (.k (.int 1)) .nil)))) .nil)))) (.ex (.call "_law_put" (aC .nil) (.cons (.v 2) (.cons (.k (.tup [(.str "reg"),(.str "rsi")])) (.cons (.op .Add (.v 0) (.v 1)) .nil)))) (.k .none))))
theorem rW:cW "_law_string" [none,some (.str "lodsb")] dQ:=fun _ _ _=>by kernel_rfl
def jZ:D→D:=.tmp [none,some (.str "lodsb")] "_law_string" dQ
def fm:D:=.letE (.idx (.v 0) (.k (.str "f"))) (.ex (.call "_law_string" (jZ .nil) (.cons (.v 1) (.cons (.k (.str "lodsb")) .nil))) (.k .none))
theorem uJ:cW "_law_word" [none,some (.str "lodsb")] fm:=fun _ _ _=>by kernel_rfl
def nw:D→D:=.tmp [none,some (.str "lodsb")] "_law_word" fm
def g0:D:=.letE (.idx (.v 0) (.k (.str "f"))) (.ex (.call "_law_word" (nw .nil) (.cons (.v 1) (.cons (.k (.str "lodsb")) .nil))) (.k .none))
theorem zW(cl:Fn→List MV→M MV)(w:MV)(H:Hp):an T cl (fnOf "_law_do") [w,.tup [.str "lodsb",.str "",.tup []]] H=(aU cl g0).v [w] H:=by kernel_rfl
def dD:D:=.letE (.ite (.cmp .Eq (.idx (.idx (.v 0) (.k (.str "f"))) (.k (.str "df"))) (.k (.int 1))) (.k (.int (-2))) (.k (.int 2))) (.letE (.call "_law_get" (az .nil) (.cons (.v 1) (.cons (.k (.tup [(.str "reg"),(.str "rsi")])) (.cons (.k (.int 64)) .nil)))) (.ex (.call "_law_put" (aC .nil) (.cons (.v 2) (.cons (.k (.tup [(.str "reg"),(.str "ax")])) (.cons (.call "_law_load" (lA .nil) (.cons (.v 2) (.cons (.v 0) (.cons (.k (.int 2)) .nil)))) .nil)))) (.ex (.call "_law_put" (aC .nil) (.cons (.v 2) (.cons (.k (.tup [(.str "reg"),(.str "rsi")])) (.cons (.op .Add (.v 0) (.v 1)) .nil)))) (.k .none))))
theorem rJ:cW "_law_string" [none,some (.str "lodsw")] dD:=fun _ _ _=>by kernel_rfl
def jq:D→D:=.tmp [none,some (.str "lodsw")] "_law_string" dD
def fe:D:=.letE (.idx (.v 0) (.k (.str "f"))) (.ex (.call "_law_string" (jq .nil) (.cons (.v 1) (.cons (.k (.str "lodsw")) .nil))) (.k .none))
theorem vx:cW "_law_word" [none,some (.str "lodsw")] fe:=fun _ _ _=>by kernel_rfl
def mE:D→D:=.tmp [none,some (.str "lodsw")] "_law_word" fe
def gY:D:=.letE (.idx (.v 0) (.k (.str "f"))) (.ex (.call "_law_word" (mE .nil) (.cons (.v 1) (.cons (.k (.str "lodsw")) .nil))) (.k .none))
theorem AX(cl:Fn→List MV→M MV)(w:MV)(H:Hp):an T cl (fnOf "_law_do") [w,.tup [.str "lodsw",.str "",.tup []]] H=(aU cl gY).v [w] H:=by kernel_rfl
def dL:D:=.letE (.ite (.cmp .Eq (.idx (.idx (.v 0) (.k (.str "f"))) (.k (.str "df"))) (.k (.int 1))) (.k (.int (-4))) (.k (.int 4))) (.letE (.call "_law_get" (az .nil) (.cons (.v 1) (.cons (.k (.tup [(.str "reg"),(.str "rsi")])) (.cons (.k (.int 64)) .nil)))) (.ex (.call "_law_put" (aC .nil) (.cons (.v 2) (.cons (.k (.tup [(.str "reg"),(.str "eax")])) (.cons (.call "_law_load" (lA .nil) (.cons (.v 2) (.cons (.v 0) (.cons (.k (.int 4)) .nil)))) .nil)))) (.ex (.call "_law_put" (aC .nil) (.cons (.v 2) (.cons (.k (.tup [(.str "reg"),(.str "rsi")])) (.cons (.op .Add (.v 0) (.v 1)) .nil)))) (.k .none))))
theorem p7:cW "_law_string" [none,some (.str "lodsd")] dL:=fun _ _ _=>by kernel_rfl
def jj:D→D:=.tmp [none,some (.str "lodsd")] "_law_string" dL
def fr:D:=.letE (.idx (.v 0) (.k (.str "f"))) (.ex (.call "_law_string" (jj .nil) (.cons (.v 1) (.cons (.k (.str "lodsd")) .nil))) (.k .none))
theorem uY:cW "_law_word" [none,some (.str "lodsd")] fr:=fun _ _ _=>by kernel_rfl
def mO:D→D:=.tmp [none,some (.str "lodsd")] "_law_word" fr
def iS:D:=.letE (.idx (.v 0) (.k (.str "f"))) (.ex (.call "_law_word" (mO .nil) (.cons (.v 1) (.cons (.k (.str "lodsd")) .nil))) (.k .none))
theorem yR(cl:Fn→List MV→M MV)(w:MV)(H:Hp):an T cl (fnOf "_law_do") [w,.tup [.str "lodsd",.str "",.tup []]] H=(aU cl iS).v [w] H:=by kernel_rfl
def dH:D:=.letE (.ite (.cmp .Eq (.idx (.idx (.v 0) (.k (.str "f"))) (.k (.str "df"))) (.k (.int 1))) (.k (.int (-8))) (.k (.int 8))) (.letE (.call "_law_get" (az .nil) (.cons (.v 1) (.cons (.k (.tup [(.str "reg"),(.str "rsi")])) (.cons (.k (.int 64)) .nil)))) (.ex (.call "_law_put" (aC .nil) (.cons (.v 2) (.cons (.k (.tup [(.str "reg"),(.str "rax")])) (.cons (.call "_law_load" (lA .nil) (.cons (.v 2) (.cons (.v 0) (.cons (.k (.int 8)) .nil)))) .nil)))) (.ex (.call "_law_put" (aC .nil) (.cons (.v 2) (.cons (.k (.tup [(.str "reg"),(.str "rsi")])) (.cons (.op .Add (.v 0) (.v 1)) .nil)))) (.k .none))))
theorem qx:cW "_law_string" [none,some (.str "lodsq")] dH:=fun _ _ _=>by kernel_rfl
def jX:D→D:=.tmp [none,some (.str "lodsq")] "_law_string" dH
def fb:D:=.letE (.idx (.v 0) (.k (.str "f"))) (.ex (.call "_law_string" (jX .nil) (.cons (.v 1) (.cons (.k (.str "lodsq")) .nil))) (.k .none))
theorem vq:cW "_law_word" [none,some (.str "lodsq")] fb:=fun _ _ _=>by kernel_rfl
def m7:D→D:=.tmp [none,some (.str "lodsq")] "_law_word" fb
def gZ:D:=.letE (.idx (.v 0) (.k (.str "f"))) (.ex (.call "_law_word" (m7 .nil) (.cons (.v 1) (.cons (.k (.str "lodsq")) .nil))) (.k .none))
theorem AF(cl:Fn→List MV→M MV)(w:MV)(H:Hp):an T cl (fnOf "_law_do") [w,.tup [.str "lodsq",.str "",.tup []]] H=(aU cl gZ).v [w] H:=by kernel_rfl
structure NE where
 nm:Str
 ar:Nat
 lk:Nat
 st:Nat
 d:D
def kY:List NE:=[⟨"adc",2,1,63,mh⟩,⟨"add",2,0,63,mx⟩,⟨"sub",2,0,63,ni⟩,⟨"sbb",2,1,63,lY⟩,⟨"and",2,0,63,mt⟩,⟨"or",2,0,63,pC⟩,⟨"xor",2,0,63,ng⟩,⟨"cmp",2,0,63,nB⟩,⟨"test",2,0,63,j8⟩,⟨"inc",1,0,62,mr⟩,⟨"dec",1,0,62,mw⟩,⟨"neg",1,0,63,lX⟩,⟨"not",1,0,0,mR⟩,⟨"mov",2,0,0,mN⟩,⟨"lea",2,0,0,mz⟩,⟨"movzx",2,0,0,iM⟩,⟨"movsx",2,0,0,g5⟩,⟨"xchg",2,0,0,kD⟩,⟨"shl",2,0,63,lZ⟩,⟨"shr",2,0,63,mY⟩,⟨"sar",2,0,63,mQ⟩,⟨"rol",2,0,33,mA⟩,⟨"ror",2,0,33,mH⟩,⟨"mul",1,0,63,nc⟩,⟨"imul",3,0,63,j6⟩,⟨"seto",1,32,0,kx⟩,⟨"setno",1,32,0,gU⟩,⟨"setb",1,1,0,kN⟩,⟨"setae",1,1,0,iC⟩,⟨"sete",1,8,0,j3⟩,⟨"setne",1,8,0,iU⟩,⟨"setbe",1,9,0,ij⟩,⟨"seta",1,9,0,kn⟩,⟨"sets",1,16,0,kQ⟩,⟨"setns",1,16,0,hY⟩,⟨"setp",1,2,0,kM⟩,⟨"setnp",1,2,0,iN⟩,⟨"setl",1,48,0,kA⟩,⟨"setge",1,48,0,g7⟩,⟨"setle",1,56,0,g6⟩,⟨"setg",1,56,0,kV⟩,⟨"cmovo",2,32,0,ir⟩,⟨"cmovno",2,32,0,gg⟩,⟨"cmovb",2,1,0,iF⟩,⟨"cmovae",2,1,0,gb⟩,⟨"cmove",2,8,0,iy⟩,⟨"cmovne",2,8,0,gy⟩,⟨"cmovbe",2,9,0,f0⟩,⟨"cmova",2,9,0,iO⟩,⟨"cmovs",2,16,0,iG⟩,⟨"cmovns",2,16,0,gc⟩,⟨"cmovp",2,2,0,iw⟩,⟨"cmovnp",2,2,0,fZ⟩,⟨"cmovl",2,48,0,iD⟩,⟨"cmovge",2,48,0,fY⟩,⟨"cmovle",2,56,0,fS⟩,⟨"cmovg",2,56,0,iQ⟩,⟨"cmc",0,1,1,mM⟩,⟨"clc",0,0,1,l0⟩,⟨"stc",0,0,1,ma⟩,⟨"cld",0,0,64,mI⟩,⟨"std",0,0,64,md⟩,⟨"lahf",0,31,0,j9⟩,⟨"sahf",0,0,31,j4⟩,⟨"cbw",0,0,0,mu⟩,⟨"cwde",0,0,0,kR⟩,⟨"cdqe",0,0,0,kL⟩,⟨"cwd",0,0,0,l5⟩,⟨"cdq",0,0,0,nh⟩,⟨"cqo",0,0,0,mG⟩,⟨"nop",0,0,0,m6⟩,⟨"stosb",0,64,0,ip⟩,⟨"stosw",0,64,0,hU⟩,⟨"stosd",0,64,0,iu⟩,⟨"stosq",0,64,0,iz⟩,⟨"lodsb",0,64,0,g0⟩,⟨"lodsw",0,64,0,gY⟩,⟨"lodsd",0,64,0,iS⟩,⟨"lodsq",0,64,0,gZ⟩,⟨"push",1,0,0,kw⟩,⟨"pop",1,0,0,l8⟩,⟨"bswap",1,0,0,iI⟩,⟨"bt",2,0,55,pN⟩]
inductive SO where
 |reg (z:Nat)
 |ah
 |mem (x:Bool) (z:Nat)
 |imm (a b:Int)
 |immK (v:Nat)
def sA(x:Str):AV:=.c (.str x)
def SO.av(k:Nat):SO→AV
 |.reg _=>.t [sA "reg",.s k]
 |.ah=>.t [sA "reg",sA "ah"]
 |.mem false z=>.t [sA "mem",.s k,sA "",.c (.int 1),.i (-16) 16 0,.c (.int z),sA "",sA ""]
 |.mem true z=>.t [sA "mem",.s k,.s (k+1),.c (.int 4),.i (-16) 16 0,.c (.int z),sA "",sA ""]
 |.imm a b=>.t [sA "imm",.i a b 0,sA ""]
 |.immK v=>.t [sA "imm",.c (.int v),sA ""]
def MW:Nat→List SO→List AV
 |_,[]=>[]
 |k,o::r=>o.av k::MW (k+2) r
def SO.gm:SO→Int×Int
 |.reg z=>(z,0)
 |_=>(64,0)
def MD:List SO→Nat→Int×Int
 |[],_=>(64,0)
 |o::_,0=>o.gm
 |_::_,1=>(64,0)
 |_::r,k+2=>MD r k
def GP:AW:=⟨0,0,0,[.i 0 1 1,.i 0 1 2,.i 0 1 4,.i 0 1 8,.i 0 1 16,.i 0 1 32,.i 0 1 64],[],[],false,false,0⟩
def uK(n:NE)(os:List SO):Option (AV×AW):=(cw (MD os) n.d).v (.r 0::MW 0 os) GP
def oT(i:Nat)(n:NE)(os:List SO):Nat:=bif Nat.ble 18 i&&Nat.ble i 22 then (match os with
 |[o,.immK v]=>bif (match o with
  |.reg 64|.mem _ 64=>v % 64
  |_=>v % 32)==0 then 0 else n.st
 |_=>0) else n.st
def sub(a b:Nat):Bool:=Nat.land a b==a
def Kg(lk st:Nat):Nat→List AV→Bool
 |_,[]=>true
 |p,x::r=>(match oj x with
  |some (a,b,d)=>decide (0≤a)&&decide (b≤1)&&sub d (bif Nat.land st p==0 then Nat.lor lk p else lk)
  |none=>false)&&Kg lk st (2 * p) r
def GU(lk st:Nat)(x:Option (AV×AW)):Bool:=match x with
 |some (.c .none,w)=>sub w.r lk&&sub w.m lk&&Nat.ble w.mn 8&&Nat.ble w.rd.length 20&&Nat.ble w.st.length 20&&Kg lk st 1 w.f
 |_=>false
def eM(z:Nat):List SO:=bif z==8 then [.mem false 8,.mem true 8,.reg 8,.ah] else [.mem false z,.mem true z,.reg z]
def nO(z:Nat):List SO:=bif z==8 then [.reg 8,.ah] else [.reg z]
def yJ(z:Nat):List SO:=[.mem false z,.mem true z]
def aL:List Nat:=[64,32,16,8]
def ll:List Nat:=[64,32,16]
def ul:List SO:=[.reg 8,.immK 0,.immK 1,.immK 3,.immK 7,.immK 32,.immK 64]
def qe(a b:List SO):List (List SO):=a.flatMap fun x=>b.map fun y=>[x,y]
def CH(a:List SO):List (List SO):=a.map fun x=>[x]
def fO:List (Nat×Nat×List (List SO)):=
 [(0,9,aL.flatMap fun z=>qe (eM z) (.imm (-128) 127::nO z)),
  (9,4,aL.flatMap fun z=>CH (eM z)),
  (13,1,aL.flatMap fun z=>qe (nO z) (eM z)),(13,1,aL.flatMap fun z=>qe (eM z) [.imm 0 127]),
  (14,1,ll.flatMap fun z=>qe [.reg z] (yJ 0)),
  (15,2,[64,32].flatMap fun z=>[8,16].flatMap fun y=>qe [.reg z] (eM y)),
  (17,1,aL.flatMap fun z=>qe (eM z) (nO z)),
  (13,1,aL.flatMap fun z=>qe (yJ z) (nO z)),
  (18,5,aL.flatMap fun z=>qe (eM z) ul),
  (23,1,aL.flatMap fun z=>CH (eM z)),
  (24,1,ll.flatMap fun z=>(eM z).map fun o=>[.reg z,o,.imm 0 127]),
  (25,16,CH (eM 8)),
  (41,16,ll.flatMap fun z=>qe [.reg z] (eM z)),
  (57,22,[[]]),
  (79,2,[64,16].flatMap fun z=>CH (eM z)),
  (81,1,CH [.reg 64,.reg 32]),
  (82,1,ll.flatMap fun z=>qe (eM z) [.imm 0 15])]
theorem kF(a b:Int):jP a b≤a:=by unfold jP;by_cases h:a≤b<;>simp[h];omega
theorem kW(a b:Int):jP a b≤b:=by unfold jP;by_cases h:a≤b<;>simp[h]
theorem ku(a b:Int):a≤jY a b:=by unfold jY;by_cases h:a≤b<;>simp[h]
theorem ko(a b:Int):b≤jY a b:=by unfold jY;by_cases h:a≤b<;>simp[h];omega
theorem Bo{z:Int}(h:bd z=true):-(2 ^ 2000)≤z∧z≤2 ^ 2000:=by
 unfold bd at h
 rw[Bool.and_eq_true] at h
 exact⟨of_decide_eq_true h.1,of_decide_eq_true h.2⟩
theorem cX{z:Int}(h:jh z=true):0≤z∧z≤18446744073709551615:=by
 unfold jh at h
 rw[Bool.and_eq_true] at h
 exact⟨of_decide_eq_true h.1,of_decide_eq_true h.2⟩
theorem KM{a b x:Int}(ha:bd a=true)(hb:bd b=true)(h1:a≤x)(h2:x≤b):sm x=true:=rI ⟨Int.le_trans (Bo ha).1 h1,Int.le_trans h2 (Bo hb).2⟩
theorem vr{a b x:Int}(h1:a≤x)(h2:x≤b)(y:Int):jP (a * y) (b * y)≤x * y∧x * y≤jY (a * y) (b * y):=by
 by_cases hy:0≤y
 ·exact⟨Int.le_trans (kF _ _) (Int.mul_le_mul_of_nonneg_right h1 hy),Int.le_trans (Int.mul_le_mul_of_nonneg_right h2 hy) (ko _ _)⟩
 ·have hy:y≤0:=by omega
  exact⟨Int.le_trans (kW _ _) (Int.mul_le_mul_of_nonpos_right h2 hy),Int.le_trans (Int.mul_le_mul_of_nonpos_right h1 hy) (ku _ _)⟩
theorem CF{a b c d:Int}(h1:a≤c)(h2:b≤d):jP a b≤jP c d:=by
 unfold jP;by_cases h:a≤b<;>by_cases h':c≤d<;>simp[h,h']<;>omega
theorem CC{a b c d:Int}(h1:a≤c)(h2:b≤d):jY a b≤jY c d:=by
 unfold jY;by_cases h:a≤b<;>by_cases h':c≤d<;>simp[h,h']<;>omega
theorem Fp{a b x c d y:Int}(h1:a≤x)(h2:x≤b)(h3:c≤y)(h4:y≤d):jP (jP (a * c) (a * d)) (jP (b * c) (b * d))≤x * y∧x * y≤jY (jY (a * c) (a * d)) (jY (b * c) (b * d)):=by
 have k:=vr h1 h2 y
 have ka:=vr h3 h4 a
 have kb:=vr h3 h4 b
 rw[Int.mul_comm c a,Int.mul_comm d a,Int.mul_comm y a] at ka
 rw[Int.mul_comm c b,Int.mul_comm d b,Int.mul_comm y b] at kb
 exact⟨Int.le_trans (CF ka.1 kb.1) k.1,Int.le_trans k.2 (CC ka.2 kb.2)⟩
theorem II{a b x y:Int}(h1:a≤x)(h2:x≤b)(hy:1≤y):jP a 0≤x / y∧x / y≤jY b 0:=by
 by_cases hx:0≤x
 ·have e1:0≤x / y:=Int.ediv_nonneg hx (by omega)
  have e2:x / y≤x:=Int.ediv_le_self y hx
  exact⟨Int.le_trans (kW _ _) e1,Int.le_trans (Int.le_trans e2 h2) (ku _ _)⟩
 ·have hx:x < 0:=by omega
  have e1:x≤x / y:=by
   rw[Int.le_ediv_iff_mul_le (by omega)]
   have:=Int.mul_le_mul_of_nonpos_left (show x≤0 by omega) hy
   omega
  have e2:x / y < 0:=Int.ediv_neg_of_neg_of_pos hx (by omega)
  exact⟨Int.le_trans (kF _ _) (Int.le_trans h1 e1),Int.le_trans (Int.le_of_lt e2) (ko _ _)⟩
theorem wQ{a:Int}(h:1≤a){m n:Nat}(hn:m≤n):a ^ m≤a ^ n:=by
 obtain⟨k,rfl⟩:∃ k:Nat,a=k:=⟨a.toNat,by omega⟩
 have:=Nat.pow_le_pow_right (n:=k) (by omega) hn
 exact_mod_cast this
theorem qR{x y:Int}(hx:0≤x∧x≤18446744073709551615)(hy:0≤y∧y≤18446744073709551615):0≤Builtin.bitAnd x y∧Builtin.bitAnd x y≤18446744073709551615:=by
 rw[PyProof.Rows.bitAnd_pp hx.1 hy.1]
 have:=Nat.and_le_left (n:=x.toNat) (m:=y.toNat)
 omega
theorem tv{x y:Int}(hx:0≤x)(hy:0≤y):Builtin.bitOr x y=((x.toNat|||y.toNat:Nat):Int):=by
 rw[PyProof.Rows.bitOr_and,PyProof.Rows.bitAnd_pp hx hy]
 have:=PyProof.Rows.nat_or_add_and x.toNat y.toNat
 omega
theorem ud{x y:Int}(hx:0≤x∧x≤18446744073709551615)(hy:0≤y∧y≤18446744073709551615):0≤Builtin.bitOr x y∧Builtin.bitOr x y≤18446744073709551615:=by
 rw[tv hx.1 hy.1]
 have:=Nat.or_lt_two_pow (x:=x.toNat) (y:=y.toNat) (n:=64) (by omega) (by omega)
 omega
theorem yz{x y:Int}(hx:0≤x∧x≤18446744073709551615)(hy:0≤y∧y≤18446744073709551615):0≤Builtin.bitXor x y∧Builtin.bitXor x y≤18446744073709551615:=by
 have e:Builtin.bitXor x y=Builtin.bitOr x y - Builtin.bitAnd x y:=rfl
 have h1:=ud hx hy
 have h2:=qR hx hy
 have h3:Builtin.bitAnd x y≤Builtin.bitOr x y:=by
  rw[PyProof.Rows.bitOr_and,PyProof.Rows.bitAnd_pp hx.1 hy.1]
  have:=Nat.and_le_left (n:=x.toNat) (m:=y.toNat)
  have:=Nat.and_le_right (n:=x.toNat) (m:=y.toNat)
  omega
 omega
theorem Lz{c d y:Int}(h1:c≤y)(h2:y≤d)(hc:decide (0≤c)=true)(hd:decide (d < 1000)=true):jd y=true:=by
 have hc:=of_decide_eq_true hc
 have hd:=of_decide_eq_true hd
 unfold jd
 rw[decide_eq_true (show 0≤y by omega),decide_eq_true (show y < 1000 by omega)];rfl
set_option exponentiation.threshold 3000 in
theorem Mz {a:Int} (h:1≤a) (h2:a≤256):Bs a=true:=by
 unfold Bs
 have h1:a.natAbs≤256:=by omega
 exact Nat.blt_eq.mpr (Nat.lt_of_le_of_lt h1 (Nat.lt_of_le_of_lt (by decide:256≤2 ^ 8) (Nat.pow_lt_pow_right (by decide) (by decide))))
theorem Bv{o:Operator}{a b c d lo hi:Int}(e:Iq o a b c d=some (lo,hi)){x y:Int}(h1:a≤x)(h2:x≤b)(h3:c≤y)(h4:y≤d):∃ z,wW o x y=some (.int z)∧lo≤z∧z≤hi:=by
 cases o<;>simp only[Iq] at e<;>try (cases e;done)
 case Add=>cases e;exact⟨_,rfl,by omega,by omega⟩
 case Sub=>cases e;exact⟨_,rfl,by omega,by omega⟩
 case Mult=>
  cases q:bd a&&bd b&&bd c&&bd d with
  |false=>rw[q] at e;cases e
  |true=>
   rw[q] at e
   simp only[Bool.and_eq_true] at q
   cases e
   have k:=Fp h1 h2 h3 h4
   refine⟨x * y,?_,k.1,k.2⟩
   show(bif sm x&&sm y then some (MV.int (x * y)) else none)=_
   rw[KM q.1.1.1 q.1.1.2 h1 h2,KM q.1.2 q.2 h3 h4];rfl
 case FloorDiv=>
  cases q:decide (1≤c)&&bd d with
  |false=>rw[q] at e;cases e
  |true=>
   rw[q] at e
   simp only[Bool.and_eq_true] at q
   have hc:=of_decide_eq_true q.1
   have hb:bd c=true∨True:=Or.inr trivial
   have hs:sm y=true:=rI ⟨by have:(0:Int) < 2 ^ 2000:=Int.pow_pos (by decide);omega,Int.le_trans h4 (Bo q.2).2⟩
   have ey:x.fdiv y=x / y:=Int.fdiv_eq_ediv_of_nonneg x (by omega)
   have e0:wW .FloorDiv x y=some (.int (x / y)):=by
    show(bif sm y&&!(y==0) then some (MV.int (x.fdiv y)) else none)=_
    rw[hs,beq_false_of_ne (show y≠0 by omega),ey];rfl
   refine⟨x / y,e0,?_⟩
   simp only[cond_true] at e
   cases q2:c==d with
   |true=>
    rw[q2] at e
    have:c=d:=by simpa using q2
    subst this
    cases e
    have:y=c:=by omega
    subst this
    rw[Int.fdiv_eq_ediv_of_nonneg a (by omega),Int.fdiv_eq_ediv_of_nonneg b (by omega)]
    exact⟨Int.ediv_le_ediv (by omega) h1,Int.ediv_le_ediv (by omega) h2⟩
   |false=>
    rw[q2] at e
    cases e
    exact II h1 h2 (by omega)
 case Mod=>
  cases q:decide (1≤c)&&bd d with
  |false=>rw[q] at e;cases e
  |true=>
   rw[q] at e
   simp only[Bool.and_eq_true] at q
   have hc:=of_decide_eq_true q.1
   have hs:sm y=true:=rI ⟨by have:(0:Int) < 2 ^ 2000:=Int.pow_pos (by decide);omega,Int.le_trans h4 (Bo q.2).2⟩
   cases e
   refine⟨x % y,?_,Int.emod_nonneg _ (by omega),?_⟩
   ·show(bif sm y&&!(y==0) then some (MV.int (x.fmod y)) else none)=_
    rw[hs,beq_false_of_ne (show y≠0 by omega),Int.fmod_eq_emod_of_nonneg x (by omega)];rfl
   ·have:=Int.emod_lt_of_pos x (show 0 < y by omega)
    omega
 case Pow=>
  cases q:a==b&&decide (1≤a)&&decide (a≤256)&&decide (0≤c)&&decide (d < 1000) with
  |false=>rw[q] at e;cases e
  |true=>
   rw[q] at e
   simp only[Bool.and_eq_true] at q
   have ha:=of_decide_eq_true q.1.1.1.2
   have ha2:=of_decide_eq_true q.1.1.2
   have:a=b:=by simpa using q.1.1.1.1
   subst this
   have:x=a:=by omega
   subst this
   cases e
   refine⟨x ^ y.toNat,?_,wQ ha (by omega),wQ ha (by omega)⟩
   show(bif Bs x&&jd y then some (MV.int (x ^ y.toNat)) else none)=_
   rw[Mz ha ha2,Lz h3 h4 q.1.2 q.2];rfl
 case BitAnd=>
  cases q:jh a&&jh b&&jh c&&jh d with
  |false=>rw[q] at e;cases e
  |true=>
   rw[q] at e
   simp only[Bool.and_eq_true] at q
   cases e
   have hx:=cX q.1.1.1;have hx':=cX q.1.1.2;have hy:=cX q.1.2;have hy':=cX q.2
   have:=qR (x:=x) (y:=y) (by omega) (by omega)
   exact⟨_,rfl,this.1,this.2⟩
 case BitOr=>
  cases q:jh a&&jh b&&jh c&&jh d with
  |false=>rw[q] at e;cases e
  |true=>
   rw[q] at e
   simp only[Bool.and_eq_true] at q
   cases e
   have hx:=cX q.1.1.1;have hx':=cX q.1.1.2;have hy:=cX q.1.2;have hy':=cX q.2
   have:=ud (x:=x) (y:=y) (by omega) (by omega)
   exact⟨_,rfl,this.1,this.2⟩
 case BitXor=>
  cases q:jh a&&jh b&&jh c&&jh d with
  |false=>rw[q] at e;cases e
  |true=>
   rw[q] at e
   simp only[Bool.and_eq_true] at q
   cases e
   have hx:=cX q.1.1.1;have hx':=cX q.1.1.2;have hy:=cX q.1.2;have hy':=cX q.2
   have:=yz (x:=x) (y:=y) (by omega) (by omega)
   exact⟨_,rfl,this.1,this.2⟩
theorem Gg:∀ {a b:List Nat},MP a b=true→a=b
 |[],[],_=>rfl
 |a::r,b::q,h=>by
  simp only[MP,Bool.and_eq_true] at h
  rw[Nat.eq_of_beq_eq_true h.1,Gg h.2]
theorem Br:∀ a:List Nat,MP a a=true
 |[]=>rfl
 |a::r=>by simp only[MP,Br r,Nat.beq_refl,Bool.and_self]
theorem bz{a b:Str}(h:seq a b=true):a=b:=by
 cases a;cases b
 have:=Gg h
 simp only at this
 rw[Array.ext' this]
theorem pJ(a b:Str):(a==b)=seq a b:=by
 cases h:seq a b with
 |true=>rw[bz h];exact beq_self_eq_true b
 |false=>
  apply beq_false_of_ne
  intro e
  subst e
  rw[show seq a a=true from Br _] at h
  cases h
end
section
open PySem
structure Sg where
 nm:Nat→Str
 no:Nat→Int
 g:Gm
 p1:Pt
 p2:Pt
 B1:Hp
 B2:Hp
 x1:List Int
 y1:List Int
 x2:List Int
 y2:List Int
 m0:Nat
 l1:Bool
 s1:Bool
 l2:Bool
 s2:Bool
 t:Nat
structure Sg.Ok(σ:Sg):Prop where
 tb:∀ k,bO.lookup (σ.nm k)=some (.tup [.int (σ.no k),.int (σ.g k).1,.int (σ.g k).2])
 n0:∀ k,0≤σ.no k∧σ.no k≤9
 ne:∀ k,seq (σ.nm k) ""=false
 o1:σ.p1.ok σ.B1
 o2:σ.p2.ok σ.B2
 lx1:σ.x1.length≤50000
 ly1:σ.y1.length≤50000
 lx2:σ.x2.length≤50000
 ly2:σ.y2.length≤50000
 lm:σ.m0≤50000
def vO(σ:Sg)(d:Nat):Prop:=d&&& σ.t=0
theorem cL{σ:Sg}{a b:Nat}:vO σ (a|||b)↔vO σ a∧vO σ b:=by
 unfold vO
 rw[Nat.and_or_distrib_right,Nat.or_eq_zero_iff]
theorem N5{σ:Sg}:vO σ 0:=Nat.zero_and _
def Pt.at(p:Pt):Nat→Nat
 |0=>p.w
 |1=>p.t
 |2=>p.r
 |3=>p.m
 |4=>p.f
 |5=>p.rd
 |_=>p.st
mutual
def aH (σ:Sg):AV→MV→MV→Prop
 |.c v,x,y=>x=v∧y=v
 |.i lo hi d,x,y=>∃ a b,x=.int a∧y=.int b∧lo≤a∧a≤hi∧lo≤b∧b≤hi∧(vO σ d→a=b)
 |.s k,x,y=>x=.str (σ.nm k)∧y=.str (σ.nm k)
 |.n k,x,y=>x=.int (σ.no k)∧y=.int (σ.no k)
 |.b d,x,y=>∃ a b,x=.bool a∧y=.bool b∧(vO σ d→a=b)
 |.r k,x,y=>x=.ref (σ.p1.at k)∧y=.ref (σ.p2.at k)
 |.t vs,x,y=>∃ xs ys,x=.tup xs∧y=.tup ys∧al σ vs xs ys
 |.l vs,x,y=>∃ xs ys,x=.lst xs∧y=.lst ys∧al σ vs xs ys
def al (σ:Sg):List AV→List MV→List MV→Prop
 |[],xs,ys=>xs=[]∧ys=[]
 |a::r,xs,ys=>∃ x xs' y ys',xs=x::xs'∧ys=y::ys'∧aH σ a x y∧al σ r xs' ys'
end
def dn(σ:Sg):AB→Bool→Bool→Prop
 |.k b,x,y=>x=b∧y=b
 |.u d,x,y=>vO σ d→x=y
def Fl.toV(f:Fl):List MV:=[.int f.cf,.int f.pf,.int f.af,.int f.zf,.int f.sf,.int f.of,.int f.df]
def je(σ:Sg)(z:Int):Int:=if 0≤z then z else σ.no (-1 - z).toNat
structure vg(σ:Sg)(a:AW)(w1 w2:W):Prop where
 lr1:w1.r.length=10
 lr2:w2.r.length=10
 br1:∀ x∈w1.r,0≤x∧x≤18446744073709551615
 br2:∀ x∈w2.r,0≤x∧x≤18446744073709551615
 er:vO σ a.r→w1.r=w2.r
 lm1:w1.m.length≤σ.m0+a.mn
 lm2:w2.m.length≤σ.m0+a.mn
 bm1:∀ x∈w1.m,0≤x.2∧x.2≤255
 bm2:∀ x∈w2.m,0≤x.2∧x.2≤255
 em:vO σ a.m→w1.m=w2.m
 f:al σ a.f w1.f.toV w2.f.toV
 rd1:w1.rd=σ.x1++a.rd.map (je σ)
 rd2:w2.rd=σ.x2++a.rd.map (je σ)
 st1:w1.st=σ.y1++a.st.map (je σ)
 st2:w2.st=σ.y2++a.st.map (je σ)
 ld1:w1.load=(σ.l1||a.ld)
 ld2:w2.load=(σ.l2||a.ld)
 sd1:w1.store=(σ.s1||a.sd)
 sd2:w2.store=(σ.s2||a.sd)
def St(σ:Sg)(a:AW)(h1 h2:Hp):Prop:=∃ G1 G2 w1 w2,h1=ao (σ.B1++G1) σ.p1 w1∧h2=ao (σ.B2++G2) σ.p2 w2∧vg σ a w1 w2
theorem bD{p:Pt}{H:Hp}(h:p.ok H)(G:Hp):p.ok (H++G) where
 lw:=by have:=h.lw;simp;omega
 lr:=by have:=h.lr;simp;omega
 lm:=by have:=h.lm;simp;omega
 lf:=by have:=h.lf;simp;omega
 ld:=by have:=h.ld;simp;omega
 ls:=by have:=h.ls;simp;omega
 t:=by
  have:=h.t
  rw[List.getElem?_append_left]
  ·exact this
  ·exact(List.getElem?_eq_some_iff.mp this).1
 nd:=h.nd
 nt:=h.nt
variable{σ:Sg}
def aX(σ:Sg){A α:Type}(R:A→α→α→Prop)(am:AM A)(m1 m2:M α):Prop:=
 ∀ aw h1 h2 a aw',St σ aw h1 h2→am aw=some (a,aw')→∃ x k1 y k2,m1 h1=some (x,k1)∧m2 h2=some (y,k2)∧R a x y∧St σ aw' k1 k2∧(aw'.tk=aw.tk→k1=h1∧k2=h2)∧aw.tk≤aw'.tk
theorem aX.nop{A α:Type}{R:A→α→α→Prop}{m1 m2:M α}:aX σ R fj m1 m2:=fun _ _ _ _ _ _ e=>by cases e
theorem aX.bnd{A B α β:Type}{R:A→α→α→Prop}{R':B→β→β→Prop}{am:AM A}{af:A→AM B}{m1 m2:M α}{f1 f2:α→M β}(h:aX σ R am m1 m2)(k:∀ a x y,R a x y→aX σ R' (af a) (f1 x) (f2 y)):aX σ R' (a0 am af) (bnd m1 f1) (bnd m2 f2):=fun aw h1 h2 b aw' s e=>by
 unfold a0 at e
 cases q:am aw with
 |none=>rw[q] at e;cases e
 |some p=>
  obtain⟨a,aw1⟩:=p
  rw[q] at e
  obtain⟨x,k1,y,k2,e1,e2,r,s',u,le⟩:=h aw h1 h2 a aw1 s q
  obtain⟨x',k1',y',k2',e1',e2',r',s'',u',le'⟩:=k a x y r aw1 k1 k2 b aw' s' e
  refine⟨x',k1',y',k2',?_,?_,r',s'',fun t=>?_,Nat.le_trans le le'⟩
  ·show Mine.bnd m1 f1 h1=_
   rw[aa,e1];exact e1'
  ·rw[aa,e2];exact e2'
  ·have t1:aw1.tk=aw.tk:=by omega
   have t2:aw'.tk=aw1.tk:=by omega
   have a1:=u t1
   have a2:=u' t2
   exact⟨a2.1.trans a1.1,a2.2.trans a1.2⟩
theorem aX.ret{A α:Type}{R:A→α→α→Prop}{a:A}{x y:α}(h:R a x y):aX σ R (iT a) (ret x) (ret y):=fun aw h1 h2 b aw' s e=>by
 cases e
 exact⟨x,h1,y,h2,rfl,rfl,h,s,fun _=>⟨rfl,rfl⟩,Nat.le_refl _⟩
theorem aX.opt{A α:Type}{R:A→α→α→Prop}{o:Option A}{o1 o2:Option α}(h:∀ a,o=some a→∃ x y,o1=some x∧o2=some y∧R a x y):aX σ R (jc o) (opt o1) (opt o2):=fun aw h1 h2 b aw' s e=>by
 unfold jc at e
 cases q:o with
 |none=>rw[q] at e;cases e
 |some a=>
  rw[q] at e
  cases e
  obtain⟨x,y,e1,e2,r⟩:=h _ q
  subst e1;subst e2
  exact⟨x,h1,y,h2,rfl,rfl,r,s,fun _=>⟨rfl,rfl⟩,Nat.le_refl _⟩
theorem aX.read{A α:Type}{R:A→α→α→Prop}{am:AM A}{m1 m2:M α}(h:∀ aw G1 G2 w1 w2 a aw',vg σ aw w1 w2→am aw=some (a,aw')→aw'=aw∧∃ x y,m1 (ao (σ.B1++G1) σ.p1 w1)=some (x,ao (σ.B1++G1) σ.p1 w1)∧m2 (ao (σ.B2++G2) σ.p2 w2)=some (y,ao (σ.B2++G2) σ.p2 w2)∧R a x y):aX σ R am m1 m2:=fun aw h1 h2 a aw' s e=>by
 obtain⟨G1,G2,w1,w2,rfl,rfl,r⟩:=s
 obtain⟨rfl,x,y,e1,e2,q⟩:=h aw G1 G2 w1 w2 a aw' r e
 exact⟨x,_,y,_,e1,e2,q,⟨G1,G2,w1,w2,rfl,rfl,r⟩,fun _=>⟨rfl,rfl⟩,Nat.le_refl _⟩
theorem aX.write{A α:Type}{R:A→α→α→Prop}{am:AM A}{m1 m2:M α}(h:∀ aw G1 G2 w1 w2 a aw',vg σ aw w1 w2→am aw=some (a,aw')→aw'.tk=aw.tk+1∧∃ x w1' y w2',m1 (ao (σ.B1++G1) σ.p1 w1)=some (x,ao (σ.B1++G1) σ.p1 w1')∧m2 (ao (σ.B2++G2) σ.p2 w2)=some (y,ao (σ.B2++G2) σ.p2 w2')∧R a x y∧vg σ aw' w1' w2'):aX σ R am m1 m2:=fun aw h1 h2 a aw' s e=>by
 obtain⟨G1,G2,w1,w2,rfl,rfl,r⟩:=s
 obtain⟨t,x,w1',y,w2',e1,e2,q,r'⟩:=h aw G1 G2 w1 w2 a aw' r e
 exact⟨x,_,y,_,e1,e2,q,⟨G1,G2,w1',w2',rfl,rfl,r'⟩,fun t'=>absurd t' (by omega),by omega⟩
theorem bo{x:AV}{a b:MV}(h:aH σ x a b){lo hi:Int}{d:Nat}(e:oj x=some (lo,hi,d)):∃ u v,a=.int u∧b=.int v∧lo≤u∧u≤hi∧lo≤v∧v≤hi∧(vO σ d→u=v):=by
 cases x with
 |c m=>
  cases m with
  |int z=>
   cases e
   simp only[aH] at h
   exact⟨_,_,h.1,h.2,Int.le_refl _,Int.le_refl _,Int.le_refl _,Int.le_refl _,fun _=>rfl⟩
  |_=>cases e
 |i l h' d'=>
  cases e
  simp only[aH] at h
  exact h
 |_=>cases e
theorem FF{x y:AV}{a b c d u v:MV}(h:aH σ x a b)(h':aH σ y c d)(e:cc x y=some (u,v)):a=u∧b=u∧c=v∧d=v:=by
 unfold cc at e
 split at e
 ·cases e
  simp only[aH] at h h'
  exact⟨h.1,h.2,h'.1,h'.2⟩
 ·cases e
theorem gH{lo hi:Int}{d:Nat}{u v:Int}(h1:lo≤u)(h2:u≤hi)(h3:lo≤v)(h4:v≤hi)(h5:vO σ d→u=v):aH σ (.i lo hi d) (.int u) (.int v):=by
 simp only[aH]
 exact⟨u,v,rfl,rfl,h1,h2,h3,h4,h5⟩
theorem bU(m:MV):aH σ (.c m) m m:=by unfold aH;exact⟨rfl,rfl⟩
theorem jU(b:Bool):dn σ (.k b) b b:=by unfold dn;exact⟨rfl,rfl⟩
theorem D8{o:Operator}{x y z:AV}{a b c d:MV}(h:aH σ x a b)(h':aH σ y c d)(e:Md o x y=some z):∃ p q,bF o a c=some p∧bF o b d=some q∧aH σ z p q:=by
 unfold Md at e
 split at e
 ·rename_i u v q
  obtain⟨ha,hb,hc,hd⟩:=FF h h' q
  rw[ha,hb,hc,hd]
  cases q2:bF o u v with
  |none=>rw[q2] at e;cases e
  |some r=>rw[q2] at e;cases e;exact⟨r,r,rfl,rfl,bU r⟩
 ·split at e
  ·rename_i l1 u1 d1 l2 u2 d2 q1 q2
   obtain⟨x1,x2,rfl,rfl,a1,a2,a3,a4,a5⟩:=bo h q1
   obtain⟨y1,y2,rfl,rfl,b1,b2,b3,b4,b5⟩:=bo h' q2
   cases q3:Iq o l1 u1 l2 u2 with
   |none=>rw[q3] at e;cases e
   |some p=>
    rw[q3] at e
    cases e
    obtain⟨z1,e1,c1,c2⟩:=Bv q3 a1 a2 b1 b2
    obtain⟨z2,e2,c3,c4⟩:=Bv q3 a3 a4 b3 b4
    refine⟨.int z1,.int z2,e1,e2,gH c1 c2 c3 c4 fun ok=>?_⟩
    obtain⟨k1,k2⟩:=cL.mp ok
    rw[a5 k1,b5 k2,e2] at e1
    cases e1
    rfl
  ·cases e
theorem HP{x z:AV}{a b:MV}(h:aH σ x a b)(e:LS x=some z):∃ p q,uC .USub a=some p∧uC .USub b=some q∧aH σ z p q:=by
 unfold LS at e
 split at e
 ·rename_i l1 u1 d1 q1
  cases e
  obtain⟨x1,x2,rfl,rfl,a1,a2,a3,a4,a5⟩:=bo h q1
  exact⟨_,_,rfl,rfl,gH (by omega) (by omega) (by omega) (by omega) fun ok=>by rw[a5 ok]⟩
 ·cases e
theorem nz{o:CmpOp}{a b:Int}(u:Bool)(h:Ax o a b=some u)(H:Hp):dA o (.int a) (.int b) H=some (u,H):=by
 cases o<;>cases h<;>rfl
theorem ti{o:CmpOp}{a b c d:Int}{u:Bool}(h:Ax o a b=some u):∃ v,Ax o c d=some v:=by
 cases o<;>cases h<;>exact⟨_,rfl⟩
theorem xQ{o:CmpOp}{a b:Str}{x:Bool}{q:AB}(h:Lu o x=some q)(e:(a==b)=x):∃ u,q=.k u∧∀ H,dA o (.str a) (.str b) H=some (u,H):=by
 cases o<;>cases h
 ·exact⟨x,rfl,fun H=>by rw[←e];rfl⟩
 ·exact⟨!x,rfl,fun H=>by rw[←e];rfl⟩
theorem Fb(ok:σ.Ok){o:CmpOp}{x y:AV}{q:AB}{a b c d:MV}(h:aH σ x a b)(h':aH σ y c d)(e:yF o x y=some q):∃ u v,(∀ H,dA o a c H=some (u,H))∧(∀ H,dA o b d H=some (v,H))∧dn σ q u v:=by
 unfold yF at e
 split at e
 ·rename_i t
  simp only[aH] at h'
  obtain⟨rfl,rfl⟩:=h'
  split at e
  ·rename_i k
   simp only[aH] at h
   obtain⟨rfl,rfl⟩:=h
   cases q2:seq t "" with
   |false=>rw[q2] at e;cases e
   |true=>
    rw[q2] at e
    have et:=bz q2
    subst et
    obtain⟨u,rfl,r⟩:=xQ (a:=σ.nm k) (b:="") e (by rw[pJ];exact ok.ne k)
    exact⟨u,u,r,r,jU _⟩
  ·rename_i k
   simp only[aH] at h
   obtain⟨rfl,rfl⟩:=h
   obtain⟨u,rfl,r⟩:=xQ (a:=k) (b:=t) e (pJ _ _)
   exact⟨u,u,r,r,jU _⟩
  ·cases e
 ·split at e
  ·rename_i l1 u1 d1 l2 u2 d2 q1 q2
   obtain⟨x1,x2,rfl,rfl,a1,a2,a3,a4,a5⟩:=bo h q1
   obtain⟨y1,y2,rfl,rfl,b1,b2,b3,b4,b5⟩:=bo h' q2
   cases q3:l1==u1&&l2==u2 with
   |true=>
    rw[q3] at e
    simp only[Bool.and_eq_true,beq_iff_eq] at q3
    have:x1=l1:=by omega
    have:x2=l1:=by omega
    have:y1=l2:=by omega
    have:y2=l2:=by omega
    subst x1 x2 y1 y2
    cases q4:Ax o l1 l2 with
    |none=>rw[q4] at e;cases e
    |some u=>
     rw[q4] at e
     cases e
     exact⟨u,u,nz u q4,nz u q4,jU _⟩
   |false=>
    rw[q3] at e
    cases q4:Ax o l1 l2 with
    |none=>rw[q4] at e;cases e
    |some u=>
     rw[q4] at e
     cases e
     obtain⟨u1,e1⟩:=ti (c:=x1) (d:=y1) q4
     obtain⟨u2,e2⟩:=ti (c:=x2) (d:=y2) q4
     refine⟨u1,u2,nz u1 e1,nz u2 e2,?_⟩
     simp only[dn]
     intro k
     obtain⟨k1,k2⟩:=cL.mp k
     rw[a5 k1,b5 k2,e2] at e1
     cases e1
     rfl
  ·cases e
theorem al.get{as:List AV}:∀ {xs ys:List MV} (j:Nat) {v:AV},al σ as xs ys→as[j]?=some v→∃ x y,xs[j]?=some x∧ys[j]?=some y∧aH σ v x y:=by
 induction as with
 |nil=>intro xs ys j v h e;simp at e
 |cons a r ih=>
  intro xs ys j v h e
  simp only[al] at h
  obtain⟨x,xs',y,ys',rfl,rfl,h1,h2⟩:=h
  cases j with
  |zero=>simp at e;subst e;exact⟨x,y,rfl,rfl,h1⟩
  |succ j=>
   simp only[List.getElem?_cons_succ] at e ⊢
   exact ih j h2 e
theorem al.set{as:List AV}:∀ {xs ys:List MV} (j:Nat) {v:AV} {x y:MV},al σ as xs ys→aH σ v x y→al σ (as.set j v) (xs.set j x) (ys.set j y):=by
 induction as with
 |nil=>intro xs ys j v x y h _;simp only[al] at h;obtain⟨rfl,rfl⟩:=h;simp[al]
 |cons a r ih=>
  intro xs ys j v x y h e
  simp only[al] at h
  obtain⟨x',xs',y',ys',rfl,rfl,h1,h2⟩:=h
  cases j with
  |zero=>simp only[List.set_cons_zero,al];exact⟨_,_,_,_,rfl,rfl,e,h2⟩
  |succ j=>simp only[List.set_cons_succ,al];exact⟨_,_,_,_,rfl,rfl,h1,ih j h2 e⟩
theorem al.len{as:List AV}:∀ {xs ys:List MV},al σ as xs ys→xs.length=as.length∧ys.length=as.length:=by
 induction as with
 |nil=>intro xs ys h;simp only[al] at h;obtain⟨rfl,rfl⟩:=h;exact⟨rfl,rfl⟩
 |cons a r ih=>
  intro xs ys h
  simp only[al] at h
  obtain⟨x',xs',y',ys',rfl,rfl,h1,h2⟩:=h
  have:=ih h2
  simp[this.1,this.2]
theorem al.cons{a:AV}{as:List AV}{x y:MV}{xs ys:List MV}(h:aH σ a x y)(h2:al σ as xs ys):al σ (a::as) (x::xs) (y::ys):=by
 simp only[al];exact⟨_,_,_,_,rfl,rfl,h,h2⟩
theorem pG{d:Nat}{x y z:AV}{a b:MV}(h:aH σ x a b)(e:gQ d x y=some z)(hd:vO σ d∨True):aH σ z a b:=by
 unfold gQ at e
 split at e
 ·rename_i l1 u1 d1 l2 u2 d2 q1 q2
  cases e
  obtain⟨x1,x2,rfl,rfl,a1,a2,a3,a4,a5⟩:=bo h q1
  have i1:=kF l1 l2
  have i2:=ku u1 u2
  exact gH (by omega) (by omega) (by omega) (by omega) fun k=>a5 (cL.mp (cL.mp k).2).1
 ·split at e
  ·rename_i q
   unfold cc at q
   split at q
   ·cases q;cases e;exact h
   ·cases q
  ·cases e
theorem pA{d:Nat}{x y z:AV}{a b:MV}(h:aH σ y a b)(e:gQ d x y=some z):aH σ z a b:=by
 unfold gQ at e
 split at e
 ·rename_i l1 u1 d1 l2 u2 d2 q1 q2
  cases e
  obtain⟨x1,x2,rfl,rfl,a1,a2,a3,a4,a5⟩:=bo h q2
  have i1:=kW l1 l2
  have i2:=ko u1 u2
  exact gH (by omega) (by omega) (by omega) (by omega) fun k=>a5 (cL.mp (cL.mp k).2).2
 ·split at e
  ·rename_i q
   unfold cc at q
   split at q
   ·cases q;cases e;exact h
   ·cases q
  ·cases e
theorem wz{d:Nat}{x y z:AV}{a b a' b':MV}(h:aH σ x a b)(h':aH σ y a' b')(e:gQ d x y=some z)(hd:¬ vO σ d):aH σ z a b'∧aH σ z a' b:=by
 unfold gQ at e
 split at e
 ·rename_i l1 u1 d1 l2 u2 d2 q1 q2
  cases e
  obtain⟨x1,x2,rfl,rfl,a1,a2,a3,a4,a5⟩:=bo h q1
  obtain⟨y1,y2,rfl,rfl,b1,b2,b3,b4,b5⟩:=bo h' q2
  have i1:=kF l1 l2
  have i2:=ku u1 u2
  have i3:=kW l1 l2
  have i4:=ko u1 u2
  exact⟨gH (by omega) (by omega) (by omega) (by omega) fun k=>absurd (cL.mp k).1 hd,gH (by omega) (by omega) (by omega) (by omega) fun k=>absurd (cL.mp k).1 hd⟩
 ·split at e
  ·rename_i q
   unfold cc at q
   split at q
   ·cases q;cases e
    simp only[aH] at h h' ⊢
    exact⟨⟨h.1,h'.2⟩,⟨h'.1,h.2⟩⟩
   ·cases q
  ·cases e
theorem Im{xs:List AV}:∀ {ys zs:List AV} {a b:List MV},al σ xs a b→p8 xs ys=some zs→al σ zs a b:=by
 induction xs with
 |nil=>intro ys zs a b h e;cases ys<;>cases e;exact h
 |cons x xs ih=>
  intro ys zs a b h e
  cases ys with
  |nil=>cases e
  |cons y ys=>
   simp only[p8] at e
   split at e
   ·rename_i z zs' q1 q2
    cases e
    simp only[al] at h
    obtain⟨x',xs',y',ys',rfl,rfl,h1,h2⟩:=h
    exact al.cons (pG h1 q1 (Or.inr trivial)) (ih h2 q2)
   ·cases e
theorem IR{ys:List AV}:∀ {xs zs:List AV} {a b:List MV},al σ ys a b→p8 xs ys=some zs→al σ zs a b:=by
 induction ys with
 |nil=>intro ys zs a b h e;cases ys<;>cases e;exact h
 |cons y ys ih=>
  intro xs zs a b h e
  cases xs with
  |nil=>cases e
  |cons x xs=>
   simp only[p8] at e
   split at e
   ·rename_i z zs' q1 q2
    cases e
    simp only[al] at h
    obtain⟨x',xs',y',ys',rfl,rfl,h1,h2⟩:=h
    exact al.cons (pA h1 q1) (ih h2 q2)
   ·cases e
theorem qw{a b c:AW}(e:tw a b=some c):c.tk=a.tk+b.tk∧(∀ w1 w2,vg σ a w1 w2→vg σ c w1 w2)∧∀ w1 w2,vg σ b w1 w2→vg σ c w1 w2:=by
 unfold tw at e
 cases q:a.rd==b.rd&&a.st==b.st&&a.ld==b.ld&&a.sd==b.sd with
 |false=>rw[q] at e;cases e
 |true=>
  rw[q] at e
  simp only[Bool.and_eq_true,beq_iff_eq] at q
  obtain⟨⟨⟨q1,q2⟩,q3⟩,q4⟩:=q
  cases q5:p8 a.f b.f with
  |none=>rw[q5] at e;cases e
  |some f=>
   rw[q5] at e
   cases e
   refine⟨rfl,fun w1 w2 h=>?_,fun w1 w2 h=>?_⟩
   ·exact { h with
     er:=fun k=>h.er (cL.mp k).1
     em:=fun k=>h.em (cL.mp k).1
     lm1:=Nat.le_trans h.lm1 (Nat.add_le_add_left (Nat.le_max_left _ _) _)
     lm2:=Nat.le_trans h.lm2 (Nat.add_le_add_left (Nat.le_max_left _ _) _)
     f:=Im h.f q5 }
   ·exact { h with
     er:=fun k=>h.er (cL.mp k).2
     em:=fun k=>h.em (cL.mp k).2
     lm1:=Nat.le_trans h.lm1 (Nat.add_le_add_left (Nat.le_max_right _ _) _)
     lm2:=Nat.le_trans h.lm2 (Nat.add_le_add_left (Nat.le_max_right _ _) _)
     f:=IR h.f q5
     rd1:=by rw[h.rd1,←q1]
     rd2:=by rw[h.rd2,←q1]
     st1:=by rw[h.st1,←q2]
     st2:=by rw[h.st2,←q2]
     ld1:=by rw[h.ld1,←q3]
     ld2:=by rw[h.ld2,←q3]
     sd1:=by rw[h.sd1,←q4]
     sd2:=by rw[h.sd2,←q4] }
end
section
open PySem
variable{σ:Sg}
section
variable{H:Hp}{p:Pt}{w:W}
theorem xB(h:p.ok H){s:Str}{j:Nat}(e:uN s=some j):bE (.ref p.w) (.str s) (ao H p w)=some (.ref (p.at j),ao H p w):=by
 unfold uN at e
 cases q:seq s "t" with
 |true=>rw[q] at e;cases e;rw[bz q];exact O8 h
 |false=>
 rw[q] at e;clear q
 cases q:seq s "r" with
 |true=>rw[q] at e;cases e;rw[bz q];exact O3 h
 |false=>
 rw[q] at e;clear q
 cases q:seq s "m" with
 |true=>rw[q] at e;cases e;rw[bz q];exact O5 h
 |false=>
 rw[q] at e;clear q
 cases q:seq s "f" with
 |true=>rw[q] at e;cases e;rw[bz q];exact Pb h
 |false=>
 rw[q] at e;clear q
 cases q:seq s "read" with
 |true=>rw[q] at e;cases e;rw[bz q];exact Nf h
 |false=>
 rw[q] at e;clear q
 cases q:seq s "set" with
 |true=>rw[q] at e;cases e;rw[bz q];exact NB h
 |false=>rw[q] at e;cases e
theorem vZ(h:p.ok H){s:Str}{j:Nat}(e:jN s=some j){x:MV}(k:w.f.toV[j]?=some x):bE (.ref p.f) (.str s) (ao H p w)=some (x,ao H p w):=by
 unfold jN at e
 cases q:seq s "cf" with
 |true=>rw[q] at e;cases e;cases k;rw[bz q];exact IG h
 |false=>
 rw[q] at e;clear q
 cases q:seq s "pf" with
 |true=>rw[q] at e;cases e;cases k;rw[bz q];exact L1 h
 |false=>
 rw[q] at e;clear q
 cases q:seq s "af" with
 |true=>rw[q] at e;cases e;cases k;rw[bz q];exact NY h
 |false=>
 rw[q] at e;clear q
 cases q:seq s "zf" with
 |true=>rw[q] at e;cases e;cases k;rw[bz q];exact GO h
 |false=>
 rw[q] at e;clear q
 cases q:seq s "sf" with
 |true=>rw[q] at e;cases e;cases k;rw[bz q];exact Jm h
 |false=>
 rw[q] at e;clear q
 cases q:seq s "of" with
 |true=>rw[q] at e;cases e;cases k;rw[bz q];exact Kb h
 |false=>
 rw[q] at e;clear q
 cases q:seq s "df" with
 |true=>rw[q] at e;cases e;cases k;rw[bz q];exact NN h
 |false=>rw[q] at e;cases e
def Fl.setj(f:Fl)(j:Nat)(v:Int):Fl:=match j with
 |0=>{ f with cf:=v }
 |1=>{ f with pf:=v }
 |2=>{ f with af:=v }
 |3=>{ f with zf:=v }
 |4=>{ f with sf:=v }
 |5=>{ f with of:=v }
 |6=>{ f with df:=v }
 |_=>f
theorem v9(h:p.ok H){s:Str}{j:Nat}(e:jN s=some j)(v:Int):setItem (.ref p.f) (.str s) (.int v) (ao H p w)=some ((),ao H p { w with f:=w.f.setj j v })∧(w.f.setj j v).toV=w.f.toV.set j (.int v):=by
 unfold jN at e
 cases q:seq s "cf" with
 |true=>rw[q] at e;cases e;rw[bz q];exact⟨OK h v,rfl⟩
 |false=>
 rw[q] at e;clear q
 cases q:seq s "pf" with
 |true=>rw[q] at e;cases e;rw[bz q];exact⟨OV h v,rfl⟩
 |false=>
 rw[q] at e;clear q
 cases q:seq s "af" with
 |true=>rw[q] at e;cases e;rw[bz q];exact⟨OL h v,rfl⟩
 |false=>
 rw[q] at e;clear q
 cases q:seq s "zf" with
 |true=>rw[q] at e;cases e;rw[bz q];exact⟨OP h v,rfl⟩
 |false=>
 rw[q] at e;clear q
 cases q:seq s "sf" with
 |true=>rw[q] at e;cases e;rw[bz q];exact⟨OX h v,rfl⟩
 |false=>
 rw[q] at e;clear q
 cases q:seq s "of" with
 |true=>rw[q] at e;cases e;rw[bz q];exact⟨Om h v,rfl⟩
 |false=>
 rw[q] at e;clear q
 cases q:seq s "df" with
 |true=>rw[q] at e;cases e;rw[bz q];exact⟨OY h v,rfl⟩
 |false=>rw[q] at e;cases e
end
theorem oo(x:Str):∀ l:List (Str×MV),(l.find? fun p=>seq p.1 x).map (·.2)=l.lookup x
 |[]=>rfl
 |(a,b)::r=>by
  rw[List.find?_cons,List.lookup_cons]
  have e:(x==a)=seq a x:=by
   rw[←pJ]
   cases h:a==x with
   |true=>have h:=eq_of_beq h;subst h;exact beq_self_eq_true _
   |false=>
    apply beq_false_of_ne
    intro t
    subst t
    rw[beq_self_eq_true] at h
    cases h
  rw[e]
  cases seq a x with
  |true=>rfl
  |false=>exact oo x r
theorem kP(ok:σ.Ok){y:AV}{a b:MV}(h:aH σ y a b){z:Int}(e:nv y=some z):a=.int (je σ z)∧b=.int (je σ z)∧0≤je σ z∧je σ z≤9:=by
 unfold nv at e
 split at e
 ·rename_i n
  cases q:decide (0≤n)&&decide (n≤9) with
  |false=>rw[q] at e;cases e
  |true=>
   rw[q] at e
   cases e
   simp only[Bool.and_eq_true,decide_eq_true_eq] at q
   simp only[aH] at h
   unfold je
   rw[if_pos q.1]
   exact⟨h.1,h.2,q.1,q.2⟩
 ·rename_i k
  cases e
  simp only[aH] at h
  unfold je
  rw[if_neg (by omega),show(-1 - (-1 - (k:Int))).toNat=k by omega]
  exact⟨h.1,h.2,ok.n0 k⟩
 ·cases e
theorem bN{l:List MV}(h:l.length≤100000):bZ l=true:=Nat.ble_eq_true_of_le h
theorem oC{v i z:MV}(h:getItem [] v i=some z)(H:Hp):getItem H v i=some z:=by
 cases i with
 |int n=>cases v with
  |ref r=>exact absurd (show(none:Option MV)=some z from h) (by intro h;cases h)
  |_=>exact h
 |str n=>cases v with
  |ref r=>exact absurd (show(none:Option MV)=some z from h) (by intro h;cases h)
  |_=>exact h
 |_=>cases h
theorem GK{vs:List AV}{xs ys:List MV}(h:al σ vs xs ys){z:Int}{v:AV}(e:(bif decide (0≤z)&&Nat.ble vs.length 1000 then vs[z.toNat]? else none)=some v):∃ x y,D6 xs z=some x∧D6 ys z=some y∧aH σ v x y:=by
 cases q:decide (0≤z)&&Nat.ble vs.length 1000 with
 |false=>rw[q] at e;cases e
 |true=>
  rw[q] at e
  simp only[Bool.and_eq_true] at q
  have hl:=Nat.le_of_ble_eq_true q.2
  obtain⟨l1,l2⟩:=al.len h
  obtain⟨x,y,e1,e2,r⟩:=al.get z.toNat h e
  refine⟨x,y,?_,?_,r⟩<;>unfold D6<;>rw[q.1,bN (by omega)]
  ·exact e1
  ·exact e2
theorem Go(ok:σ.Ok){x y:AV}{a b c d:MV}(h:aH σ x a b)(h':aH σ y c d):aX σ (aH σ) (MH σ.g x y) (bE a c) (bE b d):=aX.read fun aw G1 G2 w1 w2 v aw' r e=>by
 have o1:=bD ok.o1 G1
 have o2:=bD ok.o2 G2
 unfold MH at e
 split at e
 ·rename_i k
  simp only[aH] at h
  obtain⟨rfl,rfl⟩:=h
  split at e
  ·rename_i s
   simp only[aH] at h'
   obtain⟨rfl,rfl⟩:=h'
   cases q:uN s with
   |none=>rw[q] at e;cases e
   |some j=>
    rw[q] at e
    cases e
    exact⟨rfl,_,_,xB o1 q,xB o2 q,by simp only[aH];exact⟨trivial,trivial⟩⟩
  ·rename_i s
   simp only[aH] at h'
   obtain⟨rfl,rfl⟩:=h'
   cases q:Bb s with
   |none=>rw[q] at e;cases e
   |some j=>
    rw[q] at e
    cases e
    have q:bO.lookup s=some j:=by rw[←oo];exact q
    exact⟨rfl,_,_,pI o1 q,pI o2 q,bU _⟩
  ·rename_i s
   simp only[aH] at h'
   obtain⟨rfl,rfl⟩:=h'
   cases e
   refine⟨rfl,_,_,pI o1 (ok.tb s),pI o2 (ok.tb s),?_⟩
   simp only[aH]
   refine⟨_,_,rfl,rfl,?_⟩
   refine al.cons ?_ (al.cons (bU _) (al.cons (bU _) ?_))
   ·simp only[aH];exact⟨trivial,trivial⟩
   ·simp only[al];exact⟨trivial,trivial⟩
  ·cases q:nv y with
   |none=>rw[q] at e;cases e
   |some z=>
    rw[q] at e
    cases e
    obtain⟨rfl,rfl,n1,n2⟩:=kP ok h' q
    have l1:=r.lr1
    have l2:=r.lr2
    have hn:(je σ z).toNat < 10:=by omega
    have e1:w1.r[(je σ z).toNat]?=some (w1.r[(je σ z).toNat]'(by omega)):=List.getElem?_eq_getElem (by omega)
    have e2:w2.r[(je σ z).toNat]?=some (w2.r[(je σ z).toNat]'(by omega)):=List.getElem?_eq_getElem (by omega)
    have b1:=r.br1 _ (List.getElem_mem (l:=w1.r) (n:=(je σ z).toNat) (by omega))
    have b2:=r.br2 _ (List.getElem_mem (l:=w2.r) (n:=(je σ z).toNat) (by omega))
    refine⟨rfl,_,_,Kv o1 (by omega) n1 e1,Kv o2 (by omega) n1 e2,gH b1.1 b1.2 b2.1 b2.2 fun k=>?_⟩
    have:=r.er k
    exact Option.some.inj (e1.symm.trans ((congrArg (fun l=>l[(je σ z).toNat]?) this).trans e2))
  ·rename_i s
   simp only[aH] at h'
   obtain⟨rfl,rfl⟩:=h'
   cases q:jN s with
   |none=>rw[q] at e;cases e
   |some j=>
    rw[q] at e
    dsimp only at e
    cases q2:aw.f[j]? with
    |none=>rw[q2] at e;cases e
    |some u=>
     rw[q2] at e
     cases e
     obtain⟨x1,x2,e1,e2,rr⟩:=al.get j r.f q2
     exact⟨rfl,_,_,vZ o1 q e1,vZ o2 q e2,rr⟩
  ·cases e
 ·rename_i vs
  split at e
  ·rename_i z
   simp only[aH] at h h'
   obtain⟨rfl,rfl⟩:=h'
   obtain⟨xs,ys,rfl,rfl,hv⟩:=h
   cases q:(bif decide (0≤z)&&Nat.ble vs.length 1000 then vs[z.toNat]? else none) with
   |none=>
    exfalso
    cases q3:decide (0≤z)&&Nat.ble vs.length 1000 with
    |false=>rw[q3] at e;cases e
    |true=>rw[q3] at e q;simp only[cond_true] at e q;rw[q] at e;cases e
   |some u=>
    have:v=u∧aw'=aw:=by
     cases q3:decide (0≤z)&&Nat.ble vs.length 1000 with
     |false=>rw[q3] at e;cases e
     |true=>rw[q3] at e q;simp only[cond_true] at e q;rw[q] at e;cases e;exact⟨rfl,rfl⟩
    obtain⟨rfl,rfl⟩:=this
    obtain⟨x,y,e1,e2,rr⟩:=GK hv q
    exact⟨rfl,x,y,gM e1,gM e2,rr⟩
  ·cases e
 ·rename_i vs
  split at e
  ·rename_i z
   simp only[aH] at h h'
   obtain⟨rfl,rfl⟩:=h'
   obtain⟨xs,ys,rfl,rfl,hv⟩:=h
   cases q:(bif decide (0≤z)&&Nat.ble vs.length 1000 then vs[z.toNat]? else none) with
   |none=>
    exfalso
    cases q3:decide (0≤z)&&Nat.ble vs.length 1000 with
    |false=>rw[q3] at e;cases e
    |true=>rw[q3] at e q;simp only[cond_true] at e q;rw[q] at e;cases e
   |some u=>
    have:v=u∧aw'=aw:=by
     cases q3:decide (0≤z)&&Nat.ble vs.length 1000 with
     |false=>rw[q3] at e;cases e
     |true=>rw[q3] at e q;simp only[cond_true] at e q;rw[q] at e;cases e;exact⟨rfl,rfl⟩
    obtain⟨rfl,rfl⟩:=this
    obtain⟨x,y,e1,e2,rr⟩:=GK hv q
    exact⟨rfl,x,y,gM e1,gM e2,rr⟩
  ·cases e
 ·split at e
  ·rename_i v' i
   simp only[aH] at h h'
   obtain⟨rfl,rfl⟩:=h'
   obtain⟨rfl,rfl⟩:=h
   cases q:getItem [] b d with
   |none=>rw[q] at e;cases e
   |some z=>
    rw[q] at e
    cases e
    exact⟨rfl,_,_,gM (oC q _),gM (oC q _),bU _⟩
  ·cases e
 ·cases e
end
section
open PySem
variable{σ:Sg}
def RT{A α:Type}:A→α→α→Prop:=fun _ _ _=>True
theorem BT{a b u:Int}(h:(jh a&&jh b)=true)(h1:a≤u)(h2:u≤b):0≤u∧u≤18446744073709551615:=by
 simp only[Bool.and_eq_true] at h
 have:=cX h.1
 have:=cX h.2
 omega
theorem rN(a b:Int):∀ m:List (Int×Int),(sM a b m).length≤m.length+1
 |[]=>by simp[sM]
 |(x,y)::r=>by
  unfold sM
  cases x==a with
  |true=>simp
  |false=>have:=rN a b r;simp;omega
theorem rP(a b:Int)(P:Int×Int→Prop)(hb:P (a,b)):∀ m:List (Int×Int),(∀ x∈m,P x)→(∀ k,P (k,b))→∀ x∈sM a b m,P x
 |[],_,_=>by simp[sM];exact hb
 |(x,y)::r,h,hk=>by
  unfold sM
  cases x==a with
  |true=>
   intro z hz
   simp at hz
   rcases hz with rfl|hz
   ·exact hk _
   ·exact h z (List.mem_cons_of_mem _ hz)
  |false=>
   intro z hz
   simp at hz
   rcases hz with rfl|hz
   ·exact h _ List.mem_cons_self
   ·exact rP a b P hb r (fun q hq=>h q (List.mem_cons_of_mem _ hq)) hk z hz
theorem Hf(ok:σ.Ok){x o i:AV}{a b oa ob ia ib:MV}(h:aH σ x a b)(ho:aH σ o oa ob)(hi:aH σ i ia ib):aX σ RT (LR x o i) (setItem oa ia a) (setItem ob ib b):=aX.write fun aw G1 G2 w1 w2 v aw' r e=>by
 have o1:=bD ok.o1 G1
 have o2:=bD ok.o2 G2
 unfold LR at e
 split at e
 ·simp only[aH] at ho
  obtain⟨rfl,rfl⟩:=ho
  split at e
  ·rename_i n l u d q1 q2
   obtain⟨x1,x2,rfl,rfl,a1,a2,a3,a4,a5⟩:=bo h q2
   obtain⟨rfl,rfl,n1,n2⟩:=kP ok hi q1
   cases q:jh l&&jh u with
   |false=>rw[q] at e;cases e
   |true=>
    rw[q] at e
    cases e
    have l1:=r.lr1
    have l2:=r.lr2
    have c1:=BT q a1 a2
    have c2:=BT q a3 a4
    refine⟨rfl,(),_,(),_,KP o1 (by omega) n1 (by omega),KP o2 (by omega) n1 (by omega),trivial,?_⟩
    exact { r with
     lr1:=by simp[l1]
     lr2:=by simp[l2]
     br1:=fun z hz=>by
      rcases List.mem_or_eq_of_mem_set hz with hz|rfl
      ·exact r.br1 z hz
      ·exact c1
     br2:=fun z hz=>by
      rcases List.mem_or_eq_of_mem_set hz with hz|rfl
      ·exact r.br2 z hz
      ·exact c2
     er:=fun k=>by
      obtain⟨k1,k2⟩:=cL.mp k
      dsimp only
      rw[r.er k1,a5 k2] }
  ·cases e
 ·simp only[aH] at ho
  obtain⟨rfl,rfl⟩:=ho
  split at e
  ·rename_i l' u' d' l u d q1 q2
   obtain⟨x1,x2,rfl,rfl,a1,a2,a3,a4,a5⟩:=bo h q2
   obtain⟨y1,y2,rfl,rfl,b1,b2,b3,b4,b5⟩:=bo hi q1
   cases q:decide (0≤l)&&decide (u≤255)&&Nat.ble aw.mn 1000 with
   |false=>rw[q] at e;cases e
   |true=>
    rw[q] at e
    cases e
    simp only[Bool.and_eq_true,decide_eq_true_eq] at q
    have hmn:=Nat.le_of_ble_eq_true q.2
    have l1:=r.lm1
    have l2:=r.lm2
    have l3:=ok.lm
    refine⟨rfl,(),_,(),_,Ks o1 (by omega),Ks o2 (by omega),trivial,?_⟩
    exact { r with
     lm1:=by have:=rN y1 x1 w1.m;dsimp only;omega
     lm2:=by have:=rN y2 x2 w2.m;dsimp only;omega
     bm1:=rP _ _ (fun x=>0≤x.2∧x.2≤255) ⟨by dsimp only;omega,by dsimp only;omega⟩ _ r.bm1 fun _=>⟨by dsimp only;omega,by dsimp only;omega⟩
     bm2:=rP _ _ (fun x=>0≤x.2∧x.2≤255) ⟨by dsimp only;omega,by dsimp only;omega⟩ _ r.bm2 fun _=>⟨by dsimp only;omega,by dsimp only;omega⟩
     em:=fun k=>by
      obtain⟨k1,k2⟩:=cL.mp k
      obtain⟨k2,k3⟩:=cL.mp k2
      dsimp only
      rw[r.em k1,a5 k3,b5 k2] }
  ·cases e
 ·simp only[aH] at ho
  obtain⟨rfl,rfl⟩:=ho
  split at e
  ·rename_i s p q2
   obtain⟨l,u,d⟩:=p
   obtain⟨x1,x2,rfl,rfl,a1,a2,a3,a4,a5⟩:=bo h q2
   simp only[aH] at hi
   obtain⟨rfl,rfl⟩:=hi
   cases q:jN s with
   |none=>rw[q] at e;cases e
   |some j=>
    rw[q] at e
    cases e
    have f1:=v9 (w:=w1) o1 q x1
    have f2:=v9 (w:=w2) o2 q x2
    refine⟨rfl,(),_,(),_,f1.1,f2.1,trivial,?_⟩
    exact { r with f:=by dsimp only;rw[f1.2,f2.2];exact al.set j r.f h }
  ·cases e
 ·simp only[aH] at ho
  obtain⟨rfl,rfl⟩:=ho
  split at e
  ·rename_i s
   simp only[aH] at hi h
   obtain⟨rfl,rfl⟩:=hi
   obtain⟨rfl,rfl⟩:=h
   cases q:seq s "load" with
   |true=>
    rw[q] at e
    cases e
    rw[bz q]
    refine⟨rfl,(),_,(),_,G8 o1 true,G8 o2 true,trivial,?_⟩
    exact { r with ld1:=(Bool.or_true _).symm,ld2:=(Bool.or_true _).symm }
   |false=>
    rw[q] at e
    simp only[cond_false] at e
    cases q:seq s "store" with
    |true=>
     rw[q] at e
     cases e
     rw[bz q]
     refine⟨rfl,(),_,(),_,Bc o1 true,Bc o2 true,trivial,?_⟩
     exact { r with sd1:=(Bool.or_true _).symm,sd2:=(Bool.or_true _).symm }
    |false=>rw[q] at e;cases e
  ·cases e
 ·cases e
theorem vV{β:Type}(X:M MV)(f:List MV→M β):bnd (fu [X]) f=bnd X fun v=>f [v]:=by
 funext H
 simp only[aa,aJ,bC,ad]
 cases X H<;>rfl
theorem Gj{β:Type}(X Y:M MV)(f:List MV→M β):bnd (fu [X,Y]) f=bnd X fun v=>bnd Y fun u=>f [v,u]:=by
 funext H
 simp only[aa,aJ,bC,ad]
 cases X H with
 |none=>rfl
 |some p=>dsimp only;cases Y p.2<;>rfl
theorem d5{α β γ:Type}(m:M α)(f:α→M β)(g:β→M γ):bnd (bnd m f) g=bnd m fun x=>bnd (f x) g:=by
 funext H
 simp only[aa]
 cases m H<;>rfl
theorem aX.state{A α β:Type}{R:A→α→α→Prop}{am:AM A}{m1 m2:M β}{v1 v2:β}{f1 f2:β→M α}(k1:∀ G w,m1 (ao (σ.B1++G) σ.p1 w)=some (v1,ao (σ.B1++G) σ.p1 w))(k2:∀ G w,m2 (ao (σ.B2++G) σ.p2 w)=some (v2,ao (σ.B2++G) σ.p2 w))(h:aX σ R am (f1 v1) (f2 v2)):aX σ R am (Mine.bnd m1 f1) (Mine.bnd m2 f2):=fun aw h1 h2 a aw' s e=>by
 obtain⟨x,q1,y,q2,e1,e2,rest⟩:=h aw h1 h2 a aw' s e
 obtain⟨G1,G2,w1,w2,rfl,rfl,r⟩:=s
 refine⟨x,q1,y,q2,?_,?_,rest⟩
 ·rw[aa,k1];exact e1
 ·rw[aa,k2];exact e2
def lg(ov:MV)(m:Str)(f:Nat→M MV)(g:M MV):M MV:=match ov with
 |.inst _ _=>g
 |_=>bnd (dI ov m) f
theorem GF(ok:σ.Ok){o:AV}{oa ob:MV}(ho:aH σ o oa ob){ax:AM AV}{X1 X2:M MV}(hx:aX σ (aH σ) ax X1 X2){g1 g2:M MV}:aX σ (fun _ x y=>x=MV.none∧y=MV.none) (a0 ax fun x=>sq o x) (lg oa "append" (fun k=>bnd (fu [X1]) fun vs=>bx k oa "append" vs) g1) (lg ob "append" (fun k=>bnd (fu [X2]) fun vs=>bx k ob "append" vs) g2):=by
 have bad:(∀ x w,sq o x w=none)→aX σ (fun _ x y=>x=MV.none∧y=MV.none) (a0 ax fun x=>sq o x) (lg oa "append" (fun k=>bnd (fu [X1]) fun vs=>bx k oa "append" vs) g1) (lg ob "append" (fun k=>bnd (fu [X2]) fun vs=>bx k ob "append" vs) g2):=fun hb aw h1 h2 a aw' s e=>by
  unfold a0 at e
  cases q:ax aw with
  |none=>rw[q] at e;cases e
  |some p=>rw[q] at e;dsimp only at e;rw[hb] at e;cases e
 cases o with
 |r k=>
  simp only[aH] at ho
  obtain⟨rfl,rfl⟩:=ho
  by_cases h5:k=5
  ·subst h5
   refine aX.state (v1:=1) (v2:=1) (fun G w=>Ky (bD ok.o1 G)) (fun G w=>Ky (bD ok.o2 G)) ?_
   rw[vV,vV]
   refine aX.bnd hx fun x a b hab=>aX.write fun aw G1 G2 w1 w2 v aw' r e=>?_
   unfold sq at e
   cases q:nv x with
   |none=>rw[q] at e;cases e
   |some z=>
    rw[q] at e
    dsimp only at e
    cases q2:Nat.ble aw.rd.length 1000 with
    |false=>rw[q2] at e;cases e
    |true=>
     rw[q2] at e
     cases e
     obtain⟨rfl,rfl,n1,n2⟩:=kP ok hab q
     have hl:=Nat.le_of_ble_eq_true q2
     have i1:=ok.lx1
     have i2:=ok.lx2
     refine⟨rfl,_,_,_,_,EX (bD ok.o1 G1) (by rw[r.rd1];simp;omega),EX (bD ok.o2 G2) (by rw[r.rd2];simp;omega),⟨rfl,rfl⟩,?_⟩
     exact { r with rd1:=by simp[r.rd1],rd2:=by simp[r.rd2] }
  ·by_cases h6:k=6
   ·subst h6
    refine aX.state (v1:=1) (v2:=1) (fun G w=>KI (bD ok.o1 G)) (fun G w=>KI (bD ok.o2 G)) ?_
    rw[vV,vV]
    refine aX.bnd hx fun x a b hab=>aX.write fun aw G1 G2 w1 w2 v aw' r e=>?_
    unfold sq at e
    cases q:nv x with
    |none=>rw[q] at e;cases e
    |some z=>
     rw[q] at e
     dsimp only at e
     cases q2:Nat.ble aw.st.length 1000 with
     |false=>rw[q2] at e;cases e
     |true=>
      rw[q2] at e
      cases e
      obtain⟨rfl,rfl,n1,n2⟩:=kP ok hab q
      have hl:=Nat.le_of_ble_eq_true q2
      have i1:=ok.ly1
      have i2:=ok.ly2
      refine⟨rfl,_,_,_,_,Gx (bD ok.o1 G1) (by rw[r.st1];simp;omega),Gx (bD ok.o2 G2) (by rw[r.st2];simp;omega),⟨rfl,rfl⟩,?_⟩
      exact { r with st1:=by simp[r.st1],st2:=by simp[r.st2] }
   ·exact bad fun x w=>by
     unfold sq
     split
     ·rename_i heq;cases heq;exact absurd rfl h5
     ·rename_i heq;cases heq;exact absurd rfl h6
     ·rfl
 |_=>exact bad fun _ _=>rfl
theorem nH{a:Int}:∀ {m:List (Int×Int)},(∀ x∈m,0≤x.2∧x.2≤255)→∀ {d:Int},0≤d→d≤255→0≤(m.lookup a).getD d∧(m.lookup a).getD d≤255
 |[],_,d,h0,h1=>⟨h0,h1⟩
 |(x,y)::r,h,d,h0,h1=>by
  rw[List.lookup_cons]
  cases a==x with
  |true=>exact h (x,y) List.mem_cons_self
  |false=>exact nH (fun z hz=>h z (List.mem_cons_of_mem _ hz)) h0 h1
theorem GE(ok:σ.Ok){o:AV}{oa ob:MV}(ho:aH σ o oa ob){ax ay:AM AV}{X1 X2 Y1 Y2:M MV}(hx:aX σ (aH σ) ax X1 X2)(hy:aX σ (aH σ) ay Y1 Y2){g1 g2:M MV}:aX σ (aH σ) (a0 ax fun x=>a0 ay fun y=>EI o x y) (lg oa "get" (fun k=>bnd (fu [X1,Y1]) fun vs=>bx k oa "get" vs) g1) (lg ob "get" (fun k=>bnd (fu [X2,Y2]) fun vs=>bx k ob "get" vs) g2):=by
 have bad:(∀ x y w,EI o x y w=none)→aX σ (aH σ) (a0 ax fun x=>a0 ay fun y=>EI o x y) (lg oa "get" (fun k=>bnd (fu [X1,Y1]) fun vs=>bx k oa "get" vs) g1) (lg ob "get" (fun k=>bnd (fu [X2,Y2]) fun vs=>bx k ob "get" vs) g2):=fun hb aw h1 h2 a aw' s e=>by
  unfold a0 at e
  cases q:ax aw with
  |none=>rw[q] at e;cases e
  |some p=>
   rw[q] at e
   dsimp only at e
   cases q:ay p.2 with
   |none=>rw[q] at e;cases e
   |some p=>rw[q] at e;dsimp only at e;rw[hb] at e;cases e
 cases o with
 |r k=>
  simp only[aH] at ho
  obtain⟨rfl,rfl⟩:=ho
  by_cases h5:k=3
  ·subst h5
   refine aX.state (v1:=2) (v2:=2) (fun G w=>Fm (bD ok.o1 G)) (fun G w=>Fm (bD ok.o2 G)) ?_
   rw[Gj,Gj]
   refine aX.bnd hx fun x a b hab=>aX.bnd hy fun y c d hcd=>aX.read fun aw G1 G2 w1 w2 v aw' r e=>?_
   have e:(match oj x,oj y with
    |some (_,_,d),some (a,b,e)=>bif decide (0≤a)&&decide (b≤255) then some (AV.i 0 255 (aw.m|||(d|||e)),aw) else none
    |_,_=>none)=some (v,aw'):=e
   split at e
   ·rename_i l1 u1 d1 l2 u2 d2 q1 q2
    obtain⟨x1,x2,rfl,rfl,a1,a2,a3,a4,a5⟩:=bo hab q1
    obtain⟨y1,y2,rfl,rfl,b1,b2,b3,b4,b5⟩:=bo hcd q2
    cases q:decide (0≤l2)&&decide (u2≤255) with
    |false=>rw[q] at e;cases e
    |true=>
     rw[q] at e
     cases e
     simp only[Bool.and_eq_true,decide_eq_true_eq] at q
     have t1:=nH (a:=x1) r.bm1 (d:=y1) (by omega) (by omega)
     have t2:=nH (a:=x2) r.bm2 (d:=y2) (by omega) (by omega)
     refine⟨rfl,_,_,BN (bD ok.o1 G1),BN (bD ok.o2 G2),gH t1.1 t1.2 t2.1 t2.2 fun k=>?_⟩
     obtain⟨k1,k2⟩:=cL.mp k
     obtain⟨k2,k3⟩:=cL.mp k2
     rw[r.em k1,a5 k2,b5 k3]
   ·cases e
  ·exact bad fun x y w=>by
    unfold EI
    split
    ·rename_i heq;cases heq;exact absurd rfl h5
    ·rfl
 |_=>exact bad fun _ _ _=>rfl
end
section
open PySem
variable{σ:Sg}
def uo:Prop:=∀ x l,(x,l)∈og→∃ F:Fl→Bool,(∀ f g:Fl,(∀ j∈l,f.toV[j]?=g.toV[j]?)→F f=F g)∧∀ c (H:Hp) (p:Pt) (w:W),p.ok H→∃ o,ab T (c+1) (fnOf "_law_holds") [.ref p.f,.str x] (ao H p w)=some (.bool (F w.f),ao (H++[o]) p w)
theorem pX{as:List AV}{xs ys:List MV}(h:al σ as xs ys):∀ {l:List Nat} {d:Nat},nZ as l=some d→vO σ d→∀ j∈l,xs[j]?=ys[j]?
 |[],_,_,_=>fun j hj=>by simp at hj
 |i::r,d,e,k=>fun j hj=>by
  unfold nZ at e
  cases q:as[i]? with
  |none=>rw[q] at e;cases e
  |some x=>
   rw[q] at e
   dsimp only at e
   cases q1:oj x with
   |none=>rw[q1] at e;cases e
   |some p=>
    obtain⟨lo,hi,d1⟩:=p
    rw[q1] at e
    cases q2:nZ as r with
    |none=>rw[q2] at e;cases e
    |some d2=>
     rw[q2] at e
     cases e
     obtain⟨k1,k2⟩:=cL.mp k
     simp at hj
     rcases hj with rfl|hj
     ·obtain⟨u,v,e1,e2,rr⟩:=al.get j h q
      obtain⟨x1,x2,rfl,rfl,a1,a2,a3,a4,a5⟩:=bo rr q1
      rw[e1,e2,a5 k1]
     ·exact pX h q2 k2 j hj
theorem C1(ok:σ.Ok)(hh:uo){x:Str}{o:AV}{oa ob:MV}(ho:aH σ o oa ob)(c:Nat):aX σ (aH σ) (F2 x o) (ab T (c+1) (fnOf "_law_holds") [oa,.str x]) (ab T (c+1) (fnOf "_law_holds") [ob,.str x]):=fun aw h1 h2 a aw' s e=>by
 obtain⟨G1,G2,w1,w2,rfl,rfl,r⟩:=s
 unfold F2 at e
 split at e
 ·simp only[aH] at ho
  obtain⟨rfl,rfl⟩:=ho
  split at e
  ·rename_i p q
   have hm:=List.mem_of_find?_eq_some q
   have hq:=List.find?_some q
   have hx:=bz hq
   cases q2:nZ aw.f p.2 with
   |none=>rw[q2] at e;cases e
   |some d=>
    rw[q2] at e
    cases e
    obtain⟨y,l⟩:=p
    dsimp only at hx q2
    subst hx
    obtain⟨F,f1,f2⟩:=hh y l hm
    obtain⟨g1,e1⟩:=f2 c (σ.B1++G1) σ.p1 w1 (bD ok.o1 G1)
    obtain⟨g2,e2⟩:=f2 c (σ.B2++G2) σ.p2 w2 (bD ok.o2 G2)
    refine⟨_,_,_,_,e1,e2,?_,⟨G1++[g1],G2++[g2],w1,w2,by rw[List.append_assoc],by rw[List.append_assoc],{ r with }⟩,fun t=>absurd t (by dsimp only;omega),by dsimp only;omega⟩
    simp only[aH]
    exact⟨_,_,rfl,rfl,fun k=>f1 _ _ (pX r.f q2 k)⟩
  ·cases e
 ·cases e
theorem GA{t:AM AB}{A B:AM AV}{t1 t2:M Bool}{A1 A2 B1 B2:M MV}(ht:aX σ (dn σ) t t1 t2)(hA:aX σ (aH σ) A A1 A2)(hB:aX σ (aH σ) B B1 B2):aX σ (aH σ) (Ll t A B) (ifT t1 A1 B1) (ifT t2 A2 B2):=fun aw h1 h2 a aw' s e=>by
 unfold Ll at e
 cases q:t aw with
 |none=>rw[q] at e;cases e
 |some p=>
  obtain⟨b,aw1⟩:=p
  rw[q] at e
  obtain⟨b1,k1,b2,k2,e1,e2,rb,s1,u1,jd⟩:=ht aw h1 h2 b aw1 s q
  rw[cF,cF,aa,aa,e1,e2]
  cases b with
  |k b=>
   dsimp only at e ⊢
   simp only[dn] at rb
   obtain⟨rb1,rb2⟩:=rb
   rw[rb1,rb2]
   clear rb1 rb2 e1 e2
   cases b with
   |true=>
    obtain⟨x,q1,y,q2,f1,f2,rr,s2,u2,le2⟩:=hA aw1 k1 k2 a aw' s1 e
    refine⟨x,q1,y,q2,f1,f2,rr,s2,fun t=>?_,Nat.le_trans jd le2⟩
    have a1:=u1 (by omega)
    have a2:=u2 (by omega)
    exact⟨a2.1.trans a1.1,a2.2.trans a1.2⟩
   |false=>
    obtain⟨x,q1,y,q2,f1,f2,rr,s2,u2,le2⟩:=hB aw1 k1 k2 a aw' s1 e
    refine⟨x,q1,y,q2,f1,f2,rr,s2,fun t=>?_,Nat.le_trans jd le2⟩
    have a1:=u1 (by omega)
    have a2:=u2 (by omega)
    exact⟨a2.1.trans a1.1,a2.2.trans a1.2⟩
  |u d=>
   dsimp only at e ⊢
   cases qa:A aw1 with
   |none=>rw[qa] at e;cases e
   |some pa=>
    obtain⟨va,awa⟩:=pa
    cases qb:B aw1 with
    |none=>rw[qa,qb] at e;cases e
    |some pb=>
     obtain⟨vb,awb⟩:=pb
     rw[qa,qb] at e
     dsimp only at e
     obtain⟨x1,a1,y1,a2,f1,f2,r1,s2,u2,le2⟩:=hA aw1 k1 k2 va awa s1 qa
     obtain⟨x2,c1,y2,c2,g1,g2,r2,s3,u3,le3⟩:=hB aw1 k1 k2 vb awb s1 qb
     cases q3:awa.tk==aw1.tk&&awb.tk==aw1.tk with
     |true=>
      rw[q3] at e
      simp only[Bool.and_eq_true,beq_iff_eq] at q3
      obtain⟨rfl,rfl⟩:=u2 q3.1
      obtain⟨rfl,rfl⟩:=u3 q3.2
      cases q4:gQ d va vb with
      |none=>rw[q4] at e;cases e
      |some v=>
       rw[q4] at e
       cases e
       simp only[dn] at rb
       cases b1<;>cases b2
       ·exact⟨_,_,_,_,g1,g2,pA r2 q4,s1,u1,jd⟩
       ·exact⟨_,_,_,_,g1,f2,(wz r1 r2 q4 (fun k=>by have:=rb k;cases this)).2,s1,u1,jd⟩
       ·exact⟨_,_,_,_,f1,g2,(wz r1 r2 q4 (fun k=>by have:=rb k;cases this)).1,s1,u1,jd⟩
       ·exact⟨_,_,_,_,f1,f2,pG r1 q4 (Or.inr trivial),s1,u1,jd⟩
     |false=>
      rw[q3] at e
      cases q4:d==0 with
      |false=>rw[q4] at e;cases e
      |true=>
       rw[q4] at e
       have hd:d=0:=by simpa using q4
       subst hd
       have hb:=rb N5
       subst hb
       cases q5:gQ 0 va vb with
       |none=>rw[q5] at e;cases e
       |some v=>
        cases q6:tw awa awb with
        |none=>rw[q5,q6] at e;cases e
        |some w=>
         rw[q5,q6] at e
         cases e
         obtain⟨jt,jl,jr⟩:=qw q6
         have hne:¬ (aw'.tk=aw.tk):=by
          simp only[Bool.and_eq_false_iff,beq_eq_false_iff_ne] at q3
          omega
         cases b1
         ·obtain⟨G1,G2,w1,w2,p1,p2,rw'⟩:=s3
          exact⟨_,_,_,_,g1,g2,pA r2 q5,⟨G1,G2,w1,w2,p1,p2,jr _ _ rw'⟩,fun t=>absurd t hne,by omega⟩
         ·obtain⟨G1,G2,w1,w2,p1,p2,rw'⟩:=s2
          exact⟨_,_,_,_,f1,f2,pG r1 q5 (Or.inr trivial),⟨G1,G2,w1,w2,p1,p2,jl _ _ rw'⟩,fun t=>absurd t hne,by omega⟩
def oK(x:Bool)(t r:M Bool):M Bool:=bnd t fun b=>bif b==x then r else ret (!x)
theorem ut(t r:M Bool):oK true t r=bnd t fun b=>bif b then r else ret false:=by
 unfold oK;congr 1;funext b;cases b<;>rfl
theorem BX(t r:M Bool):oK false t r=bnd t fun b=>bif b then ret true else r:=by
 unfold oK;congr 1;funext b;cases b<;>rfl
theorem GV{q:AB}{x y:Bool}(h:dn σ q x y)(k:vO σ (M3 q)):x=y:=by
 cases q with
 |k b=>simp only[dn] at h;exact h.1.trans h.2.symm
 |u d=>simp only[dn] at h;exact h k
theorem lD{x:Bool}{t r:AM AB}{t1 t2 r1 r2:M Bool}(ht:aX σ (dn σ) t t1 t2)(hr:aX σ (dn σ) r r1 r2):aX σ (dn σ) (rA x t r) (oK x t1 r1) (oK x t2 r2):=fun aw h1 h2 a aw' s e=>by
 unfold rA at e
 cases q:t aw with
 |none=>rw[q] at e;cases e
 |some p=>
  obtain⟨b,aw1⟩:=p
  rw[q] at e
  obtain⟨b1,k1,b2,k2,e1,e2,rb,s1,u1,jd⟩:=ht aw h1 h2 b aw1 s q
  unfold oK
  rw[aa,aa,e1,e2]
  cases b with
  |k b=>
   dsimp only at e ⊢
   simp only[dn] at rb
   obtain⟨rb1,rb2⟩:=rb
   rw[rb1,rb2]
   clear rb1 rb2 e1 e2
   cases q2:b==x with
   |true=>
    rw[q2] at e
    obtain⟨x',c1,y,c2,f1,f2,rr,s2,u2,le2⟩:=hr aw1 k1 k2 a aw' s1 e
    refine⟨x',c1,y,c2,f1,f2,rr,s2,fun t=>?_,Nat.le_trans jd le2⟩
    have a1:=u1 (by omega)
    have a2:=u2 (by omega)
    exact⟨a2.1.trans a1.1,a2.2.trans a1.2⟩
   |false=>
    rw[q2] at e
    cases e
    exact⟨_,_,_,_,rfl,rfl,jU _,s1,u1,jd⟩
  |u d=>
   dsimp only at e ⊢
   cases qa:r aw1 with
   |none=>rw[qa] at e;cases e
   |some pa=>
    obtain⟨va,awa⟩:=pa
    rw[qa] at e
    dsimp only at e
    obtain⟨x1,a1,y1,a2,f1,f2,r1',s2,u2,le2⟩:=hr aw1 k1 k2 va awa s1 qa
    cases q3:awa.tk==aw1.tk with
    |false=>rw[q3] at e;cases e
    |true=>
     rw[q3] at e
     cases e
     obtain⟨rfl,rfl⟩:=u2 (by simpa using q3)
     simp only[dn] at rb
     cases q4:b1==x<;>cases q5:b2==x
     ·exact⟨_,_,_,_,rfl,rfl,by simp only[dn];exact fun _=>trivial,s1,u1,jd⟩
     ·refine⟨_,_,_,_,rfl,f2,?_,s1,u1,jd⟩
      simp only[dn]
      intro k
      have:=rb (cL.mp k).1
      subst this
      rw[q4] at q5
      cases q5
     ·refine⟨_,_,_,_,f1,rfl,?_,s1,u1,jd⟩
      simp only[dn]
      intro k
      have:=rb (cL.mp k).1
      subst this
      rw[q4] at q5
      cases q5
     ·refine⟨_,_,_,_,f1,f2,?_,s1,u1,jd⟩
      simp only[dn]
      intro k
      exact GV r1' (cL.mp k).2
theorem al.upd{as:List AV}:∀ {xs ys:List MV} (j:Nat) {v:AV} {x y:MV},al σ as xs ys→xs[j]?=some x→ys[j]?=some y→aH σ v x y→al σ (as.set j v) xs ys:=by
 induction as with
 |nil=>intro xs ys j v x y h _ _ _;exact h
 |cons a r ih=>
  intro xs ys j v x y h e1 e2 e
  simp only[al] at h
  obtain⟨x',xs',y',ys',rfl,rfl,h1,h2⟩:=h
  cases j with
  |zero=>
   simp only[List.getElem?_cons_zero,Option.some.injEq] at e1 e2
   subst e1 e2
   simp only[List.set_cons_zero]
   exact al.cons e h2
  |succ j=>
   simp only[List.getElem?_cons_succ] at e1 e2
   simp only[List.set_cons_succ]
   exact al.cons h1 (ih j h2 e1 e2 e)
theorem bR{e:List MV}{j:Nat}{x:MV}(h:e[j]?=some x):eY e j=ret x:=by unfold eY;rw[h]
theorem HS{ae:List AV}{e1 e2:List MV}(he:al σ ae e1 e2){j:Nat}{A:AM AV}{B:List AV→AM AV}{A1 A2 B1 B2:M MV}(hA:aX σ (aH σ) A A1 A2)(hB:∀ ae,al σ ae e1 e2→aX σ (aH σ) (B ae) B1 B2):aX σ (aH σ) (K5 ae[j]? A fun x=>B (bif x then Er ae j else ae)) (ifT (aO .Eq (eY e1 j) (ret (.int 0))) A1 B1) (ifT (aO .Eq (eY e2 j) (ret (.int 0))) A2 B2):=fun aw h1 h2 a aw' s e=>by
 unfold K5 at e
 cases q:ae[j]? with
 |none=>rw[q] at e;cases e
 |some x=>
  rw[q] at e
  dsimp only at e
  cases q1:oj x with
  |none=>rw[q1] at e;cases e
  |some p=>
   obtain⟨lo,hi,d⟩:=p
   rw[q1] at e
   dsimp only at e
   obtain⟨u,v,m1,m2,rr⟩:=al.get j he q
   obtain⟨x1,x2,rfl,rfl,a1,a2,a3,a4,a5⟩:=bo rr q1
   cases q2:d==0 with
   |false=>rw[q2] at e;cases e
   |true=>
    rw[q2] at e
    simp only[cond_true] at e
    have hd:d=0:=by simpa using q2
    subst hd
    have hx:=a5 N5
    subst hx
    rw[bR m1,bR m2]
    have aQ:∀ (P Q:M MV) (h:Hp),ifT (aO .Eq (ret (.int x1)) (ret (.int 0))) P Q h=(bif x1==0 then P else Q) h:=fun P Q h=>rfl
    rw[aQ,aQ]
    cases q3:decide (1≤lo) with
    |true=>
     rw[q3] at e
     simp only[decide_eq_true_eq] at q3
     rw[beq_false_of_ne (show x1≠0 by omega)]
     exact hB ae he aw h1 h2 a aw' s e
    |false=>
     rw[q3] at e
     simp only[cond_false] at e
     cases q4:lo==0&&hi==0 with
     |true=>
      rw[q4] at e
      simp only[Bool.and_eq_true,beq_iff_eq] at q4
      rw[show(x1==0)=true by simp;omega]
      exact hA aw h1 h2 a aw' s e
     |false=>
      rw[q4] at e
      simp only[cond_false] at e
      cases q5:lo==0 with
      |false=>rw[q5] at e;cases e
      |true=>
       rw[q5] at e
       have hlo:lo=0:=by simpa using q5
       subst hlo
       simp only[cond_true] at e
       cases qa:A aw with
       |none=>rw[qa] at e;cases e
       |some pa=>
        obtain⟨va,awa⟩:=pa
        cases qb:B (Er ae j) aw with
        |none=>rw[qa,qb] at e;cases e
        |some pb=>
         obtain⟨vb,awb⟩:=pb
         rw[qa,qb] at e
         dsimp only at e
         cases q5:gQ 0 va vb with
         |none=>rw[q5] at e;cases e
         |some v=>
          cases q6:tw awa awb with
          |none=>rw[q5,q6] at e;cases e
          |some w=>
           rw[q5,q6] at e
           cases e
           obtain⟨jt,jl,jr⟩:=qw q6
           cases q7:x1==0 with
           |true=>
            obtain⟨y1,c1,y2,c2,f1,f2,r1,s2,u2,le2⟩:=hA aw h1 h2 va awa s qa
            obtain⟨G1,G2,w1,w2,p1,p2,rw'⟩:=s2
            refine⟨_,_,_,_,f1,f2,pG r1 q5 (Or.inr trivial),⟨G1,G2,w1,w2,p1,p2,jl _ _ rw'⟩,fun t=>u2 (by omega),by omega⟩
           |false=>
            have hne:x1≠0:=by simpa using q7
            have hr:al σ (Er ae j) e1 e2:=by
             unfold Er
             rw[q]
             split
             ·rename_i b d' hq
              cases hq
              cases q1
              exact al.upd j he m1 m2 (gH (by omega) (by omega) (by omega) (by omega) fun _=>rfl)
             ·exact he
            obtain⟨y1,c1,y2,c2,f1,f2,r1,s2,u2,le2⟩:=hB _ hr aw h1 h2 vb awb s qb
            obtain⟨G1,G2,w1,w2,p1,p2,rw'⟩:=s2
            refine⟨_,_,_,_,f1,f2,pA r1 q5,⟨G1,G2,w1,w2,p1,p2,jr _ _ rw'⟩,fun t=>u2 (by omega),by omega⟩
end
section
open PySem
variable{σ:Sg}
def KV(k n:Nat):List MV:=(List.range' k n).map fun(j:Nat)=>MV.int (j:Int)
theorem w8{z:Int}(h0:0≤z)(h1:z≤64):dN [.int z]=some (KV 0 z.toNat):=by
 have hs:small z=true:=by unfold small;simp;omega
 show(bif small z then some (di 0 z) else none)=_
 rw[hs]
 simp only[cond_true,di,KV,Int.sub_zero,List.range_eq_range',Int.zero_add]
def OM(σ:Sg)(n:Nat)(p:Int×Int×Nat)(xs ys:List MV):Prop:=xs.length=n∧ys.length=n∧∃ u v,ql xs=some u∧ql ys=some v∧p.1≤u∧u≤p.2.1∧p.1≤v∧v≤p.2.1∧(vO σ p.2.2→u=v)
theorem wZ{f:AV→AM AV}{g1 g2:MV→M MV}(hf:∀ k:Nat,aX σ (aH σ) (f (.c (.int k))) (g1 (.int k)) (g2 (.int k))):∀ n k,aX σ (OM σ n) (CP f n k) (bQ (fun c=>bn (ret true) (g1 c)) (KV k n)) (bQ (fun c=>bn (ret true) (g2 c)) (KV k n))
 |0,k=>aX.ret ⟨rfl,rfl,0,0,rfl,rfl,Int.le_refl _,Int.le_refl _,Int.le_refl _,Int.le_refl _,fun _=>rfl⟩
 |n+1,k=>by
  have e:∀ g:MV→M MV,bQ (fun c=>bn (ret true) (g c)) (KV k (n+1))=bnd (g (.int k)) fun y=>bnd (bQ (fun c=>bn (ret true) (g c)) (KV (k+1) n)) fun ys=>ret (y::ys):=fun g=>by
   show bnd (bnd (g (.int k)) fun y=>ret (some y)) _=_
   rw[d5]
   rfl
  rw[e,e]
  refine aX.bnd (hf k) fun x a b hab=>?_
  cases q:oj x with
  |none=>exact fun aw h1 h2 a aw' s e=>by cases e
  |some p=>
   obtain⟨lo,hi,d⟩:=p
   obtain⟨x1,x2,rfl,rfl,a1,a2,a3,a4,a5⟩:=bo hab q
   show aX σ _ (a0 (CP f n (k+1)) _) _ _
   refine aX.bnd (wZ hf n (k+1)) fun p xs ys h=>aX.ret ?_
   obtain⟨l1,l2,u,v,e1,e2,c1,c2,c3,c4,c5⟩:=h
   refine⟨by simp[l1],by simp[l2],x1+u,x2+v,by simp[ql,e1],by simp[ql,e2],by dsimp only;omega,by dsimp only;omega,by dsimp only;omega,by dsimp only;omega,fun k=>?_⟩
   obtain⟨k1,k2⟩:=cL.mp k
   rw[a5 k1,c5 k2]
theorem Bw{l:List MV}{u:Int}(h:l.length≤64)(e:ql l=some u):builtin "sum" [.lst l]=ret (.int u):=by
 funext H
 show(bif bZ l then (ql l).map fun i=>(MV.int i,H) else none)=_
 rw[bN (by omega),e];rfl
theorem Bg(W:M MV)(F:MV→M (Option MV)):cU "sum" [bw (ee [W]) F]=bnd W fun v=>bnd (opt (dN [v])) fun vs=>bnd (bQ F vs) fun ys=>builtin "sum" [.lst ys]:=by
 show bnd (fu [bnd (bnd (fu [W]) fun vs=>opt (dN vs)) fun vs=>bnd (bQ F vs) fun ys=>ret (.lst ys)]) (fun vs=>builtin "sum" vs)=_
 rw[vV,vV,d5,d5]
 simp only[d5]
 rfl
theorem Ec{f:AV→AM AV}{am:AM AV}{W1 W2:M MV}{g1 g2:MV→M MV}(hw:aX σ (aH σ) am W1 W2)(hf:∀ k:Nat,aX σ (aH σ) (f (.c (.int k))) (g1 (.int k)) (g2 (.int k))):aX σ (aH σ) (a0 am fun n=>match n with
   |.c (.int z)=>bif decide (0≤z)&&decide (z≤64) then a0 (CP f z.toNat 0) fun p=>iT (.i p.1 p.2.1 p.2.2) else fj
   |_=>fj) (cU "sum" [bw (ee [W1]) fun c=>bn (ret true) (g1 c)]) (cU "sum" [bw (ee [W2]) fun c=>bn (ret true) (g2 c)]):=by
 rw[Bg,Bg]
 refine aX.bnd hw fun x a b hab=>?_
 split
 ·rename_i z
  simp only[aH] at hab
  obtain⟨rfl,rfl⟩:=hab
  cases q:decide (0≤z)&&decide (z≤64) with
  |false=>exact aX.nop
  |true=>
   simp only[Bool.and_eq_true,decide_eq_true_eq] at q
   rw[w8 q.1 q.2]
   show aX σ _ (a0 (CP f z.toNat 0) _) (bnd (bQ _ (KV 0 z.toNat)) _) (bnd (bQ _ (KV 0 z.toNat)) _)
   refine aX.bnd (wZ hf _ _) fun p xs ys h=>?_
   obtain⟨l1,l2,u,v,e1,e2,c1,c2,c3,c4,c5⟩:=h
   rw[Bw (by omega) e1,Bw (by omega) e2]
   exact aX.ret (gH c1 c2 c3 c4 c5)
 ·exact aX.nop
def Cw(O W S Hh:M MV):M MV:=bu .Add (bu .Sub O (bu .Mult (bu .Mod (bu .FloorDiv O (bu .Pow (ret (.int 2)) Hh)) (bu .Pow (ret (.int 2)) S)) (bu .Pow (ret (.int 2)) Hh))) (bu .Mult (bu .Mod W (bu .Pow (ret (.int 2)) S)) (bu .Pow (ret (.int 2)) Hh))
theorem B3{o w s h:Int}(ho:0≤o)(hs:0≤s)(hs2:s≤64)(hh:0≤h)(hh2:h≤64):Cw (ret (.int o)) (ret (.int w)) (ret (.int s)) (ret (.int h))=ret (.int (o - o / p2 h % p2 s * p2 h+w % p2 s * p2 h)):=by
 funext H
 have e1:=NO (k:=s) hs (by omega)
 have e2:=NO (k:=h) hh (by omega)
 have f1:∀ x:Int,x.fdiv (p2 h)=x / p2 h:=fun x=>Int.fdiv_eq_ediv_of_nonneg x (Int.le_of_lt (sk h))
 have f2:∀ x:Int,x.fmod (p2 s)=x % p2 s:=fun x=>Int.fmod_eq_emod_of_nonneg x (Int.le_of_lt (sk s))
 have f3:∀ x:Int,sm (x % p2 s)=true:=fun x=>rI ⟨by have:=Int.emod_nonneg x (Hq s);have:(0:Int) < 2 ^ 2000:=Int.pow_pos (by decide);omega,by have:=Int.emod_lt_of_pos x (sk s);have:=Int.le_trans (KD (k:=s) (by omega)) (iL (show 1000≤2000 by decide));omega⟩
 have g1:=BO (a:=o) (Em (k:=h) (by omega)) (Hq h)
 have g2:∀ x:Int,bF .Mod (.int x) (.int (p2 s))=some (.int (x % p2 s)):=fun x=>by rw[tE (Em (k:=s) (by omega)) (Hq s),f2]
 have g3:∀ x:Int,bF .Mult (.int (x % p2 s)) (.int (p2 h))=some (.int (x % p2 s * p2 h)):=fun x=>Hi (f3 x) (Em (k:=h) (by omega))
 rw[f1] at g1
 simp only[Cw,bI,aa,ad,kT,e1,e2,g1,g2,g3,M7,HJ]
theorem Gb{o w s h:Int}(h0:0≤o)(h1:o≤18446744073709551615)(q:(s=8∧h=0)∨(s=16∧h=0)∨(s=8∧h=8)):0≤o - o / p2 h % p2 s * p2 h+w % p2 s * p2 h∧o - o / p2 h % p2 s * p2 h+w % p2 s * p2 h≤18446744073709551615:=by
 have e0:p2 0=1:=rfl
 have e8:p2 8=256:=by decide
 have e16:p2 16=65536:=by decide
 rcases q with⟨rfl,rfl⟩|⟨rfl,rfl⟩|⟨rfl,rfl⟩
 ·rw[e0,e8];omega
 ·rw[e0,e16];omega
 ·rw[e8];omega
theorem Hz{o w s h z:AV}{o1 o2 w1 w2 s1 s2 h1 h2:MV}(ho:aH σ o o1 o2)(hw:aH σ w w1 w2)(hs:aH σ s s1 s2)(hh:aH σ h h1 h2)(e:Hu o w s h=some z):∃ x y,Cw (ret o1) (ret w1) (ret s1) (ret h1)=ret x∧Cw (ret o2) (ret w2) (ret s2) (ret h2)=ret y∧aH σ z x y:=by
 unfold Hu at e
 split at e
 ·rename_i a b d a' b' d' s' h' q1 q2 q3
  obtain⟨x1,x2,rfl,rfl,a1,a2,a3,a4,a5⟩:=bo ho q1
  obtain⟨y1,y2,rfl,rfl,b1,b2,b3,b4,b5⟩:=bo hw q2
  obtain⟨rfl,rfl,rfl,rfl⟩:=FF hs hh q3
  cases q:jh a&&jh b&&bd a'&&bd b'&&((s'==8&&h'==0)||(s'==16&&h'==0)||(s'==8&&h'==8)) with
  |false=>rw[q] at e;cases e
  |true=>
   rw[q] at e
   cases e
   simp only[Bool.and_eq_true,Bool.or_eq_true,beq_iff_eq] at q
   obtain⟨⟨⟨⟨k1,k2⟩,k3⟩,k4⟩,k5⟩:=q
   have k5:(s'=8∧h'=0)∨(s'=16∧h'=0)∨(s'=8∧h'=8):=by rcases k5 with(k|k)|k<;>simp[k]
   have m1:=cX k1
   have m2:=cX k2
   have r1:=Gb (o:=x1) (w:=y1) (by omega) (by omega) k5
   have r2:=Gb (o:=x2) (w:=y2) (by omega) (by omega) k5
   refine⟨_,_,B3 (by omega) (by omega) (by omega) (by omega) (by omega),B3 (by omega) (by omega) (by omega) (by omega) (by omega),gH r1.1 r1.2 r2.1 r2.2 fun k=>?_⟩
   obtain⟨k1,k2⟩:=cL.mp k
   rw[a5 k1,b5 k2]
 ·cases e
end
section
open PySem
structure Pq where
 v:Nat→Prop:=fun _=>True
 a:Str→Nat→Prop:=fun _ _=>True
def aj:D→Pq
 |.v _=>{}
 |.k _=>{}
 |.op _ a b=>{
  v:=fun c=>(aj a).v c∧(aj b).v c }
 |.neg a=>{
  v:=fun c=>(aj a).v c }
 |.ite t a b=>{
  v:=fun c=>(aj t).v c∧(aj a).v c∧(aj b).v c }
 |.bl t=>{
  v:=fun c=>(aj t).v c }
 |.idx a b=>{
  v:=fun c=>(aj a).v c∧(aj b).v c }
 |.tup l=>{
  v:=fun c=>(aj l).v c }
 |.lst l=>{
  v:=fun c=>(aj l).v c }
 |.call f alts l=>{
  v:=fun c=>(aj alts).a f c∧(aj l).v c }
 |.hold _ a=>{
  v:=fun c=>(∃ n,c=n+1)∧(aj a).v c }
 |.bsum w b=>{
  v:=fun c=>(aj w).v c∧(aj b).v c }
 |.letE a b=>{
  v:=fun c=>(aj a).v c∧(aj b).v c }
 |.set x o i k=>{
  v:=fun c=>(aj x).v c∧(aj o).v c∧(aj i).v c∧(aj k).v c }
 |.app o x k=>{
  v:=fun c=>(aj o).v c∧(aj x).v c∧(aj k).v c }
 |.get o a b=>{
  v:=fun c=>(aj o).v c∧(aj a).v c∧(aj b).v c }
 |.ex a k=>{
  v:=fun c=>(aj a).v c∧(aj k).v c }
 |.un3 a k=>{
  v:=fun c=>(aj a).v c∧(aj k).v c }
 |.un2 _ _=>{}
 |.cmp _ a b=>{
  v:=fun c=>(aj a).v c∧(aj b).v c }
 |.cmp2 _ _ a b d=>{
  v:=fun c=>(aj a).v c∧(aj b).v c∧(aj d).v c }
 |.not t=>{
  v:=fun c=>(aj t).v c }
 |.all l=>{
  v:=fun c=>(aj l).v c }
 |.any l=>{
  v:=fun c=>(aj l).v c }
 |.tst a=>{
  v:=fun c=>(aj a).v c }
 |.nil=>{}
 |.cons a r=>{
  v:=fun c=>(aj a).v c∧(aj r).v c }
 |.tmp t f d r=>{
  a:=fun g c=>g=f∧(∃ n,c=n+1∧(aj d).v n)∧cW f t d∧(aj r).a g c }
 |.tm8 f d _=>{
  a:=fun g c=>g=f∧(∃ n,c=n+1∧(aj d).v n)∧O9 f d }
 |.pr _ a r=>{
  v:=fun c=>(aj a).v c∧(aj r).v c }
 |.dct _ l=>{
  v:=fun c=>(aj l).v c }
 |.ins _ _ _ _=>{}
 |.itz _ a b=>{
  v:=fun c=>(aj a).v c∧(aj b).v c }
def zk(σ:Sg):List (Str×AV)→List (MV×MV)→List (MV×MV)→Prop
 |[],xs,ys=>xs=[]∧ys=[]
 |(s,a)::r,xs,ys=>∃ x xs' y ys',xs=(.str s,x)::xs'∧ys=(.str s,y)::ys'∧aH σ a x y∧zk σ r xs' ys'
structure Pi(σ:Sg)(d:D):Prop where
 v:∀ c ae e1 e2,(aj d).v c→al σ ae e1 e2→aX σ (aH σ) ((cw σ.g d).v ae) ((aU (ab T c) d).v e1) ((aU (ab T c) d).v e2):=by exact fun _ _ _ _ _ _=>aX.nop
 t:∀ c ae e1 e2,(aj d).v c→al σ ae e1 e2→aX σ (dn σ) ((cw σ.g d).t ae) ((aU (ab T c) d).t e1) ((aU (ab T c) d).t e2):=by exact fun _ _ _ _ _ _=>aX.nop
 l:∀ c ae e1 e2,(aj d).v c→al σ ae e1 e2→aX σ (al σ) ((cw σ.g d).l ae) ((aU (ab T c) d).l e1) ((aU (ab T c) d).l e2):=by exact fun _ _ _ _ _ _=>aX.nop
 b:∀ c ae e1 e2,(aj d).v c→al σ ae e1 e2→aX σ (dn σ) ((cw σ.g d).b ae) ((aU (ab T c) d).b e1) ((aU (ab T c) d).b e2):=by exact fun _ _ _ _ _ _=>aX.nop
 o:∀ c ae e1 e2,(aj d).v c→al σ ae e1 e2→aX σ (dn σ) ((cw σ.g d).o ae) ((aU (ab T c) d).o e1) ((aU (ab T c) d).o e2):=by exact fun _ _ _ _ _ _=>aX.nop
 p:∀ c ae e1 e2,(aj d).v c→al σ ae e1 e2→aX σ (zk σ) ((cw σ.g d).p ae) ((aU (ab T c) d).p e1) ((aU (ab T c) d).p e2):=by exact fun _ _ _ _ _ _=>aX.nop
 a:∀ f c vs xs ys,(aj d).a f c→al σ vs xs ys→aX σ (aH σ) ((cw σ.g d).a vs) (ab T c (fnOf f) xs) (ab T c (fnOf f) ys):=by exact fun _ _ _ _ _ _ _=>aX.nop
variable{σ:Sg}
theorem Iz{m:MV}{v:AV}{x y:MV}(h:OT m v=true)(r:aH σ v x y):x=m∧y=m:=by
 unfold OT at h
 split at h
 ·simp only[aH] at r
  have:=eq_of_beq h
  subst this
  exact r
 ·simp only[aH] at r
  have:=bz h
  subst this
  exact r
 ·cases h
theorem pP:∀ {t:List (Option MV)} {P:List MV→Prop} {vs:List AV} {xs ys:List MV},Oe P t→zS t vs=true→al σ vs xs ys→P xs∧P ys
 |[],P,[],xs,ys,h,_,r=>by
  simp only[al] at r
  obtain⟨rfl,rfl⟩:=r
  exact⟨h,h⟩
 |none::t,P,v::vs,xs,ys,h,f,r=>by
  simp only[al] at r
  obtain⟨x,xs',y,ys',rfl,rfl,r1,r2⟩:=r
  exact⟨(pP (h x) f r2).1,(pP (h y) f r2).2⟩
 |some m::t,P,v::vs,xs,ys,h,f,r=>by
  simp only[al] at r
  obtain⟨x,xs',y,ys',rfl,rfl,r1,r2⟩:=r
  simp only[zS,Bool.and_eq_true] at f
  obtain⟨hx,hy⟩:=Iz f.1 r1
  rw[hx,hy]
  exact pP (P:=fun r=>P (m::r)) h f.2 r2
 |[],_,_::_,_,_,_,f,_=>by cases f
 |none::_,_,[],_,_,_,f,_=>by cases f
 |some _::_,_,[],_,_,_,f,_=>by cases f
theorem sX:∀ {es:List (Str×AV)} {xs ys:List (MV×MV)},zk σ es xs ys→∃ as bs,cj xs=some as∧cj ys=some bs∧as.map (·.1)=es.map (·.1)∧bs.map (·.1)=es.map (·.1)∧∀ x v,es.lookup x=some v→∃ a b,as.lookup x=some a∧bs.lookup x=some b∧aH σ v a b
 |[],xs,ys,h=>by
  simp only[zk] at h
  obtain⟨rfl,rfl⟩:=h
  exact⟨[],[],rfl,rfl,rfl,rfl,fun x v e=>by cases e⟩
 |(s,a)::r,xs,ys,h=>by
  simp only[zk] at h
  obtain⟨x,xs',y,ys',rfl,rfl,h1,h2⟩:=h
  obtain⟨as,bs,e1,e2,k1,k2,k3⟩:=sX h2
  refine⟨(s,x)::as,(s,y)::bs,by simp[cj,e1],by simp[cj,e2],by simp[k1],by simp[k2],fun z v e=>?_⟩
  rw[List.lookup_cons] at e ⊢
  rw[List.lookup_cons]
  cases q:z==s with
  |true=>rw[q] at e;cases e;exact⟨x,y,rfl,rfl,h1⟩
  |false=>rw[q] at e;exact k3 z v e
theorem Jd{am:AM (List AV)}{m1 m2:M (List MV)}(h:aX σ (al σ) am m1 m2):aX σ (aH σ) (a0 am fun vs=>bif Nat.ble vs.length 1000 then iT (.t vs) else fj) (bnd m1 fun vs=>bif bZ vs then ret (.tup vs) else fail) (bnd m2 fun vs=>bif bZ vs then ret (.tup vs) else fail):=aX.bnd h fun vs xs ys r=>by
 cases q:Nat.ble vs.length 1000 with
 |false=>exact aX.nop
 |true=>
  have hl:=Nat.le_of_ble_eq_true q
  obtain⟨l1,l2⟩:=al.len r
  rw[bN (l:=xs) (by omega),bN (l:=ys) (by omega)]
  exact aX.ret (by simp only[aH];exact⟨_,_,rfl,rfl,r⟩)
theorem I9{am:AM (List AV)}{m1 m2:M (List MV)}(h:aX σ (al σ) am m1 m2):aX σ (aH σ) (a0 am fun vs=>bif Nat.ble vs.length 1000 then iT (.l vs) else fj) (bnd m1 fun vs=>bif bZ vs then ret (.lst vs) else fail) (bnd m2 fun vs=>bif bZ vs then ret (.lst vs) else fail):=aX.bnd h fun vs xs ys r=>by
 cases q:Nat.ble vs.length 1000 with
 |false=>exact aX.nop
 |true=>
  have hl:=Nat.le_of_ble_eq_true q
  obtain⟨l1,l2⟩:=al.len r
  rw[bN (l:=xs) (by omega),bN (l:=ys) (by omega)]
  exact aX.ret (by simp only[aH];exact⟨_,_,rfl,rfl,r⟩)
theorem Iy{q:AB}{x y:Bool}(h:dn σ q x y):aH σ (Oi q) (.bool x) (.bool y):=by
 cases q with
 |k b=>simp only[dn] at h;simp only[Oi,aH];rw[h.1,h.2];exact⟨rfl,rfl⟩
 |u d=>simp only[dn] at h;simp only[Oi,aH];exact⟨_,_,rfl,rfl,h⟩
theorem J9{x:AV}{a b:MV}{q:AB}(h:aH σ x a b)(e:Od x=some q):∃ u v,cI a=ret u∧cI b=ret v∧dn σ q u v:=by
 unfold Od at e
 split at e
 ·rename_i b'
  cases e
  simp only[aH] at h
  obtain⟨rfl,rfl⟩:=h
  exact⟨b',b',rfl,rfl,jU _⟩
 ·cases e
  simp only[aH] at h
  obtain⟨u,v,rfl,rfl,h⟩:=h
  exact⟨u,v,rfl,rfl,by simp only[dn];exact h⟩
 ·cases e
theorem B9(o p:CmpOp)(A B C:M MV):cmp2 o p A B C=bnd A fun a=>bnd B fun b=>oK true (dA o a b) (bnd C fun d=>dA p b d):=by
 unfold cmp2
 simp only[ut]
theorem qT(ok:σ.Ok){o:CmpOp}{x y:AV}{a b c d:MV}(h:aH σ x a b)(h':aH σ y c d):aX σ (dn σ) (jc (yF o x y)) (dA o a c) (dA o b d):=fun aw h1 h2 q aw' s e=>by
 unfold jc at e
 cases k:yF o x y with
 |none=>rw[k] at e;cases e
 |some r=>
  rw[k] at e
  cases e
  obtain⟨u,v,e1,e2,rr⟩:=Fb ok h h' k
  exact⟨u,h1,v,h2,e1 h1,e2 h2,rr,s,fun _=>⟨rfl,rfl⟩,Nat.le_refl _⟩
theorem snd(ok:σ.Ok)(hh:uo):∀ d:D,Pi σ d
 |.v n=>{
  v:=fun c ae e1 e2 _ r=>by
   show aX σ _ (jc ae[n]?) (eY e1 n) (eY e2 n)
   cases q:ae[n]? with
   |none=>exact fun aw h1 h2 a aw' s e=>by cases e
   |some x=>
    obtain⟨u,v,m1,m2,rr⟩:=al.get n r q
    rw[bR m1,bR m2]
    exact aX.ret rr }
 |.k m=>{
  v:=fun c ae e1 e2 _ r=>aX.ret (bU m) }
 |.op o a b=>{
  v:=fun c ae e1 e2 k r=>aX.bnd ((snd ok hh a).v c ae e1 e2 k.1 r) fun x p q h1=>aX.bnd ((snd ok hh b).v c ae e1 e2 k.2 r) fun y p' q' h2=>aX.opt fun z e=>D8 h1 h2 e }
 |.neg a=>{
  v:=fun c ae e1 e2 k r=>aX.bnd ((snd ok hh a).v c ae e1 e2 k r) fun x p q h1=>aX.opt fun z e=>HP h1 e }
 |.ite t a b=>{
  v:=fun c ae e1 e2 k r=>GA ((snd ok hh t).t c ae e1 e2 k.1 r) ((snd ok hh a).v c ae e1 e2 k.2.1 r) ((snd ok hh b).v c ae e1 e2 k.2.2 r) }
 |.bl t=>{
  v:=fun c ae e1 e2 k r=>aX.bnd ((snd ok hh t).t c ae e1 e2 k r) fun x p q h1=>aX.ret (Iy h1) }
 |.idx a b=>{
  v:=fun c ae e1 e2 k r=>aX.bnd ((snd ok hh a).v c ae e1 e2 k.1 r) fun x p q h1=>aX.bnd ((snd ok hh b).v c ae e1 e2 k.2 r) fun y p' q' h2=>Go ok h1 h2 }
 |.tup l=>{
  v:=fun c ae e1 e2 k r=>Jd ((snd ok hh l).l c ae e1 e2 k r) }
 |.lst l=>{
  v:=fun c ae e1 e2 k r=>I9 ((snd ok hh l).l c ae e1 e2 k r) }
 |.call f alts l=>{
  v:=fun c ae e1 e2 k r=>aX.bnd ((snd ok hh l).l c ae e1 e2 k.2 r) fun vs xs ys h=>(snd ok hh alts).a f c vs xs ys k.1 h }
 |.hold x a=>{
  v:=fun c ae e1 e2 k r=>by
   obtain⟨⟨n,rfl⟩,k⟩:=k
   exact aX.bnd ((snd ok hh a).v _ ae e1 e2 k r) fun o p q h1=>C1 ok hh h1 n }
 |.bsum w b=>{
  v:=fun c ae e1 e2 k r=>Ec ((snd ok hh w).v c ae e1 e2 k.1 r) fun n=>(snd ok hh b).v c _ _ _ k.2 (al.cons (bU _) r) }
 |.letE a b=>{
  v:=fun c ae e1 e2 k r=>aX.bnd ((snd ok hh a).v c ae e1 e2 k.1 r) fun x p q h1=>(snd ok hh b).v c _ _ _ k.2 (al.cons h1 r) }
 |.set x o i kk=>{
  v:=fun c ae e1 e2 k r=>aX.bnd ((snd ok hh x).v c ae e1 e2 k.1 r) fun _ _ _ h1=>aX.bnd ((snd ok hh o).v c ae e1 e2 k.2.1 r) fun _ _ _ h2=>aX.bnd ((snd ok hh i).v c ae e1 e2 k.2.2.1 r) fun _ _ _ h3=>aX.bnd (Hf ok h1 h2 h3) fun _ _ _ _=>(snd ok hh kk).v c ae e1 e2 k.2.2.2 r }
 |.app o x kk=>{
  v:=fun c ae e1 e2 k r=>by
   have hk:=(snd ok hh kk).v c ae e1 e2 k.2.2 r
   have hx:=(snd ok hh x).v c ae e1 e2 k.2.1 r
   show aX σ _ (a0 ((cw σ.g o).v ae) fun o=>a0 ((cw σ.g x).v ae) fun x=>a0 (sq o x) fun _=>(cw σ.g kk).v ae) (dU (bk _ _ _ _) _) (dU (bk _ _ _ _) _)
   have ea:(fun o=>a0 ((cw σ.g x).v ae) fun x=>a0 (sq o x) fun _=>(cw σ.g kk).v ae)=fun o=>a0 (a0 ((cw σ.g x).v ae) fun x=>sq o x) fun _=>(cw σ.g kk).v ae:=by
    funext o w
    unfold a0
    cases (cw σ.g x).v ae w<;>rfl
   rw[ea]
   have em:∀ (cl:Fn→List MV→M MV) (O X K:M MV),dU (bk cl O "append" [X]) K=bnd O fun ov=>bnd (lg ov "append" (fun k=>bnd (fu [X]) fun vs=>bx k ov "append" vs) (match ov with
     |.inst C fs=>(match T.meth C "append" with
      |some fn=>bif (fs.lookup ("append":Str)).isSome then fail else bnd (fu [X]) fun vs=>cl fn (ov::vs)
      |none=>fail)
     |_=>fail)) fun v=>match v with
     |.none=>K
     |_=>fail:=fun cl O X K=>by
    unfold dU bk
    rw[d5]
    congr 1
    funext ov
    congr 1
    cases ov<;>rfl
   rw[em,em]
   refine aX.bnd ((snd ok hh o).v c ae e1 e2 k.1 r) fun o' p q h1=>aX.bnd (GF ok h1 hx) fun _ x y hxy=>?_
   obtain⟨rfl,rfl⟩:=hxy
   exact hk }
 |.get o a b=>{
  v:=fun c ae e1 e2 k r=>by
   have ha:=(snd ok hh a).v c ae e1 e2 k.2.1 r
   have hb:=(snd ok hh b).v c ae e1 e2 k.2.2 r
   have em:∀ (cl:Fn→List MV→M MV) (O X Y:M MV),bk cl O "get" [X,Y]=bnd O fun ov=>lg ov "get" (fun k=>bnd (fu [X,Y]) fun vs=>bx k ov "get" vs) (match ov with
     |.inst C fs=>(match T.meth C "get" with
      |some fn=>bif (fs.lookup ("get":Str)).isSome then fail else bnd (fu [X,Y]) fun vs=>cl fn (ov::vs)
      |none=>fail)
     |_=>fail):=fun cl O X Y=>by
    unfold bk
    congr 1
    funext ov
    cases ov<;>rfl
   show aX σ _ _ (bk _ _ _ _) (bk _ _ _ _)
   rw[em,em]
   exact aX.bnd ((snd ok hh o).v c ae e1 e2 k.1 r) fun o' p q h1=>GE ok h1 ha hb }
 |.ex a kk=>{
  v:=fun c ae e1 e2 k r=>aX.bnd ((snd ok hh a).v c ae e1 e2 k.1 r) fun x p q h1=>by
   split
   ·simp only[aH] at h1
    obtain⟨rfl,rfl⟩:=h1
    exact(snd ok hh kk).v c ae e1 e2 k.2 r
   ·exact aX.nop }
 |.un3 a kk=>{
  v:=fun c ae e1 e2 k r=>aX.bnd ((snd ok hh a).v c ae e1 e2 k.1 r) fun x p q h1=>by
   split
   ·simp only[aH] at h1
    obtain⟨xs,ys,rfl,rfl,h1⟩:=h1
    simp only[al] at h1
    obtain⟨x1,_,y1,_,rfl,rfl,r1,x2,_,y2,_,rfl,rfl,r2,x3,_,y3,_,rfl,rfl,r3,rfl,rfl⟩:=h1
    exact(snd ok hh kk).v c _ _ _ k.2 (al.cons r3 (al.cons r2 (al.cons r1 r)))
   ·simp only[aH] at h1
    obtain⟨rfl,rfl⟩:=h1
    exact(snd ok hh kk).v c _ _ _ k.2 (al.cons (bU _) (al.cons (bU _) (al.cons (bU _) r)))
   ·exact aX.nop }
 |.un2 _ _=>{}
 |.cmp o a b=>{
  t:=fun c ae e1 e2 k r=>aX.bnd ((snd ok hh a).v c ae e1 e2 k.1 r) fun x p q h1=>aX.bnd ((snd ok hh b).v c ae e1 e2 k.2 r) fun y p' q' h2=>qT ok h1 h2 }
 |.cmp2 o p a b d=>{
  t:=fun c ae e1 e2 k r=>by
   show aX σ _ _ (cmp2 _ _ _ _ _) (cmp2 _ _ _ _ _)
   rw[B9,B9]
   exact aX.bnd ((snd ok hh a).v c ae e1 e2 k.1 r) fun x p q h1=>aX.bnd ((snd ok hh b).v c ae e1 e2 k.2.1 r) fun y p' q' h2=>lD (qT ok h1 h2) (aX.bnd ((snd ok hh d).v c ae e1 e2 k.2.2 r) fun z p'' q'' h3=>qT ok h2 h3) }
 |.not t=>{
  t:=fun c ae e1 e2 k r=>aX.bnd ((snd ok hh t).t c ae e1 e2 k r) fun x p q h1=>by
   cases x with
   |k b=>simp only[dn] at h1;obtain⟨rfl,rfl⟩:=h1;exact aX.ret (jU _)
   |u d=>simp only[dn] at h1;exact aX.ret (by simp only[dn];intro k;rw[h1 k]) }
 |.all l=>{
  t:=fun c ae e1 e2 k r=>(snd ok hh l).b c ae e1 e2 k r }
 |.any l=>{
  t:=fun c ae e1 e2 k r=>(snd ok hh l).o c ae e1 e2 k r }
 |.tst a=>{
  t:=fun c ae e1 e2 k r=>aX.bnd ((snd ok hh a).v c ae e1 e2 k r) fun x p q h1=>by
   cases e:Od x with
   |none=>exact fun aw h1 h2 a aw' s e=>by cases e
   |some b=>
    obtain⟨u,v,m1,m2,rr⟩:=J9 h1 e
    rw[m1,m2]
    exact aX.ret rr }
 |.nil=>{
   l:=fun c ae e1 e2 _ r=>aX.ret (by simp only[al];exact⟨trivial,trivial⟩)
   b:=fun c ae e1 e2 _ r=>aX.ret (jU _)
   o:=fun c ae e1 e2 _ r=>aX.ret (jU _)
   p:=fun c ae e1 e2 _ r=>aX.ret (by simp only[zk];exact⟨trivial,trivial⟩) }
 |.cons a r'=>{
   l:=fun c ae e1 e2 k r=>aX.bnd ((snd ok hh a).v c ae e1 e2 k.1 r) fun x p q h1=>aX.bnd ((snd ok hh r').l c ae e1 e2 k.2 r) fun y p' q' h2=>aX.ret (al.cons h1 h2)
   b:=fun c ae e1 e2 k r=>by
    have:=lD (x:=true) ((snd ok hh a).t c ae e1 e2 k.1 r) ((snd ok hh r').b c ae e1 e2 k.2 r)
    rw[ut,ut] at this
    exact this
   o:=fun c ae e1 e2 k r=>by
    have:=lD (x:=false) ((snd ok hh a).t c ae e1 e2 k.1 r) ((snd ok hh r').o c ae e1 e2 k.2 r)
    rw[BX,BX] at this
    exact this }
 |.tmp t f d r'=>{
  a:=fun g c vs xs ys k r=>by
   obtain⟨rfl,⟨n,rfl,kd⟩,ke,kr⟩:=k
   show aX σ _ (bif zS t vs then (cw σ.g d).v vs else (cw σ.g r').a vs) _ _
   cases q:zS t vs with
   |false=>exact(snd ok hh r').a g _ vs xs ys kr r
   |true=>
    obtain⟨m1,m2⟩:=pP ke q r
    rw[show ab T (n+1) (fnOf g) xs=(aU (ab T n) d).v xs from funext (m1 _),show ab T (n+1) (fnOf g) ys=(aU (ab T n) d).v ys from funext (m2 _)]
    exact(snd ok hh d).v n vs xs ys kd r }
 |.tm8 f d r'=>{
  a:=fun g c vs xs ys k r=>by
   obtain⟨rfl,⟨n,rfl,kd⟩,ke⟩:=k
   show aX σ _ ((cw σ.g (.tm8 g d r')).a vs) _ _
   unfold cw
   dsimp only
   split
   ·simp only[al] at r
    obtain⟨w1,_,w2,_,rfl,rfl,r1,x2,_,y2,_,rfl,rfl,r2,rfl,rfl⟩:=r
    simp only[aH] at r2
    obtain⟨xs,ys,rfl,rfl,r2⟩:=r2
    have r3:=al.cons r1 r2
    simp only[al] at r2
    obtain⟨a1,_,b1,_,rfl,rfl,-,a2,_,b2,_,rfl,rfl,-,a3,_,b3,_,rfl,rfl,-,a4,_,b4,_,rfl,rfl,-,a5,_,b5,_,rfl,rfl,-,a6,_,b6,_,rfl,rfl,-,a7,_,b7,_,rfl,rfl,-,a8,_,b8,_,rfl,rfl,-,rfl,rfl⟩:=r2
    rw[show ab T (n+1) (fnOf g) [w1,.tup [a1,a2,a3,a4,a5,a6,a7,a8]]=(aU (ab T n) d).v [w1,a1,a2,a3,a4,a5,a6,a7,a8] from funext (ke _ _ _ _ _ _ _ _ _ _),show ab T (n+1) (fnOf g) [w2,.tup [b1,b2,b3,b4,b5,b6,b7,b8]]=(aU (ab T n) d).v [w2,b1,b2,b3,b4,b5,b6,b7,b8] from funext (ke _ _ _ _ _ _ _ _ _ _)]
    exact(snd ok hh d).v n _ _ _ kd r3
   ·exact aX.nop }
 |.pr c a r'=>{
  p:=fun n ae e1 e2 k r=>by
   cases c with
   |str s=>exact aX.bnd ((snd ok hh a).v n ae e1 e2 k.1 r) fun x p q h1=>aX.bnd ((snd ok hh r').p n ae e1 e2 k.2 r) fun y p' q' h2=>aX.ret (by simp only[zk];exact⟨_,_,_,_,rfl,rfl,h1,h2⟩)
   |_=>exact aX.nop }
 |.dct x l=>{
  v:=fun c ae e1 e2 k r=>by
   show aX σ _ (a0 ((cw σ.g l).p ae) fun es=>bif nodup (es.map (·.1)) then jc (es.lookup x) else fj) (bnd (bnd _ _) fun ov=>bnd (ret (.str x)) fun iv=>bE ov iv) (bnd (bnd _ _) fun ov=>bnd (ret (.str x)) fun iv=>bE ov iv)
   rw[d5,d5]
   refine aX.bnd ((snd ok hh l).p c ae e1 e2 k r) fun es xs ys h=>?_
   obtain⟨as,bs,m1,m2,k1,k2,k3⟩:=sX h
   rw[m1,m2]
   dsimp only
   rw[k1,k2]
   cases q:nodup (es.map (·.1)) with
   |false=>exact aX.nop
   |true=>
    show aX σ _ (jc (es.lookup x)) (bE (.dcs as) (.str x)) (bE (.dcs bs) (.str x))
    cases q2:es.lookup x with
    |none=>exact fun aw h1 h2 a aw' s e=>by cases e
    |some v=>
     obtain⟨a,b,n1,n2,rr⟩:=k3 x v q2
     exact fun aw h1 h2 a' aw' s e=>by
      cases e
      exact⟨a,h1,b,h2,gM n1,gM n2,rr,s,fun _=>⟨rfl,rfl⟩,Nat.le_refl _⟩ }
 |.ins o w s h=>{
  v:=fun c ae e1 e2 k r=>by
   show aX σ _ (match ae[o]?,ae[w]?,ae[s]?,ae[h]? with
    |some o,some w,some s,some h=>jc (Hu o w s h)
    |_,_,_,_=>fj) (Cw (eY e1 o) (eY e1 w) (eY e1 s) (eY e1 h)) (Cw (eY e2 o) (eY e2 w) (eY e2 s) (eY e2 h))
   split
   ·rename_i xo xw xs xh q1 q2 q3 q4
    obtain⟨o1,o2,m1,n1,r1⟩:=al.get _ r q1
    obtain⟨w1,w2,m2,n2,r2⟩:=al.get _ r q2
    obtain⟨s1,s2,m3,n3,r3⟩:=al.get _ r q3
    obtain⟨h1,h2,m4,n4,r4⟩:=al.get _ r q4
    rw[bR m1,bR m2,bR m3,bR m4,bR n1,bR n2,bR n3,bR n4]
    cases q:Hu xo xw xs xh with
    |none=>exact fun aw h1 h2 a aw' s e=>by cases e
    |some z=>
     obtain⟨x,y,t1,t2,rr⟩:=Hz r1 r2 r3 r4 q
     rw[t1,t2]
     exact aX.ret rr
   ·exact aX.nop }
 |.itz j a b=>{
  v:=fun c ae e1 e2 k r=>HS r ((snd ok hh a).v c ae e1 e2 k.1 r) (B:=fun ae=>(cw σ.g b).v ae) fun ae' r'=>(snd ok hh b).v c ae' e1 e2 k.2 r' }
end
section
open PySem
theorem L8{c:Nat}(h:0≤c):(aj vu).v c:=by simp only[vu,aj,and_true]
theorem au{c:Nat}{r:D}(hr:(aj r).a "_law_bits" c)(h:1≤c):(aj (aB r)).a "_law_bits" c:=⟨rfl,⟨c - 1,by omega,L8 (by omega)⟩,LZ,hr⟩
theorem Mg{c:Nat}(h:0≤c):(aj vc).v c:=by simp only[vc,aj,and_true]
theorem kg{c:Nat}{r:D}(hr:(aj r).a "_law_load" c)(h:1≤c):(aj (lA r)).a "_law_load" c:=⟨rfl,⟨c - 1,by omega,Mg (by omega)⟩,KZ,hr⟩
theorem Ly{c:Nat}(h:0≤c):(aj vo).v c:=by simp only[vo,aj,and_true]
theorem ue{c:Nat}{r:D}(hr:True)(h:1≤c):(aj (vd r)).a "_law_spot" c:=⟨rfl,⟨c - 1,by omega,Ly (by omega)⟩,LW⟩
theorem NA{c:Nat}(h:1≤c):(aj BP).v c:=by simp only[BP,aj,and_true,true_and];repeat' (first|exact kg trivial (by omega)|exact ue trivial (by omega)|apply And.intro)
theorem aG{c:Nat}{r:D}(hr:(aj r).a "_law_get" c)(h:2≤c):(aj (az r)).a "_law_get" c:=⟨rfl,⟨c - 1,by omega,NA (by omega)⟩,Ni,hr⟩
theorem K6{c:Nat}(h:0≤c):(aj ur).v c:=by simp only[ur,aj,and_true]
theorem eE{c:Nat}{r:D}(hr:(aj r).a "_law_sign" c)(h:1≤c):(aj (d4 r)).a "_law_sign" c:=⟨rfl,⟨c - 1,by omega,K6 (by omega)⟩,LK,hr⟩
theorem Np{c:Nat}(h:0≤c):(aj Bn).v c:=by simp only[Bn,aj,and_true]
theorem jM{c:Nat}{r:D}(hr:(aj r).a "_law_szp" c)(h:1≤c):(aj (nj r)).a "_law_szp" c:=⟨rfl,⟨c - 1,by omega,Np (by omega)⟩,NW,hr⟩
theorem NT{c:Nat}(h:1≤c):(aj Cc).v c:=by simp only[Cc,aj,and_true,true_and];repeat' (first|exact eE trivial (by omega)|exact jM trivial (by omega)|apply And.intro)
theorem ji{c:Nat}{r:D}(hr:(aj r).a "_law_sum" c)(h:2≤c):(aj (mc r)).a "_law_sum" c:=⟨rfl,⟨c - 1,by omega,NT (by omega)⟩,N8,hr⟩
theorem Cq{c:Nat}(h:2≤c):(aj kU).v c:=by simp only[kU,aj,and_true,true_and];repeat' (first|exact aG trivial (by omega)|exact ji trivial (by omega)|apply And.intro)
theorem A8{c:Nat}{r:D}(hr:(aj r).a "_law_two" c)(h:3≤c):(aj (tW r)).a "_law_two" c:=⟨rfl,⟨c - 1,by omega,Cq (by omega)⟩,Dj,hr⟩
theorem DF{c:Nat}(h:0≤c):(aj kE).v c:=by simp only[kE,aj,and_true]
theorem eh{c:Nat}{r:D}(hr:(aj r).a "_law_store" c)(h:1≤c):(aj (d6 r)).a "_law_store" c:=⟨rfl,⟨c - 1,by omega,DF (by omega)⟩,CJ,hr⟩
theorem CW{c:Nat}(h:0≤c):(aj kH).v c:=by simp only[kH,aj,and_true]
theorem dZ{c:Nat}{r:D}(hr:(aj r).a "_law_store" c)(h:1≤c):(aj (d7 r)).a "_law_store" c:=⟨rfl,⟨c - 1,by omega,CW (by omega)⟩,CK,hr⟩
theorem Dx{c:Nat}(h:0≤c):(aj kz).v c:=by simp only[kz,aj,and_true]
theorem d3{c:Nat}{r:D}(hr:(aj r).a "_law_store" c)(h:1≤c):(aj (d9 r)).a "_law_store" c:=⟨rfl,⟨c - 1,by omega,Dx (by omega)⟩,DM,hr⟩
theorem Dc{c:Nat}(h:0≤c):(aj ky).v c:=by simp only[ky,aj,and_true]
theorem dW{c:Nat}{r:D}(hr:(aj r).a "_law_store" c)(h:1≤c):(aj (eu r)).a "_law_store" c:=⟨rfl,⟨c - 1,by omega,Dc (by omega)⟩,CI,hr⟩
theorem MZ{c:Nat}(h:1≤c):(aj BJ).v c:=by simp only[BJ,aj,and_true,true_and];repeat' (first|exact ue trivial (by omega)|exact eh (dZ (d3 (dW trivial (by omega)) (by omega)) (by omega)) (by omega)|apply And.intro)
theorem aA{c:Nat}{r:D}(hr:(aj r).a "_law_put" c)(h:2≤c):(aj (aC r)).a "_law_put" c:=⟨rfl,⟨c - 1,by omega,MZ (by omega)⟩,NC,hr⟩
theorem Hy{c:Nat}(h:3≤c):(aj mh).v c:=by simp only[mh,aj,and_true,true_and];repeat' (first|exact au trivial (by omega)|exact aA trivial (by omega)|exact A8 trivial (by omega)|apply And.intro)
theorem Dd{c:Nat}(h:2≤c):(aj kK).v c:=by simp only[kK,aj,and_true,true_and];repeat' (first|exact aG trivial (by omega)|exact ji trivial (by omega)|apply And.intro)
theorem yt{c:Nat}{r:D}(hr:(aj r).a "_law_two" c)(h:3≤c):(aj (tO r)).a "_law_two" c:=⟨rfl,⟨c - 1,by omega,Dd (by omega)⟩,DI,hr⟩
theorem HA{c:Nat}(h:3≤c):(aj mx).v c:=by simp only[mx,aj,and_true,true_and];repeat' (first|exact au trivial (by omega)|exact aA trivial (by omega)|exact yt trivial (by omega)|apply And.intro)
theorem Dr{c:Nat}(h:2≤c):(aj kG).v c:=by simp only[kG,aj,and_true,true_and];repeat' (first|exact aG trivial (by omega)|exact ji trivial (by omega)|apply And.intro)
theorem zT{c:Nat}{r:D}(hr:(aj r).a "_law_two" c)(h:3≤c):(aj (t6 r)).a "_law_two" c:=⟨rfl,⟨c - 1,by omega,Dr (by omega)⟩,CM,hr⟩
theorem GQ{c:Nat}(h:3≤c):(aj ni).v c:=by simp only[ni,aj,and_true,true_and];repeat' (first|exact au trivial (by omega)|exact aA trivial (by omega)|exact zT trivial (by omega)|apply And.intro)
theorem DY{c:Nat}(h:2≤c):(aj kS).v c:=by simp only[kS,aj,and_true,true_and];repeat' (first|exact aG trivial (by omega)|exact ji trivial (by omega)|apply And.intro)
theorem y8{c:Nat}{r:D}(hr:(aj r).a "_law_two" c)(h:3≤c):(aj (tP r)).a "_law_two" c:=⟨rfl,⟨c - 1,by omega,DY (by omega)⟩,Df,hr⟩
theorem Hg{c:Nat}(h:3≤c):(aj lY).v c:=by simp only[lY,aj,and_true,true_and];repeat' (first|exact au trivial (by omega)|exact aA trivial (by omega)|exact y8 trivial (by omega)|apply And.intro)
theorem Cv{c:Nat}(h:2≤c):(aj kB).v c:=by simp only[kB,aj,and_true,true_and];repeat' (first|exact aG trivial (by omega)|exact jM trivial (by omega)|apply And.intro)
theorem Am{c:Nat}{r:D}(hr:(aj r).a "_law_two" c)(h:3≤c):(aj (sW r)).a "_law_two" c:=⟨rfl,⟨c - 1,by omega,Cv (by omega)⟩,DV,hr⟩
theorem Gd{c:Nat}(h:3≤c):(aj mt).v c:=by simp only[mt,aj,and_true,true_and];repeat' (first|exact au trivial (by omega)|exact aA trivial (by omega)|exact Am trivial (by omega)|apply And.intro)
theorem E5{c:Nat}(h:2≤c):(aj mJ).v c:=by simp only[mJ,aj,and_true,true_and];repeat' (first|exact aG trivial (by omega)|exact jM trivial (by omega)|apply And.intro)
theorem Cs{c:Nat}{r:D}(hr:(aj r).a "_law_two" c)(h:3≤c):(aj (wg r)).a "_law_two" c:=⟨rfl,⟨c - 1,by omega,E5 (by omega)⟩,ES,hr⟩
theorem Jc{c:Nat}(h:3≤c):(aj pC).v c:=by simp only[pC,aj,and_true,true_and];repeat' (first|exact au trivial (by omega)|exact aA trivial (by omega)|exact Cs trivial (by omega)|apply And.intro)
theorem Ck{c:Nat}(h:2≤c):(aj kq).v c:=by simp only[kq,aj,and_true,true_and];repeat' (first|exact aG trivial (by omega)|exact jM trivial (by omega)|apply And.intro)
theorem zn{c:Nat}{r:D}(hr:(aj r).a "_law_two" c)(h:3≤c):(aj (tf r)).a "_law_two" c:=⟨rfl,⟨c - 1,by omega,Ck (by omega)⟩,Du,hr⟩
theorem Fh{c:Nat}(h:3≤c):(aj ng).v c:=by simp only[ng,aj,and_true,true_and];repeat' (first|exact au trivial (by omega)|exact aA trivial (by omega)|exact zn trivial (by omega)|apply And.intro)
theorem D4{c:Nat}(h:2≤c):(aj kC).v c:=by simp only[kC,aj,and_true,true_and];repeat' (first|exact aG trivial (by omega)|exact ji trivial (by omega)|apply And.intro)
theorem yx{c:Nat}{r:D}(hr:(aj r).a "_law_two" c)(h:3≤c):(aj (tp r)).a "_law_two" c:=⟨rfl,⟨c - 1,by omega,D4 (by omega)⟩,Dv,hr⟩
theorem F5{c:Nat}(h:3≤c):(aj nB).v c:=by simp only[nB,aj,and_true,true_and];repeat' (first|exact au trivial (by omega)|exact yx trivial (by omega)|apply And.intro)
theorem Af{c:Nat}(h:2≤c):(aj hV).v c:=by simp only[hV,aj,and_true,true_and];repeat' (first|exact aG trivial (by omega)|exact jM trivial (by omega)|apply And.intro)
theorem xj{c:Nat}{r:D}(hr:(aj r).a "_law_two" c)(h:3≤c):(aj (rF r)).a "_law_two" c:=⟨rfl,⟨c - 1,by omega,Af (by omega)⟩,Aa,hr⟩
theorem DN{c:Nat}(h:3≤c):(aj j8).v c:=by simp only[j8,aj,and_true,true_and];repeat' (first|exact au trivial (by omega)|exact xj trivial (by omega)|apply And.intro)
theorem EH{c:Nat}(h:2≤c):(aj mN).v c:=by simp only[mN,aj,and_true,true_and];repeat' (first|exact au trivial (by omega)|exact aG trivial (by omega)|exact aA trivial (by omega)|apply And.intro)
theorem G6{c:Nat}(h:2≤c):(aj mz).v c:=by simp only[mz,aj,and_true,true_and];repeat' (first|exact au trivial (by omega)|exact aA trivial (by omega)|exact ue trivial (by omega)|apply And.intro)
theorem yX{c:Nat}(h:2≤c):(aj iM).v c:=by simp only[iM,aj,and_true,true_and];repeat' (first|exact au trivial (by omega)|exact aG trivial (by omega)|exact aA trivial (by omega)|apply And.intro)
theorem Ah{c:Nat}(h:2≤c):(aj g5).v c:=by simp only[g5,aj,and_true,true_and];repeat' (first|exact au trivial (by omega)|exact aG trivial (by omega)|exact aA trivial (by omega)|exact eE trivial (by omega)|apply And.intro)
theorem Dg{c:Nat}(h:2≤c):(aj kD).v c:=by simp only[kD,aj,and_true,true_and];repeat' (first|exact au trivial (by omega)|exact aG trivial (by omega)|exact aA trivial (by omega)|apply And.intro)
theorem wp{c:Nat}(h:1≤c):(aj f7).v c:=by simp only[f7,aj,and_true,true_and];repeat' (first|exact jM trivial (by omega)|apply And.intro)
theorem vH{c:Nat}{r:D}(hr:(aj r).a "_law_shift" c)(h:2≤c):(aj (oH r)).a "_law_shift" c:=⟨rfl,⟨c - 1,by omega,wp (by omega)⟩,wC,hr⟩
theorem HX{c:Nat}(h:2≤c):(aj lZ).v c:=by simp only[lZ,aj,and_true,true_and];repeat' (first|exact au trivial (by omega)|exact aG trivial (by omega)|exact aA trivial (by omega)|exact vH trivial (by omega)|apply And.intro)
theorem xa{c:Nat}(h:1≤c):(aj fP).v c:=by simp only[fP,aj,and_true,true_and];repeat' (first|exact jM trivial (by omega)|apply And.intro)
theorem uQ{c:Nat}{r:D}(hr:(aj r).a "_law_shift" c)(h:2≤c):(aj (oN r)).a "_law_shift" c:=⟨rfl,⟨c - 1,by omega,xa (by omega)⟩,v0,hr⟩
theorem HU{c:Nat}(h:2≤c):(aj mY).v c:=by simp only[mY,aj,and_true,true_and];repeat' (first|exact au trivial (by omega)|exact aG trivial (by omega)|exact aA trivial (by omega)|exact uQ trivial (by omega)|apply And.intro)
theorem wy{c:Nat}(h:1≤c):(aj gw).v c:=by simp only[gw,aj,and_true,true_and];repeat' (first|exact eE trivial (by omega)|exact jM trivial (by omega)|apply And.intro)
theorem vK{c:Nat}{r:D}(hr:(aj r).a "_law_shift" c)(h:2≤c):(aj (oQ r)).a "_law_shift" c:=⟨rfl,⟨c - 1,by omega,wy (by omega)⟩,xL,hr⟩
theorem EA{c:Nat}(h:2≤c):(aj mQ).v c:=by simp only[mQ,aj,and_true,true_and];repeat' (first|exact au trivial (by omega)|exact aG trivial (by omega)|exact aA trivial (by omega)|exact vK trivial (by omega)|apply And.intro)
theorem wO{c:Nat}(h:0≤c):(aj gj).v c:=by simp only[gj,aj,and_true]
theorem uT{c:Nat}{r:D}(hr:(aj r).a "_law_shift" c)(h:1≤c):(aj (ou r)).a "_law_shift" c:=⟨rfl,⟨c - 1,by omega,wO (by omega)⟩,wI,hr⟩
theorem HM{c:Nat}(h:2≤c):(aj mA).v c:=by simp only[mA,aj,and_true,true_and];repeat' (first|exact au trivial (by omega)|exact aG trivial (by omega)|exact aA trivial (by omega)|exact uT trivial (by omega)|apply And.intro)
theorem xl{c:Nat}(h:0≤c):(aj fR).v c:=by simp only[fR,aj,and_true]
theorem uO{c:Nat}{r:D}(hr:(aj r).a "_law_shift" c)(h:1≤c):(aj (oY r)).a "_law_shift" c:=⟨rfl,⟨c - 1,by omega,xl (by omega)⟩,xT,hr⟩
theorem Ep{c:Nat}(h:2≤c):(aj mH).v c:=by simp only[mH,aj,and_true,true_and];repeat' (first|exact au trivial (by omega)|exact aG trivial (by omega)|exact aA trivial (by omega)|exact uO trivial (by omega)|apply And.intro)
theorem JW{c:Nat}(h:2≤c):(aj pN).v c:=by simp only[pN,aj,and_true,true_and];repeat' (first|exact au trivial (by omega)|exact aG trivial (by omega)|apply And.intro)
theorem CV{c:Nat}(h:2≤c):(aj j7).v c:=by simp only[j7,aj,and_true,true_and];repeat' (first|exact aG trivial (by omega)|exact ji trivial (by omega)|apply And.intro)
theorem ym{c:Nat}{r:D}(hr:(aj r).a "_law_one" c)(h:3≤c):(aj (tD r)).a "_law_one" c:=⟨rfl,⟨c - 1,by omega,CV (by omega)⟩,Da,hr⟩
theorem FX{c:Nat}(h:3≤c):(aj mr).v c:=by simp only[mr,aj,and_true,true_and];repeat' (first|exact au trivial (by omega)|exact ym trivial (by omega)|exact aA trivial (by omega)|apply And.intro)
theorem C0{c:Nat}(h:2≤c):(aj kh).v c:=by simp only[kh,aj,and_true,true_and];repeat' (first|exact aG trivial (by omega)|exact ji trivial (by omega)|apply And.intro)
theorem Al{c:Nat}{r:D}(hr:(aj r).a "_law_one" c)(h:3≤c):(aj (tr r)).a "_law_one" c:=⟨rfl,⟨c - 1,by omega,C0 (by omega)⟩,Dq,hr⟩
theorem Fc{c:Nat}(h:3≤c):(aj mw).v c:=by simp only[mw,aj,and_true,true_and];repeat' (first|exact au trivial (by omega)|exact Al trivial (by omega)|exact aA trivial (by omega)|apply And.intro)
theorem DW{c:Nat}(h:2≤c):(aj kO).v c:=by simp only[kO,aj,and_true,true_and];repeat' (first|exact aG trivial (by omega)|exact ji trivial (by omega)|apply And.intro)
theorem zo{c:Nat}{r:D}(hr:(aj r).a "_law_one" c)(h:3≤c):(aj (ub r)).a "_law_one" c:=⟨rfl,⟨c - 1,by omega,DW (by omega)⟩,Dn,hr⟩
theorem E0{c:Nat}(h:3≤c):(aj lX).v c:=by simp only[lX,aj,and_true,true_and];repeat' (first|exact au trivial (by omega)|exact zo trivial (by omega)|exact aA trivial (by omega)|apply And.intro)
theorem DD{c:Nat}(h:2≤c):(aj km).v c:=by simp only[km,aj,and_true,true_and];repeat' (first|exact aG trivial (by omega)|apply And.intro)
theorem zy{c:Nat}{r:D}(hr:(aj r).a "_law_one" c)(h:3≤c):(aj (tn r)).a "_law_one" c:=⟨rfl,⟨c - 1,by omega,DD (by omega)⟩,CY,hr⟩
theorem FG{c:Nat}(h:3≤c):(aj mR).v c:=by simp only[mR,aj,and_true,true_and];repeat' (first|exact au trivial (by omega)|exact zy trivial (by omega)|exact aA trivial (by omega)|apply And.intro)
theorem pg{c:Nat}(h:2≤c):(aj dg).v c:=by simp only[dg,aj,and_true,true_and];repeat' (first|exact aG trivial (by omega)|exact aA trivial (by omega)|apply And.intro)
theorem nP{c:Nat}{r:D}(hr:(aj r).a "_law_product" c)(h:3≤c):(aj (i6 r)).a "_law_product" c:=⟨rfl,⟨c - 1,by omega,pg (by omega)⟩,pn,hr⟩
theorem oh{c:Nat}(h:2≤c):(aj cR).v c:=by simp only[cR,aj,and_true,true_and];repeat' (first|exact aG trivial (by omega)|exact aA trivial (by omega)|apply And.intro)
theorem mF{c:Nat}{r:D}(hr:(aj r).a "_law_product" c)(h:3≤c):(aj (gJ r)).a "_law_product" c:=⟨rfl,⟨c - 1,by omega,oh (by omega)⟩,nC,hr⟩
theorem nE{c:Nat}(h:2≤c):(aj cQ).v c:=by simp only[cQ,aj,and_true,true_and];repeat' (first|exact aG trivial (by omega)|exact aA trivial (by omega)|apply And.intro)
theorem mf{c:Nat}{r:D}(hr:(aj r).a "_law_product" c)(h:3≤c):(aj (gO r)).a "_law_product" c:=⟨rfl,⟨c - 1,by omega,nE (by omega)⟩,nM,hr⟩
theorem oi{c:Nat}(h:2≤c):(aj cT).v c:=by simp only[cT,aj,and_true,true_and];repeat' (first|exact aG trivial (by omega)|exact aA trivial (by omega)|apply And.intro)
theorem mS{c:Nat}{r:D}(hr:(aj r).a "_law_product" c)(h:3≤c):(aj (gG r)).a "_law_product" c:=⟨rfl,⟨c - 1,by omega,oi (by omega)⟩,oe,hr⟩
theorem F8{c:Nat}(h:3≤c):(aj nc).v c:=by simp only[nc,aj,and_true,true_and];repeat' (first|exact au trivial (by omega)|exact nP (mF (mf (mS trivial (by omega)) (by omega)) (by omega)) (by omega)|apply And.intro)
theorem vz{c:Nat}(h:2≤c):(aj eV).v c:=by simp only[eV,aj,and_true,true_and];repeat' (first|exact aG trivial (by omega)|exact eh (dZ (d3 (dW trivial (by omega)) (by omega)) (by omega)) (by omega)|apply And.intro)
theorem sC{c:Nat}{r:D}(hr:(aj r).a "_law_stack" c)(h:3≤c):(aj (m5 r)).a "_law_stack" c:=⟨rfl,⟨c - 1,by omega,vz (by omega)⟩,vk,hr⟩
theorem CQ{c:Nat}(h:3≤c):(aj kw).v c:=by simp only[kw,aj,and_true,true_and];repeat' (first|exact au trivial (by omega)|exact sC trivial (by omega)|apply And.intro)
theorem wJ{c:Nat}(h:2≤c):(aj fW).v c:=by simp only[fW,aj,and_true,true_and];repeat' (first|exact kg trivial (by omega)|exact aA trivial (by omega)|apply And.intro)
theorem vB{c:Nat}{r:D}(hr:(aj r).a "_law_stack" c)(h:3≤c):(aj (oJ r)).a "_law_stack" c:=⟨rfl,⟨c - 1,by omega,wJ (by omega)⟩,xX,hr⟩
theorem Ht{c:Nat}(h:3≤c):(aj l8).v c:=by simp only[l8,aj,and_true,true_and];repeat' (first|exact au trivial (by omega)|exact vB trivial (by omega)|apply And.intro)
theorem xV{c:Nat}(h:2≤c):(aj fT).v c:=by simp only[fT,aj,and_true,true_and];repeat' (first|exact aG trivial (by omega)|apply And.intro)
theorem uD{c:Nat}{r:D}(hr:(aj r).a "_law_one" c)(h:3≤c):(aj (oS r)).a "_law_one" c:=⟨rfl,⟨c - 1,by omega,xV (by omega)⟩,xp,hr⟩
theorem zJ{c:Nat}(h:3≤c):(aj iI).v c:=by simp only[iI,aj,and_true,true_and];repeat' (first|exact au trivial (by omega)|exact uD trivial (by omega)|exact aA trivial (by omega)|apply And.intro)
theorem rl{c:Nat}(h:2≤c):(aj dP).v c:=by simp only[dP,aj,and_true,true_and];repeat' (first|exact aG trivial (by omega)|exact aA trivial (by omega)|exact eE trivial (by omega)|apply And.intro)
theorem pu{c:Nat}{r:D}(hr:(aj r).a "_law_product" c)(h:3≤c):(aj (jO r)).a "_law_product" c:=⟨rfl,⟨c - 1,by omega,rl (by omega)⟩,qd,hr⟩
theorem CL{c:Nat}(h:3≤c):(aj j6).v c:=by simp only[j6,aj,and_true,true_and];repeat' (first|exact au trivial (by omega)|exact pu trivial (by omega)|apply And.intro)
theorem Cp{c:Nat}(h:2≤c):(aj kx).v c:=by simp only[kx,aj,and_true,true_and];repeat' (first|exact au trivial (by omega)|exact aA trivial (by omega)|exact⟨c - 1,by omega⟩|apply And.intro)
theorem Ac{c:Nat}(h:2≤c):(aj ir).v c:=by simp only[ir,aj,and_true,true_and];repeat' (first|exact au trivial (by omega)|exact aG trivial (by omega)|exact aA trivial (by omega)|exact⟨c - 1,by omega⟩|apply And.intro)
theorem Ao{c:Nat}(h:2≤c):(aj gU).v c:=by simp only[gU,aj,and_true,true_and];repeat' (first|exact au trivial (by omega)|exact aA trivial (by omega)|exact⟨c - 1,by omega⟩|apply And.intro)
theorem xn{c:Nat}(h:2≤c):(aj gg).v c:=by simp only[gg,aj,and_true,true_and];repeat' (first|exact au trivial (by omega)|exact aG trivial (by omega)|exact aA trivial (by omega)|exact⟨c - 1,by omega⟩|apply And.intro)
theorem C3{c:Nat}(h:2≤c):(aj kN).v c:=by simp only[kN,aj,and_true,true_and];repeat' (first|exact au trivial (by omega)|exact aA trivial (by omega)|exact⟨c - 1,by omega⟩|apply And.intro)
theorem yN{c:Nat}(h:2≤c):(aj iF).v c:=by simp only[iF,aj,and_true,true_and];repeat' (first|exact au trivial (by omega)|exact aG trivial (by omega)|exact aA trivial (by omega)|exact⟨c - 1,by omega⟩|apply And.intro)
theorem yL{c:Nat}(h:2≤c):(aj iC).v c:=by simp only[iC,aj,and_true,true_and];repeat' (first|exact au trivial (by omega)|exact aA trivial (by omega)|exact⟨c - 1,by omega⟩|apply And.intro)
theorem vU{c:Nat}(h:2≤c):(aj gb).v c:=by simp only[gb,aj,and_true,true_and];repeat' (first|exact au trivial (by omega)|exact aG trivial (by omega)|exact aA trivial (by omega)|exact⟨c - 1,by omega⟩|apply And.intro)
theorem D3{c:Nat}(h:2≤c):(aj j3).v c:=by simp only[j3,aj,and_true,true_and];repeat' (first|exact au trivial (by omega)|exact aA trivial (by omega)|exact⟨c - 1,by omega⟩|apply And.intro)
theorem yT{c:Nat}(h:2≤c):(aj iy).v c:=by simp only[iy,aj,and_true,true_and];repeat' (first|exact au trivial (by omega)|exact aG trivial (by omega)|exact aA trivial (by omega)|exact⟨c - 1,by omega⟩|apply And.intro)
theorem zj{c:Nat}(h:2≤c):(aj iU).v c:=by simp only[iU,aj,and_true,true_and];repeat' (first|exact au trivial (by omega)|exact aA trivial (by omega)|exact⟨c - 1,by omega⟩|apply And.intro)
theorem wN{c:Nat}(h:2≤c):(aj gy).v c:=by simp only[gy,aj,and_true,true_and];repeat' (first|exact au trivial (by omega)|exact aG trivial (by omega)|exact aA trivial (by omega)|exact⟨c - 1,by omega⟩|apply And.intro)
theorem Ar{c:Nat}(h:2≤c):(aj ij).v c:=by simp only[ij,aj,and_true,true_and];repeat' (first|exact au trivial (by omega)|exact aA trivial (by omega)|exact⟨c - 1,by omega⟩|apply And.intro)
theorem xr{c:Nat}(h:2≤c):(aj f0).v c:=by simp only[f0,aj,and_true,true_and];repeat' (first|exact au trivial (by omega)|exact aG trivial (by omega)|exact aA trivial (by omega)|exact⟨c - 1,by omega⟩|apply And.intro)
theorem Cm{c:Nat}(h:2≤c):(aj kn).v c:=by simp only[kn,aj,and_true,true_and];repeat' (first|exact au trivial (by omega)|exact aA trivial (by omega)|exact⟨c - 1,by omega⟩|apply And.intro)
theorem An{c:Nat}(h:2≤c):(aj iO).v c:=by simp only[iO,aj,and_true,true_and];repeat' (first|exact au trivial (by omega)|exact aG trivial (by omega)|exact aA trivial (by omega)|exact⟨c - 1,by omega⟩|apply And.intro)
theorem CD{c:Nat}(h:2≤c):(aj kQ).v c:=by simp only[kQ,aj,and_true,true_and];repeat' (first|exact au trivial (by omega)|exact aA trivial (by omega)|exact⟨c - 1,by omega⟩|apply And.intro)
theorem zV{c:Nat}(h:2≤c):(aj iG).v c:=by simp only[iG,aj,and_true,true_and];repeat' (first|exact au trivial (by omega)|exact aG trivial (by omega)|exact aA trivial (by omega)|exact⟨c - 1,by omega⟩|apply And.intro)
theorem AK{c:Nat}(h:2≤c):(aj hY).v c:=by simp only[hY,aj,and_true,true_and];repeat' (first|exact au trivial (by omega)|exact aA trivial (by omega)|exact⟨c - 1,by omega⟩|apply And.intro)
theorem xZ{c:Nat}(h:2≤c):(aj gc).v c:=by simp only[gc,aj,and_true,true_and];repeat' (first|exact au trivial (by omega)|exact aG trivial (by omega)|exact aA trivial (by omega)|exact⟨c - 1,by omega⟩|apply And.intro)
theorem C2{c:Nat}(h:2≤c):(aj kM).v c:=by simp only[kM,aj,and_true,true_and];repeat' (first|exact au trivial (by omega)|exact aA trivial (by omega)|exact⟨c - 1,by omega⟩|apply And.intro)
theorem zN{c:Nat}(h:2≤c):(aj iw).v c:=by simp only[iw,aj,and_true,true_and];repeat' (first|exact au trivial (by omega)|exact aG trivial (by omega)|exact aA trivial (by omega)|exact⟨c - 1,by omega⟩|apply And.intro)
theorem Ag{c:Nat}(h:2≤c):(aj iN).v c:=by simp only[iN,aj,and_true,true_and];repeat' (first|exact au trivial (by omega)|exact aA trivial (by omega)|exact⟨c - 1,by omega⟩|apply And.intro)
theorem xS{c:Nat}(h:2≤c):(aj fZ).v c:=by simp only[fZ,aj,and_true,true_and];repeat' (first|exact au trivial (by omega)|exact aG trivial (by omega)|exact aA trivial (by omega)|exact⟨c - 1,by omega⟩|apply And.intro)
theorem Ct{c:Nat}(h:2≤c):(aj kA).v c:=by simp only[kA,aj,and_true,true_and];repeat' (first|exact au trivial (by omega)|exact aA trivial (by omega)|exact⟨c - 1,by omega⟩|apply And.intro)
theorem Aw{c:Nat}(h:2≤c):(aj iD).v c:=by simp only[iD,aj,and_true,true_and];repeat' (first|exact au trivial (by omega)|exact aG trivial (by omega)|exact aA trivial (by omega)|exact⟨c - 1,by omega⟩|apply And.intro)
theorem zH{c:Nat}(h:2≤c):(aj g7).v c:=by simp only[g7,aj,and_true,true_and];repeat' (first|exact au trivial (by omega)|exact aA trivial (by omega)|exact⟨c - 1,by omega⟩|apply And.intro)
theorem v8{c:Nat}(h:2≤c):(aj fY).v c:=by simp only[fY,aj,and_true,true_and];repeat' (first|exact au trivial (by omega)|exact aG trivial (by omega)|exact aA trivial (by omega)|exact⟨c - 1,by omega⟩|apply And.intro)
theorem zF{c:Nat}(h:2≤c):(aj g6).v c:=by simp only[g6,aj,and_true,true_and];repeat' (first|exact au trivial (by omega)|exact aA trivial (by omega)|exact⟨c - 1,by omega⟩|apply And.intro)
theorem ya{c:Nat}(h:2≤c):(aj fS).v c:=by simp only[fS,aj,and_true,true_and];repeat' (first|exact au trivial (by omega)|exact aG trivial (by omega)|exact aA trivial (by omega)|exact⟨c - 1,by omega⟩|apply And.intro)
theorem Cy{c:Nat}(h:2≤c):(aj kV).v c:=by simp only[kV,aj,and_true,true_and];repeat' (first|exact au trivial (by omega)|exact aA trivial (by omega)|exact⟨c - 1,by omega⟩|apply And.intro)
theorem ze{c:Nat}(h:2≤c):(aj iQ).v c:=by simp only[iQ,aj,and_true,true_and];repeat' (first|exact au trivial (by omega)|exact aG trivial (by omega)|exact aA trivial (by omega)|exact⟨c - 1,by omega⟩|apply And.intro)
theorem yQ{c:Nat}(h:0≤c):(aj iV).v c:=by simp only[iV,aj,and_true]
theorem xe{c:Nat}{r:D}(hr:(aj r).a "_law_word" c)(h:1≤c):(aj (pS r)).a "_law_word" c:=⟨rfl,⟨c - 1,by omega,yQ (by omega)⟩,yr,hr⟩
theorem Hm{c:Nat}(h:1≤c):(aj mM).v c:=by simp only[mM,aj,and_true,true_and];repeat' (first|exact xe trivial (by omega)|apply And.intro)
theorem AA{c:Nat}(h:0≤c):(aj g4).v c:=by simp only[g4,aj,and_true]
theorem w7{c:Nat}{r:D}(hr:(aj r).a "_law_word" c)(h:1≤c):(aj (rQ r)).a "_law_word" c:=⟨rfl,⟨c - 1,by omega,AA (by omega)⟩,AZ,hr⟩
theorem F0{c:Nat}(h:1≤c):(aj l0).v c:=by simp only[l0,aj,and_true,true_and];repeat' (first|exact w7 trivial (by omega)|apply And.intro)
theorem yA{c:Nat}(h:0≤c):(aj ig).v c:=by simp only[ig,aj,and_true]
theorem xx{c:Nat}{r:D}(hr:(aj r).a "_law_word" c)(h:1≤c):(aj (q0 r)).a "_law_word" c:=⟨rfl,⟨c - 1,by omega,yA (by omega)⟩,zl,hr⟩
theorem Gs{c:Nat}(h:1≤c):(aj ma).v c:=by simp only[ma,aj,and_true,true_and];repeat' (first|exact xx trivial (by omega)|apply And.intro)
theorem yg{c:Nat}(h:0≤c):(aj g8).v c:=by simp only[g8,aj,and_true]
theorem xb{c:Nat}{r:D}(hr:(aj r).a "_law_word" c)(h:1≤c):(aj (qQ r)).a "_law_word" c:=⟨rfl,⟨c - 1,by omega,yg (by omega)⟩,AU,hr⟩
theorem EE{c:Nat}(h:1≤c):(aj mI).v c:=by simp only[mI,aj,and_true,true_and];repeat' (first|exact xb trivial (by omega)|apply And.intro)
theorem AH{c:Nat}(h:0≤c):(aj hZ).v c:=by simp only[hZ,aj,and_true]
theorem wF{c:Nat}{r:D}(hr:(aj r).a "_law_word" c)(h:1≤c):(aj (sn r)).a "_law_word" c:=⟨rfl,⟨c - 1,by omega,AH (by omega)⟩,zZ,hr⟩
theorem Gn{c:Nat}(h:1≤c):(aj md).v c:=by simp only[md,aj,and_true,true_and];repeat' (first|exact wF trivial (by omega)|apply And.intro)
theorem wf{c:Nat}(h:2≤c):(aj fQ).v c:=by simp only[fQ,aj,and_true,true_and];repeat' (first|exact aA trivial (by omega)|apply And.intro)
theorem vm{c:Nat}{r:D}(hr:(aj r).a "_law_word" c)(h:3≤c):(aj (oq r)).a "_law_word" c:=⟨rfl,⟨c - 1,by omega,wf (by omega)⟩,wT,hr⟩
theorem Ds{c:Nat}(h:3≤c):(aj j9).v c:=by simp only[j9,aj,and_true,true_and];repeat' (first|exact vm trivial (by omega)|apply And.intro)
theorem vW{c:Nat}(h:2≤c):(aj gk).v c:=by simp only[gk,aj,and_true,true_and];repeat' (first|exact aG trivial (by omega)|apply And.intro)
theorem uq{c:Nat}{r:D}(hr:(aj r).a "_law_word" c)(h:3≤c):(aj (oP r)).a "_law_word" c:=⟨rfl,⟨c - 1,by omega,vW (by omega)⟩,xA,hr⟩
theorem DL{c:Nat}(h:3≤c):(aj j4).v c:=by simp only[j4,aj,and_true,true_and];repeat' (first|exact uq trivial (by omega)|apply And.intro)
theorem AP{c:Nat}(h:2≤c):(aj iq).v c:=by simp only[iq,aj,and_true,true_and];repeat' (first|exact aG trivial (by omega)|exact aA trivial (by omega)|exact eE trivial (by omega)|apply And.intro)
theorem xM{c:Nat}{r:D}(hr:(aj r).a "_law_word" c)(h:3≤c):(aj (pT r)).a "_law_word" c:=⟨rfl,⟨c - 1,by omega,AP (by omega)⟩,yI,hr⟩
theorem Fi{c:Nat}(h:3≤c):(aj mu).v c:=by simp only[mu,aj,and_true,true_and];repeat' (first|exact xM trivial (by omega)|apply And.intro)
theorem wl{c:Nat}(h:2≤c):(aj gn).v c:=by simp only[gn,aj,and_true,true_and];repeat' (first|exact aG trivial (by omega)|exact aA trivial (by omega)|exact eE trivial (by omega)|apply And.intro)
theorem vf{c:Nat}{r:D}(hr:(aj r).a "_law_word" c)(h:3≤c):(aj (oX r)).a "_law_word" c:=⟨rfl,⟨c - 1,by omega,wl (by omega)⟩,xI,hr⟩
theorem D1{c:Nat}(h:3≤c):(aj kR).v c:=by simp only[kR,aj,and_true,true_and];repeat' (first|exact vf trivial (by omega)|apply And.intro)
theorem xP{c:Nat}(h:2≤c):(aj fU).v c:=by simp only[fU,aj,and_true,true_and];repeat' (first|exact aG trivial (by omega)|exact aA trivial (by omega)|exact eE trivial (by omega)|apply And.intro)
theorem uh{c:Nat}{r:D}(hr:(aj r).a "_law_word" c)(h:3≤c):(aj (oR r)).a "_law_word" c:=⟨rfl,⟨c - 1,by omega,xP (by omega)⟩,xt,hr⟩
theorem Db{c:Nat}(h:3≤c):(aj kL).v c:=by simp only[kL,aj,and_true,true_and];repeat' (first|exact uh trivial (by omega)|apply And.intro)
theorem y6{c:Nat}(h:2≤c):(aj iB).v c:=by simp only[iB,aj,and_true,true_and];repeat' (first|exact aG trivial (by omega)|exact aA trivial (by omega)|exact eE trivial (by omega)|apply And.intro)
theorem wV{c:Nat}{r:D}(hr:(aj r).a "_law_word" c)(h:3≤c):(aj (qW r)).a "_law_word" c:=⟨rfl,⟨c - 1,by omega,y6 (by omega)⟩,yh,hr⟩
theorem FE{c:Nat}(h:3≤c):(aj l5).v c:=by simp only[l5,aj,and_true,true_and];repeat' (first|exact wV trivial (by omega)|apply And.intro)
theorem yi{c:Nat}(h:2≤c):(aj ik).v c:=by simp only[ik,aj,and_true,true_and];repeat' (first|exact aG trivial (by omega)|exact aA trivial (by omega)|exact eE trivial (by omega)|apply And.intro)
theorem wj{c:Nat}{r:D}(hr:(aj r).a "_law_word" c)(h:3≤c):(aj (rY r)).a "_law_word" c:=⟨rfl,⟨c - 1,by omega,yi (by omega)⟩,yE,hr⟩
theorem HR{c:Nat}(h:3≤c):(aj nh).v c:=by simp only[nh,aj,and_true,true_and];repeat' (first|exact wj trivial (by omega)|apply And.intro)
theorem zD{c:Nat}(h:2≤c):(aj iA).v c:=by simp only[iA,aj,and_true,true_and];repeat' (first|exact aG trivial (by omega)|exact aA trivial (by omega)|exact eE trivial (by omega)|apply And.intro)
theorem xY{c:Nat}{r:D}(hr:(aj r).a "_law_word" c)(h:3≤c):(aj (q8 r)).a "_law_word" c:=⟨rfl,⟨c - 1,by omega,zD (by omega)⟩,AC,hr⟩
theorem Ej{c:Nat}(h:3≤c):(aj mG).v c:=by simp only[mG,aj,and_true,true_and];repeat' (first|exact xY trivial (by omega)|apply And.intro)
theorem AG{c:Nat}(h:0≤c):(aj iW).v c:=by simp only[iW,aj,and_true]
theorem wt{c:Nat}{r:D}(hr:(aj r).a "_law_word" c)(h:1≤c):(aj (pZ r)).a "_law_word" c:=⟨rfl,⟨c - 1,by omega,AG (by omega)⟩,yH,hr⟩
theorem F4{c:Nat}(h:1≤c):(aj m6).v c:=by simp only[m6,aj,and_true,true_and];repeat' (first|exact wt trivial (by omega)|apply And.intro)
theorem qG{c:Nat}(h:2≤c):(aj dK).v c:=by simp only[dK,aj,and_true,true_and];repeat' (first|exact aG trivial (by omega)|exact aA trivial (by omega)|exact eh (dZ (d3 (dW trivial (by omega)) (by omega)) (by omega)) (by omega)|apply And.intro)
theorem pj{c:Nat}{r:D}(hr:(aj r).a "_law_string" c)(h:3≤c):(aj (jE r)).a "_law_string" c:=⟨rfl,⟨c - 1,by omega,qG (by omega)⟩,qI,hr⟩
theorem uX{c:Nat}(h:3≤c):(aj fc).v c:=by simp only[fc,aj,and_true,true_and];repeat' (first|exact pj trivial (by omega)|apply And.intro)
theorem sB{c:Nat}{r:D}(hr:(aj r).a "_law_word" c)(h:4≤c):(aj (nk r)).a "_law_word" c:=⟨rfl,⟨c - 1,by omega,uX (by omega)⟩,uG,hr⟩
theorem yy{c:Nat}(h:4≤c):(aj ip).v c:=by simp only[ip,aj,and_true,true_and];repeat' (first|exact sB trivial (by omega)|apply And.intro)
theorem qu{c:Nat}(h:2≤c):(aj dF).v c:=by simp only[dF,aj,and_true,true_and];repeat' (first|exact aG trivial (by omega)|exact aA trivial (by omega)|exact eh (dZ (d3 (dW trivial (by omega)) (by omega)) (by omega)) (by omega)|apply And.intro)
theorem pd{c:Nat}{r:D}(hr:(aj r).a "_law_string" c)(h:3≤c):(aj (jw r)).a "_law_string" c:=⟨rfl,⟨c - 1,by omega,qu (by omega)⟩,pV,hr⟩
theorem uz{c:Nat}(h:3≤c):(aj fi).v c:=by simp only[fi,aj,and_true,true_and];repeat' (first|exact pd trivial (by omega)|apply And.intro)
theorem sx{c:Nat}{r:D}(hr:(aj r).a "_law_word" c)(h:4≤c):(aj (my r)).a "_law_word" c:=⟨rfl,⟨c - 1,by omega,uz (by omega)⟩,vh,hr⟩
theorem zQ{c:Nat}(h:4≤c):(aj hU).v c:=by simp only[hU,aj,and_true,true_and];repeat' (first|exact sx trivial (by omega)|apply And.intro)
theorem rB{c:Nat}(h:2≤c):(aj dJ).v c:=by simp only[dJ,aj,and_true,true_and];repeat' (first|exact aG trivial (by omega)|exact aA trivial (by omega)|exact eh (dZ (d3 (dW trivial (by omega)) (by omega)) (by omega)) (by omega)|apply And.intro)
theorem ph{c:Nat}{r:D}(hr:(aj r).a "_law_string" c)(h:3≤c):(aj (jG r)).a "_law_string" c:=⟨rfl,⟨c - 1,by omega,rB (by omega)⟩,rq,hr⟩
theorem ve{c:Nat}(h:3≤c):(aj eW).v c:=by simp only[eW,aj,and_true,true_and];repeat' (first|exact ph trivial (by omega)|apply And.intro)
theorem su{c:Nat}{r:D}(hr:(aj r).a "_law_word" c)(h:4≤c):(aj (nA r)).a "_law_word" c:=⟨rfl,⟨c - 1,by omega,ve (by omega)⟩,u5,hr⟩
theorem zL{c:Nat}(h:4≤c):(aj iu).v c:=by simp only[iu,aj,and_true,true_and];repeat' (first|exact su trivial (by omega)|apply And.intro)
theorem rV{c:Nat}(h:2≤c):(aj dT).v c:=by simp only[dT,aj,and_true,true_and];repeat' (first|exact aG trivial (by omega)|exact aA trivial (by omega)|exact eh (dZ (d3 (dW trivial (by omega)) (by omega)) (by omega)) (by omega)|apply And.intro)
theorem pk{c:Nat}{r:D}(hr:(aj r).a "_law_string" c)(h:3≤c):(aj (jS r)).a "_law_string" c:=⟨rfl,⟨c - 1,by omega,rV (by omega)⟩,rC,hr⟩
theorem uv{c:Nat}(h:3≤c):(aj ft).v c:=by simp only[ft,aj,and_true,true_and];repeat' (first|exact pk trivial (by omega)|apply And.intro)
theorem sQ{c:Nat}{r:D}(hr:(aj r).a "_law_word" c)(h:4≤c):(aj (mL r)).a "_law_word" c:=⟨rfl,⟨c - 1,by omega,uv (by omega)⟩,uL,hr⟩
theorem zb{c:Nat}(h:4≤c):(aj iz).v c:=by simp only[iz,aj,and_true,true_and];repeat' (first|exact sQ trivial (by omega)|apply And.intro)
theorem rE{c:Nat}(h:2≤c):(aj dQ).v c:=by simp only[dQ,aj,and_true,true_and];repeat' (first|exact aG trivial (by omega)|exact kg trivial (by omega)|exact aA trivial (by omega)|apply And.intro)
theorem po{c:Nat}{r:D}(hr:(aj r).a "_law_string" c)(h:3≤c):(aj (jZ r)).a "_law_string" c:=⟨rfl,⟨c - 1,by omega,rE (by omega)⟩,rW,hr⟩
theorem ui{c:Nat}(h:3≤c):(aj fm).v c:=by simp only[fm,aj,and_true,true_and];repeat' (first|exact po trivial (by omega)|apply And.intro)
theorem sH{c:Nat}{r:D}(hr:(aj r).a "_law_word" c)(h:4≤c):(aj (nw r)).a "_law_word" c:=⟨rfl,⟨c - 1,by omega,ui (by omega)⟩,uJ,hr⟩
theorem zq{c:Nat}(h:4≤c):(aj g0).v c:=by simp only[g0,aj,and_true,true_and];repeat' (first|exact sH trivial (by omega)|apply And.intro)
theorem rR{c:Nat}(h:2≤c):(aj dD).v c:=by simp only[dD,aj,and_true,true_and];repeat' (first|exact aG trivial (by omega)|exact kg trivial (by omega)|exact aA trivial (by omega)|apply And.intro)
theorem pe{c:Nat}{r:D}(hr:(aj r).a "_law_string" c)(h:3≤c):(aj (jq r)).a "_law_string" c:=⟨rfl,⟨c - 1,by omega,rR (by omega)⟩,rJ,hr⟩
theorem vL{c:Nat}(h:3≤c):(aj fe).v c:=by simp only[fe,aj,and_true,true_and];repeat' (first|exact pe trivial (by omega)|apply And.intro)
theorem sN{c:Nat}{r:D}(hr:(aj r).a "_law_word" c)(h:4≤c):(aj (mE r)).a "_law_word" c:=⟨rfl,⟨c - 1,by omega,vL (by omega)⟩,vx,hr⟩
theorem Aj{c:Nat}(h:4≤c):(aj gY).v c:=by simp only[gY,aj,and_true,true_and];repeat' (first|exact sN trivial (by omega)|apply And.intro)
theorem qD{c:Nat}(h:2≤c):(aj dL).v c:=by simp only[dL,aj,and_true,true_and];repeat' (first|exact aG trivial (by omega)|exact kg trivial (by omega)|exact aA trivial (by omega)|apply And.intro)
theorem o9{c:Nat}{r:D}(hr:(aj r).a "_law_string" c)(h:3≤c):(aj (jj r)).a "_law_string" c:=⟨rfl,⟨c - 1,by omega,qD (by omega)⟩,p7,hr⟩
theorem uf{c:Nat}(h:3≤c):(aj fr).v c:=by simp only[fr,aj,and_true,true_and];repeat' (first|exact o9 trivial (by omega)|apply And.intro)
theorem sR{c:Nat}{r:D}(hr:(aj r).a "_law_word" c)(h:4≤c):(aj (mO r)).a "_law_word" c:=⟨rfl,⟨c - 1,by omega,uf (by omega)⟩,uY,hr⟩
theorem yV{c:Nat}(h:4≤c):(aj iS).v c:=by simp only[iS,aj,and_true,true_and];repeat' (first|exact sR trivial (by omega)|apply And.intro)
theorem rU{c:Nat}(h:2≤c):(aj dH).v c:=by simp only[dH,aj,and_true,true_and];repeat' (first|exact aG trivial (by omega)|exact kg trivial (by omega)|exact aA trivial (by omega)|apply And.intro)
theorem o3{c:Nat}{r:D}(hr:(aj r).a "_law_string" c)(h:3≤c):(aj (jX r)).a "_law_string" c:=⟨rfl,⟨c - 1,by omega,rU (by omega)⟩,qx,hr⟩
theorem uI{c:Nat}(h:3≤c):(aj fb).v c:=by simp only[fb,aj,and_true,true_and];repeat' (first|exact o3 trivial (by omega)|apply And.intro)
theorem sT{c:Nat}{r:D}(hr:(aj r).a "_law_word" c)(h:4≤c):(aj (m7 r)).a "_law_word" c:=⟨rfl,⟨c - 1,by omega,uI (by omega)⟩,vq,hr⟩
theorem Aq{c:Nat}(h:4≤c):(aj gZ).v c:=by simp only[gZ,aj,and_true,true_and];repeat' (first|exact sT trivial (by omega)|apply And.intro)
def AT(cl:Fn→List MV→M MV)(a_flags a_text:MV):M MV:=
 bnd (qU [(ret (.str "o"),aq (ret a_flags) (ret (.str "of"))),(ret (.str "b"),aq (ret a_flags) (ret (.str "cf"))),(ret (.str "e"),aq (ret a_flags) (ret (.str "zf"))),(ret (.str "s"),aq (ret a_flags) (ret (.str "sf"))),(ret (.str "p"),aq (ret a_flags) (ret (.str "pf")))]) fun truths_1=>
 v6 (cU "max" [aq (ret a_flags) (ret (.str "cf")),aq (ret a_flags) (ret (.str "zf"))]) (ret truths_1) (ret (.str "be")) (
 v6 (ifT (aO .NotEq (aq (ret a_flags) (ret (.str "sf"))) (aq (ret a_flags) (ret (.str "of")))) (ret (.int 1)) (ret (.int 0))) (ret truths_1) (ret (.str "l")) (
 v6 (cU "max" [aq (ret a_flags) (ret (.str "zf")),aq (ret truths_1) (ret (.str "l"))]) (ret truths_1) (ret (.str "le")) (
 bnd (N0 [(ret (.str "no"),ret (.str "o")),(ret (.str "ae"),ret (.str "b")),(ret (.str "ne"),ret (.str "e")),(ret (.str "a"),ret (.str "be")),(ret (.str "ns"),ret (.str "s")),(ret (.str "np"),ret (.str "p")),(ret (.str "ge"),ret (.str "l")),(ret (.str "g"),ret (.str "le"))]) fun negated_2=>
 ifT (aO .In (ret a_text) (ret negated_2))
 (lh (aO .Eq (aq (ret truths_1) (aq (ret negated_2) (ret a_text))) (ret (.int 0))))
 (lh (aO .Eq (aq (ret truths_1) (ret a_text)) (ret (.int 1)))))))
theorem K7(cl:Fn→List MV→M MV)(a_flags a_text:MV)(H:Hp):an T cl (fnOf "_law_holds") [a_flags,a_text] H=AT cl a_flags a_text H:=by kernel_rfl
theorem mW{H:Hp}{p:Pt}{w:W}(h:p.ok H)(G:Hp):ao H p w++G=ao (H++G) p w:=by
 unfold ao
 rw[List.mapIdx_append]
 congr 1
 apply List.ext_getElem?
 intro i
 rw[List.getElem?_mapIdx]
 cases G[i]? with
 |none=>rfl
 |some o=>
  simp only[Option.map_some]
  congr 1
  have h1:=h.lw;have h2:=h.lr;have h3:=h.lm;have h4:=h.lf;have h5:=h.ld;have h6:=h.ls
  unfold cE
  rw[if_neg (by omega),if_neg (by omega),if_neg (by omega),if_neg (by omega),if_neg (by omega),if_neg (by omega)]
section
variable{H:Hp}{p:Pt}{w:W}{es:List (Str×MV)}
theorem wn(h:p.ok H):(ao (H++[.dcs es]) p w)[H.length]?=some (.dcs es):=by
 rw[←mW h]
 rw[List.getElem?_append_right (by rw[cg];omega),cg]
 simp
theorem nI(h:p.ok H){k:Str}{v:MV}(e:es.lookup k=some v):bE (.ref H.length) (.str k) (ao (H++[.dcs es]) p w)=some (v,ao (H++[.dcs es]) p w):=gP (wn h) e
theorem qY(h:p.ok H){k:Str}{v:MV}(hl:es.length≤100000):setItem (.ref H.length) (.str k) v (ao (H++[.dcs es]) p w)=some ((),ao (H++[.dcs (put k v es)]) p w):=by
 simp only[setItem,wn h]
 have h1:Nat.ble es.length 100000=true:=Nat.ble_eq_true_of_le hl
 rw[h1]
 simp only[cond_true]
 congr 2
 rw[←mW h,←mW h,List.set_append_right _ _ (by rw[cg];omega),cg]
 simp
end
def Dz(a b:Int):Int:=if a < b then b else a
def H7(f:Fl):List (Str×MV):=[("o",.int f.of),("b",.int f.cf),("e",.int f.zf),("s",.int f.sf),("p",.int f.pf)]
def lV(f:Fl):Int:=bif !(f.sf==f.of) then 1 else 0
def LA(f:Fl)(v:Int):List (Str×MV):=[("o",.int f.of),("b",.int f.cf),("e",.int f.zf),("s",.int f.sf),("p",.int f.pf),("be",.int v)]
def MN(f:Fl):List (Str×MV):=LA f (Dz f.cf f.zf)
def LB(f:Fl)(v:Int):List (Str×MV):=[("o",.int f.of),("b",.int f.cf),("e",.int f.zf),("s",.int f.sf),("p",.int f.pf),("be",.int (Dz f.cf f.zf)),("l",.int v)]
def Mm(f:Fl):List (Str×MV):=LB f (lV f)
def LC(f:Fl)(v:Int):List (Str×MV):=[("o",.int f.of),("b",.int f.cf),("e",.int f.zf),("s",.int f.sf),("p",.int f.pf),("be",.int (Dz f.cf f.zf)),("l",.int (lV f)),("le",.int v)]
def I6(f:Fl):List (Str×MV):=LC f (Dz f.zf (lV f))
def sr:List (Str×MV):=[("no",.str "o"),("ae",.str "b"),("ne",.str "e"),("a",.str "be"),("ns",.str "s"),("np",.str "p"),("ge",.str "l"),("g",.str "le")]
section
variable{H:Hp}{p:Pt}{w:W}
theorem gf{a b:MV}{o i:MV}{h h':Hp}(e:bE o i h=some (b,h')):aq (ret o) (ret i) h=some (b,h'):=e
theorem BC(a b:Int):builtin "max" [.int a,.int b]=ret (.int (Dz a b)):=by
 funext H
 unfold Dz
 show(bif ("max":Str)=="max" then some (MV.int (if a < b then b else a),H) else none)=_
 rw[beq_self_eq_true];rfl
theorem Ez(cl:Fn→List MV→M MV)(h:p.ok H):qU [(ret (.str "o"),aq (ret (.ref p.f)) (ret (.str "of"))),(ret (.str "b"),aq (ret (.ref p.f)) (ret (.str "cf"))),(ret (.str "e"),aq (ret (.ref p.f)) (ret (.str "zf"))),(ret (.str "s"),aq (ret (.ref p.f)) (ret (.str "sf"))),(ret (.str "p"),aq (ret (.ref p.f)) (ret (.str "pf")))] (ao H p w)=some (.ref H.length,ao (H++[.dcs (H7 w.f)]) p w):=by
 have hn:nodup ((H7 w.f).map (·.1))=true:=by kernel_rfl
 simp only[qU,L2,b9,aa,ad,Kb h,IG h,GO h,Jm h,L1 h]
 show(bif nodup ((H7 w.f).map (·.1)) then oI (.dcs (H7 w.f)) else fail) (ao H p w)=_
 rw[hn]
 show some (MV.ref (ao H p w).length,ao H p w++[MO.dcs (H7 w.f)])=_
 rw[mW h,cg]
theorem OR(f:Fl)(v:Int):put ("be":Str) (.int v) (H7 f)=LA f v:=by kernel_rfl
theorem Oz(f:Fl)(v:Int):put ("l":Str) (.int v) (MN f)=LB f v:=by kernel_rfl
theorem OZ(f:Fl)(v:Int):put ("le":Str) (.int v) (Mm f)=LC f v:=by kernel_rfl
theorem F3(H:Hp):N0 [(ret (.str "no"),ret (.str "o")),(ret (.str "ae"),ret (.str "b")),(ret (.str "ne"),ret (.str "e")),(ret (.str "a"),ret (.str "be")),(ret (.str "ns"),ret (.str "s")),(ret (.str "np"),ret (.str "p")),(ret (.str "ge"),ret (.str "l")),(ret (.str "g"),ret (.str "le"))] H=some (.dcs sr,H):=by kernel_rfl
def sY(t x:MV):M MV:=ifT (aO .In (ret x) (ret (.dcs sr))) (lh (aO .Eq (aq (ret t) (aq (ret (.dcs sr)) (ret x))) (ret (.int 0)))) (lh (aO .Eq (aq (ret t) (ret x)) (ret (.int 1))))
theorem GG(cl:Fn→List MV→M MV)(h:p.ok H)(x:MV):AT cl (.ref p.f) x (ao H p w)=sY (.ref H.length) x (ao (H++[.dcs (I6 w.f)]) p w):=by
 unfold AT
 rw[aa,Ez cl h]
 dsimp only
 have k1:=bD h [.dcs (H7 w.f)]
 have k2:=bD h [.dcs (MN w.f)]
 have k3:=bD h [.dcs (Mm w.f)]
 have m1:cU "max" [aq (ret (.ref p.f)) (ret (.str "cf")),aq (ret (.ref p.f)) (ret (.str "zf"))] (ao (H++[.dcs (H7 w.f)]) p w)=some (.int (Dz w.f.cf w.f.zf),ao (H++[.dcs (H7 w.f)]) p w):=by
  show bnd (fu _) _ _=_
  rw[Gj]
  simp only[b9,aa,ad,IG k1,GO k1,BC]
 rw[kI,aa,m1]
 dsimp only
 rw[dE,aa,ad]
 dsimp only
 rw[aa,ad]
 dsimp only
 rw[aa,qY h (by simp[H7]),OR]
 dsimp only
 have m2:ifT (aO .NotEq (aq (ret (.ref p.f)) (ret (.str "sf"))) (aq (ret (.ref p.f)) (ret (.str "of")))) (ret (MV.int 1)) (ret (MV.int 0)) (ao (H++[.dcs (MN w.f)]) p w)=some (.int (lV w.f),ao (H++[.dcs (MN w.f)]) p w):=by
  simp only[cF,bS,b9,aa,ad,Jm k2,Kb k2,O1,uE]
  unfold lV
  cases !(w.f.sf==w.f.of)<;>rfl
 rw[kI,aa]
 rw[show LA w.f (Dz w.f.cf w.f.zf)=MN w.f from rfl,m2]
 dsimp only
 rw[dE,aa,ad]
 dsimp only
 rw[aa,ad]
 dsimp only
 rw[aa,qY h (by simp[MN,LA]),Oz]
 dsimp only
 have m3:cU "max" [aq (ret (.ref p.f)) (ret (.str "zf")),aq (ret (.ref H.length)) (ret (.str "l"))] (ao (H++[.dcs (Mm w.f)]) p w)=some (.int (Dz w.f.zf (lV w.f)),ao (H++[.dcs (Mm w.f)]) p w):=by
  show bnd (fu _) _ _=_
  rw[Gj]
  simp only[b9,aa,ad,GO k3,nI (es:=Mm w.f) (k:="l") (v:=.int (lV w.f)) h (by kernel_rfl),BC]
 rw[kI,aa]
 rw[show LB w.f (lV w.f)=Mm w.f from rfl,m3]
 dsimp only
 rw[dE,aa,ad]
 dsimp only
 rw[aa,ad]
 dsimp only
 rw[aa,qY h (by simp[Mm,LB]),OZ]
 dsimp only
 rw[aa,F3]
 rfl
theorem eL(h:p.ok H){x:Str}{v:Int}(e0:(sr.lookup x).isSome=false)(e:(I6 w.f).lookup x=some (.int v)):sY (.ref H.length) (.str x) (ao (H++[.dcs (I6 w.f)]) p w)=some (.bool (v==1),ao (H++[.dcs (I6 w.f)]) p w):=by
 have ec:∀ h:Hp,dA .In (.str x) (.dcs sr) h=some (false,h):=fun h=>by
  show some ((sr.lookup x).isSome,h)=_
  rw[e0]
 simp only[sY,cF,bS,wL,b9,aa,ad,ec,uE,cond_false,nI h e,D9]
theorem eK(h:p.ok H){x y:Str}{v:Int}(e0:sr.lookup x=some (.str y))(e:(I6 w.f).lookup y=some (.int v)):sY (.ref H.length) (.str x) (ao (H++[.dcs (I6 w.f)]) p w)=some (.bool (v==0),ao (H++[.dcs (I6 w.f)]) p w):=by
 have ec:∀ h:Hp,dA .In (.str x) (.dcs sr) h=some (true,h):=fun h=>by
  show some ((sr.lookup x).isSome,h)=_
  rw[e0];rfl
 have en:∀ h:Hp,bE (.dcs sr) (.str x) h=some (.str y,h):=fun h=>gM e0
 simp only[sY,cF,bS,wL,b9,aa,ad,ec,en,uE,cond_true,nI h e,D9]
end
theorem bG{x:Str}{l:List Nat}(F:Fl→Bool)(hF:∀ f g:Fl,(∀ j∈l,f.toV[j]?=g.toV[j]?)→F f=F g)(hr:∀ (H:Hp) (p:Pt) (w:W),p.ok H→sY (.ref H.length) (.str x) (ao (H++[.dcs (I6 w.f)]) p w)=some (.bool (F w.f),ao (H++[.dcs (I6 w.f)]) p w)):∃ F:Fl→Bool,(∀ f g:Fl,(∀ j∈l,f.toV[j]?=g.toV[j]?)→F f=F g)∧∀ c (H:Hp) (p:Pt) (w:W),p.ok H→∃ o,ab T (c+1) (fnOf "_law_holds") [.ref p.f,.str x] (ao H p w)=some (.bool (F w.f),ao (H++[o]) p w):=
 ⟨F,hF,fun c H p w h=>⟨_,(K7 (ab T c) _ _ _).trans ((GG _ h _).trans (hr H p w h))⟩⟩
theorem E7:uo:=by
 intro x l hm
 simp only[og,List.mem_cons,Prod.mk.injEq,List.not_mem_nil,or_false] at hm
 rcases hm with⟨rfl,rfl⟩|⟨rfl,rfl⟩|⟨rfl,rfl⟩|⟨rfl,rfl⟩|⟨rfl,rfl⟩|⟨rfl,rfl⟩|⟨rfl,rfl⟩|⟨rfl,rfl⟩|⟨rfl,rfl⟩|⟨rfl,rfl⟩|⟨rfl,rfl⟩|⟨rfl,rfl⟩|⟨rfl,rfl⟩|⟨rfl,rfl⟩|⟨rfl,rfl⟩|⟨rfl,rfl⟩
 ·exact bG (fun f=>f.of==1) (fun f g h=>by have a:=h 5 (by simp);simp[Fl.toV] at a;simp[a]) fun H p w h=>eL h (by kernel_rfl) (by kernel_rfl)
 ·exact bG (fun f=>f.of==0) (fun f g h=>by have a:=h 5 (by simp);simp[Fl.toV] at a;simp[a]) fun H p w h=>eK h (y:="o") (by kernel_rfl) (by kernel_rfl)
 ·exact bG (fun f=>f.cf==1) (fun f g h=>by have a:=h 0 (by simp);simp[Fl.toV] at a;simp[a]) fun H p w h=>eL h (by kernel_rfl) (by kernel_rfl)
 ·exact bG (fun f=>f.cf==0) (fun f g h=>by have a:=h 0 (by simp);simp[Fl.toV] at a;simp[a]) fun H p w h=>eK h (y:="b") (by kernel_rfl) (by kernel_rfl)
 ·exact bG (fun f=>f.zf==1) (fun f g h=>by have a:=h 3 (by simp);simp[Fl.toV] at a;simp[a]) fun H p w h=>eL h (by kernel_rfl) (by kernel_rfl)
 ·exact bG (fun f=>f.zf==0) (fun f g h=>by have a:=h 3 (by simp);simp[Fl.toV] at a;simp[a]) fun H p w h=>eK h (y:="e") (by kernel_rfl) (by kernel_rfl)
 ·exact bG (fun f=>Dz f.cf f.zf==1) (fun f g h=>by have a:=h 0 (by simp);have b:=h 3 (by simp);simp[Fl.toV] at a b;simp[a,b]) fun H p w h=>eL h (by kernel_rfl) (by kernel_rfl)
 ·exact bG (fun f=>Dz f.cf f.zf==0) (fun f g h=>by have a:=h 0 (by simp);have b:=h 3 (by simp);simp[Fl.toV] at a b;simp[a,b]) fun H p w h=>eK h (y:="be") (by kernel_rfl) (by kernel_rfl)
 ·exact bG (fun f=>f.sf==1) (fun f g h=>by have a:=h 4 (by simp);simp[Fl.toV] at a;simp[a]) fun H p w h=>eL h (by kernel_rfl) (by kernel_rfl)
 ·exact bG (fun f=>f.sf==0) (fun f g h=>by have a:=h 4 (by simp);simp[Fl.toV] at a;simp[a]) fun H p w h=>eK h (y:="s") (by kernel_rfl) (by kernel_rfl)
 ·exact bG (fun f=>f.pf==1) (fun f g h=>by have a:=h 1 (by simp);simp[Fl.toV] at a;simp[a]) fun H p w h=>eL h (by kernel_rfl) (by kernel_rfl)
 ·exact bG (fun f=>f.pf==0) (fun f g h=>by have a:=h 1 (by simp);simp[Fl.toV] at a;simp[a]) fun H p w h=>eK h (y:="p") (by kernel_rfl) (by kernel_rfl)
 ·exact bG (fun f=>lV f==1) (fun f g h=>by have a:=h 4 (by simp);have b:=h 5 (by simp);simp[Fl.toV] at a b;simp[a,b,lV]) fun H p w h=>eL h (by kernel_rfl) (by kernel_rfl)
 ·exact bG (fun f=>lV f==0) (fun f g h=>by have a:=h 4 (by simp);have b:=h 5 (by simp);simp[Fl.toV] at a b;simp[a,b,lV]) fun H p w h=>eK h (y:="l") (by kernel_rfl) (by kernel_rfl)
 ·exact bG (fun f=>Dz f.zf (lV f)==1) (fun f g h=>by have a:=h 4 (by simp);have b:=h 5 (by simp);have c:=h 3 (by simp);simp[Fl.toV] at a b c;simp[a,b,c,lV]) fun H p w h=>eL h (by kernel_rfl) (by kernel_rfl)
 ·exact bG (fun f=>Dz f.zf (lV f)==0) (fun f g h=>by have a:=h 4 (by simp);have b:=h 5 (by simp);have c:=h 3 (by simp);simp[Fl.toV] at a b c;simp[a,b,c,lV]) fun H p w h=>eK h (y:="le") (by kernel_rfl) (by kernel_rfl)
def N3(nm:Str)(ar:Nat)(d:D):Prop:=∀ (cl:Fn→List MV→M MV) (w:MV) (os:List MV) (H:Hp),os.length=ar→an T cl (fnOf "_law_do") [w,.tup [.str nm,.str "",.tup os]] H=(aU cl d).v (w::os) H
theorem fK{nm:Str}{d:D}(h:∀ (cl:Fn→List MV→M MV) (w:MV) (H:Hp),an T cl (fnOf "_law_do") [w,.tup [.str nm,.str "",.tup []]] H=(aU cl d).v [w] H):N3 nm 0 d:=fun cl w os H e=>match os,e with
 |[],_=>h cl w H
theorem fg{nm:Str}{d:D}(h:∀ (cl:Fn→List MV→M MV) (w o0:MV) (H:Hp),an T cl (fnOf "_law_do") [w,.tup [.str nm,.str "",.tup [o0]]] H=(aU cl d).v [w,o0] H):N3 nm 1 d:=fun cl w os H e=>match os,e with
 |[a],_=>h cl w a H
theorem cG{nm:Str}{d:D}(h:∀ (cl:Fn→List MV→M MV) (w o0 o1:MV) (H:Hp),an T cl (fnOf "_law_do") [w,.tup [.str nm,.str "",.tup [o0,o1]]] H=(aU cl d).v [w,o0,o1] H):N3 nm 2 d:=fun cl w os H e=>match os,e with
 |[a,b],_=>h cl w a b H
theorem Ow{nm:Str}{d:D}(h:∀ (cl:Fn→List MV→M MV) (w o0 o1 o2:MV) (H:Hp),an T cl (fnOf "_law_do") [w,.tup [.str nm,.str "",.tup [o0,o1,o2]]] H=(aU cl d).v [w,o0,o1,o2] H):N3 nm 3 d:=fun cl w os H e=>match os,e with
 |[a,b,c],_=>h cl w a b c H
structure Oj(n:NE):Prop where
 ok:∀ {c:Nat},4≤c→(aj n.d).v c
 eq:N3 n.nm n.ar n.d
def DU:List NE→Prop
 |[]=>True
 |n::r=>Oj n∧DU r
theorem DU.get:∀ {l:List NE} {i:Nat} {n:NE},DU l→l[i]?=some n→Oj n
 |_::_,0,_,h,e=>by cases e;exact h.1
 |_::_,i+1,_,h,e=>DU.get h.2 (by simpa using e)
theorem JJ:DU kY:=⟨⟨fun h=>Hy (Nat.le_trans (by decide) h),cG Gy⟩,⟨fun h=>HA (Nat.le_trans (by decide) h),cG FK⟩,⟨fun h=>GQ (Nat.le_trans (by decide) h),cG Ek⟩,⟨fun h=>Hg (Nat.le_trans (by decide) h),cG EP⟩,⟨fun h=>Gd (Nat.le_trans (by decide) h),cG EJ⟩,⟨fun h=>Jc (Nat.le_trans (by decide) h),cG IZ⟩,⟨fun h=>Fh (Nat.le_trans (by decide) h),cG FW⟩,⟨fun h=>F5 (Nat.le_trans (by decide) h),cG D7⟩,⟨fun h=>DN (Nat.le_trans (by decide) h),cG C6⟩,⟨fun h=>FX (Nat.le_trans (by decide) h),fg EF⟩,⟨fun h=>Fc (Nat.le_trans (by decide) h),fg Gv⟩,⟨fun h=>E0 (Nat.le_trans (by decide) h),fg Ga⟩,⟨fun h=>FG (Nat.le_trans (by decide) h),fg F6⟩,⟨fun h=>EH (Nat.le_trans (by decide) h),cG E8⟩,⟨fun h=>G6 (Nat.le_trans (by decide) h),cG FP⟩,⟨fun h=>yX (Nat.le_trans (by decide) h),cG yq⟩,⟨fun h=>Ah (Nat.le_trans (by decide) h),cG yC⟩,⟨fun h=>Dg (Nat.le_trans (by decide) h),cG Co⟩,⟨fun h=>HX (Nat.le_trans (by decide) h),cG ED⟩,⟨fun h=>HU (Nat.le_trans (by decide) h),cG Hn⟩,⟨fun h=>EA (Nat.le_trans (by decide) h),cG HV⟩,⟨fun h=>HM (Nat.le_trans (by decide) h),cG Hj⟩,⟨fun h=>Ep (Nat.le_trans (by decide) h),cG Fd⟩,⟨fun h=>F8 (Nat.le_trans (by decide) h),fg GY⟩,⟨fun h=>CL (Nat.le_trans (by decide) h),Ow DK⟩,⟨fun h=>Cp (Nat.le_trans (by decide) h),fg DP⟩,⟨fun h=>Ao (Nat.le_trans (by decide) h),fg zh⟩,⟨fun h=>C3 (Nat.le_trans (by decide) h),fg C4⟩,⟨fun h=>yL (Nat.le_trans (by decide) h),fg yv⟩,⟨fun h=>D3 (Nat.le_trans (by decide) h),fg Dw⟩,⟨fun h=>zj (Nat.le_trans (by decide) h),fg zE⟩,⟨fun h=>Ar (Nat.le_trans (by decide) h),fg yU⟩,⟨fun h=>Cm (Nat.le_trans (by decide) h),fg DA⟩,⟨fun h=>CD (Nat.le_trans (by decide) h),fg CR⟩,⟨fun h=>AK (Nat.le_trans (by decide) h),fg AR⟩,⟨fun h=>C2 (Nat.le_trans (by decide) h),fg De⟩,⟨fun h=>Ag (Nat.le_trans (by decide) h),fg yW⟩,⟨fun h=>Ct (Nat.le_trans (by decide) h),fg Dy⟩,⟨fun h=>zH (Nat.le_trans (by decide) h),fg AI⟩,⟨fun h=>zF (Nat.le_trans (by decide) h),fg zw⟩,⟨fun h=>Cy (Nat.le_trans (by decide) h),fg C5⟩,⟨fun h=>Ac (Nat.le_trans (by decide) h),cG Ai⟩,⟨fun h=>xn (Nat.le_trans (by decide) h),cG xU⟩,⟨fun h=>yN (Nat.le_trans (by decide) h),cG AN⟩,⟨fun h=>vU (Nat.le_trans (by decide) h),cG xc⟩,⟨fun h=>yT (Nat.le_trans (by decide) h),cG yk⟩,⟨fun h=>wN (Nat.le_trans (by decide) h),cG wY⟩,⟨fun h=>xr (Nat.le_trans (by decide) h),cG x8⟩,⟨fun h=>An (Nat.le_trans (by decide) h),cG yu⟩,⟨fun h=>zV (Nat.le_trans (by decide) h),cG Ae⟩,⟨fun h=>xZ (Nat.le_trans (by decide) h),cG xd⟩,⟨fun h=>zN (Nat.le_trans (by decide) h),cG AJ⟩,⟨fun h=>xS (Nat.le_trans (by decide) h),cG ww⟩,⟨fun h=>Aw (Nat.le_trans (by decide) h),cG zx⟩,⟨fun h=>v8 (Nat.le_trans (by decide) h),cG wK⟩,⟨fun h=>ya (Nat.le_trans (by decide) h),cG w6⟩,⟨fun h=>ze (Nat.le_trans (by decide) h),cG yn⟩,⟨fun h=>Hm (Nat.le_trans (by decide) h),fK E1⟩,⟨fun h=>F0 (Nat.le_trans (by decide) h),fK FL⟩,⟨fun h=>Gs (Nat.le_trans (by decide) h),fK GW⟩,⟨fun h=>EE (Nat.le_trans (by decide) h),fK Ei⟩,⟨fun h=>Gn (Nat.le_trans (by decide) h),fK HQ⟩,⟨fun h=>Ds (Nat.le_trans (by decide) h),fK DX⟩,⟨fun h=>DL (Nat.le_trans (by decide) h),fK C7⟩,⟨fun h=>Fi (Nat.le_trans (by decide) h),fK Fr⟩,⟨fun h=>D1 (Nat.le_trans (by decide) h),fK Dp⟩,⟨fun h=>Db (Nat.le_trans (by decide) h),fK Dl⟩,⟨fun h=>FE (Nat.le_trans (by decide) h),fK E4⟩,⟨fun h=>HR (Nat.le_trans (by decide) h),fK Fg⟩,⟨fun h=>Ej (Nat.le_trans (by decide) h),fK Hw⟩,⟨fun h=>F4 (Nat.le_trans (by decide) h),fK Ew⟩,⟨fun h=>yy (Nat.le_trans (by decide) h),fK yD⟩,⟨fun h=>zQ (Nat.le_trans (by decide) h),fK zu⟩,⟨fun h=>zL (Nat.le_trans (by decide) h),fK zr⟩,⟨fun h=>zb (Nat.le_trans (by decide) h),fK zc⟩,⟨fun h=>zq (Nat.le_trans (by decide) h),fK zW⟩,⟨fun h=>Aj (Nat.le_trans (by decide) h),fK AX⟩,⟨fun h=>yV (Nat.le_trans (by decide) h),fK yR⟩,⟨fun h=>Aq (Nat.le_trans (by decide) h),fK AF⟩,⟨fun h=>CQ (Nat.le_trans (by decide) h),fg Ci⟩,⟨fun h=>Ht (Nat.le_trans (by decide) h),fg Hv⟩,⟨fun h=>zJ (Nat.le_trans (by decide) h),fg A5⟩,⟨fun h=>JW (Nat.le_trans (by decide) h),cG Jt⟩,trivial⟩
theorem zC{i:Nat}{n:NE}(h:kY[i]?=some n):Oj n:=DU.get JJ h
inductive CO where
 |reg (n z:Nat)
 |ah
 |mem (b:Nat) (x:Option Nat) (d:Int) (z:Nat)
 |imm (v:Int)
def eN:List Nat:=[0,1,2,9,7,6,5,3]
def cq(n z:Nat):Str:=match yY[n]? with
 |some (_,a,b,c,d)=>bif z==64 then a else bif z==32 then b else bif z==16 then c else d
 |none=>"rax"
def OH:Option Nat→Str
 |none=>""
 |some x=>cq x 64
def L5:Option Nat→Int
 |none=>1
 |some _=>4
def CO.told:CO→MV
 |.reg n z=>.tup [.str "reg",.str (cq n z)]
 |.ah=>.tup [.str "reg",.str "ah"]
 |.mem b x d z=>.tup [.str "mem",.str (cq b 64),.str (OH x),.int (L5 x),.int d,.int z,.str "",.str ""]
 |.imm v=>.tup [.str "imm",.int v,.str ""]
def CO.s0:CO→Nat×Nat
 |.reg n z=>(n,z)
 |.mem b _ _ _=>(b,64)
 |_=>(0,64)
def CO.s1:CO→Nat×Nat
 |.mem _ (some x) _ _=>(x,64)
 |_=>(0,64)
def sy:List CO→Nat→Nat×Nat
 |[],_=>(0,64)
 |o::_,0=>o.s0
 |o::_,1=>o.s1
 |_::r,k+2=>sy r k
def pW:SO→CO→Prop
 |.reg z,.reg n y=>z=y∧n∈eN∧z∈aL
 |.ah,.ah=>True
 |.mem x z,.mem b ix d y=>z=y∧x=ix.isSome∧b∈eN∧(∀ y,ix=some y→y=1∨y=9)∧-16≤d∧d≤16
 |.imm a b,.imm v=>a≤v∧v≤b
 |.immK k,.imm v=>v=(k:Int)
 |_,_=>False
def k0:List SO→List CO→Prop
 |[],[]=>True
 |a::r,b::q=>pW a b∧k0 r q
 |_,_=>False
theorem u9:∀ n∈eN,n≤9:=by decide
theorem Ap:((List.range 10).flatMap fun n=>aL.map fun z=>bO.lookup (cq n z))=((List.range 10).flatMap fun(n:Nat)=>aL.map fun(z:Nat)=>some (MV.tup [.int (n:Int),.int (z:Int),.int 0])):=by kernel_rfl
theorem Mv:((List.range 10).all fun n=>aL.all fun z=>!(seq (cq n z) ""))=true:=by decide+kernel
theorem bg{α β:Type}{f g:α→β}:∀ {l:List α},l.map f=l.map g→∀ x∈l,f x=g x
 |a::r,h,x,hx=>by
  simp only[List.map_cons,List.cons.injEq] at h
  simp only[List.mem_cons] at hx
  rcases hx with rfl|hx
  ·exact h.1
  ·exact bg h.2 x hx
theorem iJ{α β γ:Type}{f g:α→β→γ}{m:List β}:∀ {l:List α},(l.flatMap fun a=>m.map (f a))=(l.flatMap fun a=>m.map (g a))→∀ x∈l,∀ y∈m,f x y=g x y
 |a::r,h,x,hx,y,hy=>by
  simp only[List.flatMap_cons] at h
  have h:=List.append_inj h (by simp)
  simp only[List.mem_cons] at hx
  rcases hx with rfl|hx
  ·exact bg h.1 y hy
  ·exact iJ h.2 x hx y hy
theorem rD{n z:Nat}(hn:n≤9)(hz:z∈aL):bO.lookup (cq n z)=some (.tup [.int (n:Int),.int (z:Int),.int 0]):=iJ Ap n (List.mem_range.mpr (show n < 10 by omega)) z hz
theorem J3{n z:Nat}(hn:n≤9)(hz:z∈aL):seq (cq n z) ""=false:=by
 have h:=Mv
 rw[List.all_eq_true] at h
 have h:=h n (List.mem_range.mpr (by omega))
 rw[List.all_eq_true] at h
 have h:=h z hz
 simpa using h
theorem u8:∀ {os:List SO} {cos:List CO} (k:Nat),k0 os cos→(sy cos k).1≤9∧(sy cos k).2∈aL∧MD os k=(((sy cos k).2:Int),0)
 |[],[],k,_=>⟨by simp[sy],by simp[sy,aL],by simp[sy,MD]⟩
 |a::r,b::q,k,h=>by
  match k with
  |0=>
   have h:=h.1
   cases a<;>cases b<;>simp only[pW] at h
   ·obtain⟨rfl,h1,h2⟩:=h
    exact⟨u9 _ h1,h2,rfl⟩
   ·exact⟨by simp[sy,CO.s0],by simp[sy,CO.s0,aL],rfl⟩
   ·exact⟨u9 _ h.2.2.1,by simp[sy,CO.s0,aL],rfl⟩
   ·exact⟨by simp[sy,CO.s0],by simp[sy,CO.s0,aL],rfl⟩
   ·exact⟨by simp[sy,CO.s0],by simp[sy,CO.s0,aL],rfl⟩
  |1=>
   have h:=h.1
   cases a<;>cases b<;>simp only[pW] at h
   ·exact⟨by simp[sy,CO.s1],by simp[sy,CO.s1,aL],rfl⟩
   ·exact⟨by simp[sy,CO.s1],by simp[sy,CO.s1,aL],rfl⟩
   ·rename_i b' ix d' z' _
    cases ix with
    |none=>exact⟨by simp[sy,CO.s1],by simp[sy,CO.s1,aL],rfl⟩
    |some y=>
     have:=h.2.2.2.1 y rfl
     exact⟨by simp only[sy,CO.s1];omega,by simp[sy,CO.s1,aL],rfl⟩
   ·exact⟨by simp[sy,CO.s1],by simp[sy,CO.s1,aL],rfl⟩
   ·exact⟨by simp[sy,CO.s1],by simp[sy,CO.s1,aL],rfl⟩
  |k+2=>exact u8 k h.2
theorem MB{σ:Sg}{o:SO}{co:CO}(k:Nat)(h:pW o co)(e0:σ.nm k=cq co.s0.1 co.s0.2)(e1:σ.nm (k+1)=cq co.s1.1 co.s1.2):aH σ (o.av k) co.told co.told:=by
 have rs:∀ {n:Nat} {x:Str},σ.nm n=x→aH σ (.s n) (.str x) (.str x):=fun e=>by simp only[aH];rw[e];exact⟨rfl,rfl⟩
 have ri:∀ {a b v:Int},a≤v→v≤b→aH σ (.i a b 0) (.int v) (.int v):=fun h1 h2=>gH h1 h2 h1 h2 fun _=>rfl
 have rt:∀ {l:List AV} {xs:List MV},al σ l xs xs→aH σ (.t l) (.tup xs) (.tup xs):=fun h=>by simp only[aH];exact⟨_,_,rfl,rfl,h⟩
 have rn:al σ [] [] []:=by simp only[al];exact⟨trivial,trivial⟩
 cases o<;>cases co<;>simp only[pW] at h
 ·exact rt (al.cons (bU _) (al.cons (rs e0) rn))
 ·exact rt (al.cons (bU _) (al.cons (bU _) rn))
 ·rename_i x z b ix d z'
  obtain⟨rfl,rfl,h1,h2,h3,h4⟩:=h
  cases ix with
  |none=>exact rt (al.cons (bU _) (al.cons (rs e0) (al.cons (bU _) (al.cons (bU _) (al.cons (ri h3 h4) (al.cons (bU _) (al.cons (bU _) (al.cons (bU _) rn))))))))
  |some y=>exact rt (al.cons (bU _) (al.cons (rs e0) (al.cons (rs e1) (al.cons (bU _) (al.cons (ri h3 h4) (al.cons (bU _) (al.cons (bU _) (al.cons (bU _) rn))))))))
 ·exact rt (al.cons (bU _) (al.cons (ri h.1 h.2) (al.cons (bU _) rn)))
 ·subst h
  exact rt (al.cons (bU _) (al.cons (bU _) (al.cons (bU _) rn)))
theorem BE{σ:Sg}:∀ {os:List SO} {cos:List CO} (k:Nat),k0 os cos→(∀ j,σ.nm (k+j)=cq (sy cos j).1 (sy cos j).2)→al σ (MW k os) (cos.map CO.told) (cos.map CO.told)
 |[],[],k,_,_=>by simp only[MW,List.map_nil,al];exact⟨trivial,trivial⟩
 |a::r,b::q,k,h,e=>al.cons (MB k h.1 (e 0) (e 1)) (BE (k+2) h.2 fun j=>by rw[show k+2+j=k+(j+2) by omega];exact e (j+2))
def Fl.at(f:Fl):Nat→Int
 |0=>f.cf
 |1=>f.pf
 |2=>f.af
 |3=>f.zf
 |4=>f.sf
 |5=>f.of
 |_=>f.df
structure qX(w:W)(k q:Nat):Prop where
 lr:w.r.length=10
 br:∀ x∈w.r,0≤x∧x≤18446744073709551615
 lm:w.m.length≤k
 bm:∀ x∈w.m,0≤x.2∧x.2≤255
 f:∀ j,0≤w.f.at j∧w.f.at j≤1
 rd:w.rd.length≤q
 st:w.st.length≤q
def gN(cos:List CO)(z:Int):Int:=if 0≤z then z else ((sy cos (-1 - z).toNat).1:Int)
def lp(os:List SO)(cos:List CO)(p1 p2:Pt)(H1 H2:Hp)(w1 w2:W)(k t:Nat):Sg where
 nm:=fun j=>cq (sy cos j).1 (sy cos j).2
 no:=fun j=>((sy cos j).1:Int)
 g:=MD os
 p1:=p1
 p2:=p2
 B1:=H1
 B2:=H2
 x1:=w1.rd
 y1:=w1.st
 x2:=w2.rd
 y2:=w2.st
 m0:=k
 l1:=w1.load
 s1:=w1.store
 l2:=w2.load
 s2:=w2.store
 t:=t
def CS(n:NE)(cos:List CO):MV:=.tup [.str n.nm,.str "",.tup (cos.map CO.told)]
theorem vD{a b:Nat}(h:sub a b=true){t:Nat}(hb:b&&& t=0):a&&& t=0:=by
 have h:a&&& b=a:=by simpa [sub] using h
 rw[←h,Nat.and_assoc,hb,Nat.and_zero]
theorem mD{lk st:Nat}:∀ {l:List AV} {p:Nat},Kg lk st p l=true→∀ {j:Nat} {x:AV},l[j]?=some x→∃ a b d,oj x=some (a,b,d)∧0≤a∧b≤1∧sub d (bif Nat.land st (2 ^ j * p)==0 then Nat.lor lk (2 ^ j * p) else lk)=true
 |x::r,p,h,j,y,e=>by
  simp only[Kg,Bool.and_eq_true] at h
  cases j with
  |zero=>
   cases e
   have h:=h.1
   cases q:oj x with
   |none=>rw[q] at h;cases h
   |some t=>
    obtain⟨a,b,d⟩:=t
    rw[q] at h
    simp only[Bool.and_eq_true,decide_eq_true_eq] at h
    refine⟨a,b,d,rfl,h.1.1,h.1.2,?_⟩
    rw[Nat.pow_zero,Nat.one_mul]
    exact h.2
  |succ j=>
   obtain⟨a,b,d,e1,e2,e3,e4⟩:=mD h.2 (j:=j) (x:=y) (by simpa using e)
   refine⟨a,b,d,e1,e2,e3,?_⟩
   rw[show 2 ^ (j+1) * p=2 ^ j * (2 * p) by rw[Nat.pow_succ,Nat.mul_assoc]]
   exact e4
theorem zR{f:Fl}{j:Nat}(h:j < 7):f.toV[j]?=some (.int (f.at j)):=by
 match j,h with
 |0,_=>rfl
 |1,_=>rfl
 |2,_=>rfl
 |3,_=>rfl
 |4,_=>rfl
 |5,_=>rfl
 |6,_=>rfl
theorem lE{σ:Sg}{l:List AV}{f g:Fl}(h:al σ l f.toV g.toV):l.length=7:=by
 have:=al.len h
 exact this.1.symm
theorem Ba(f:Fl)(P:Int→Prop)(h:∀ j,j < 7→P (f.at j)):∀ j,P (f.at j):=fun j=>by
 by_cases hj:j < 7
 ·exact h j hj
 ·have:f.at j=f.at 6:=by
   match j,hj with
   |0,h|1,h|2,h|3,h|4,h|5,h|6,h=>exact absurd (by decide) h
   |_+7,_=>rfl
  rw[this]
  exact h 6 (by decide)
theorem AD{n:NE}(hn:Oj n){os:List SO}{cos:List CO}(hf:k0 os cos)(hl:cos.length=n.ar){st:Nat}(hx:GU n.lk st (uK n os)=true){c:Nat}(hc:4≤c){H1 H2:Hp}{p1 p2:Pt}{w1 w2:W}{t k q:Nat}(o1:p1.ok H1)(o2:p2.ok H2)(k1:qX w1 k q)(k2:qX w2 k q)(hk:k≤50000)(hq:q≤50000)(er:w1.r=w2.r)(em:w1.m=w2.m)(ef:∀ j < 7,2 ^ j&&& t=0→w1.f.at j=w2.f.at j)(hlk:n.lk&&& t=0):
  ∃ v aw G1 G2 w1' w2',uK n os=some (v,aw)∧ab T (c+1) (fnOf "_law_do") [.ref p1.w,CS n cos] (ao H1 p1 w1)=some (.none,ao (H1++G1) p1 w1')∧ab T (c+1) (fnOf "_law_do") [.ref p2.w,CS n cos] (ao H2 p2 w2)=some (.none,ao (H2++G2) p2 w2')∧w1'.r=w2'.r∧w1'.m=w2'.m∧(∀ j < 7,(st&&& 2 ^ j≠0∨2 ^ j&&& t=0)→w1'.f.at j=w2'.f.at j)∧qX w1' (k+8) (q+20)∧qX w2' (k+8) (q+20)∧w1'.rd=w1.rd++aw.rd.map (gN cos)∧w1'.st=w1.st++aw.st.map (gN cos)∧w1'.load=(w1.load||aw.ld)∧w1'.store=(w1.store||aw.sd):=by
 let σ:=lp os cos p1 p2 H1 H2 w1 w2 k t
 have ok:σ.Ok:={
  tb:=fun j=>by
   obtain⟨a1,a2,a3⟩:=u8 j hf
   show bO.lookup (cq _ _)=some (.tup [.int ((sy cos j).1:Int),.int (MD os j).1,.int (MD os j).2])
   rw[rD a1 a2,a3]
  n0:=fun j=>by
   obtain⟨a1,a2,a3⟩:=u8 j hf
   show(0:Int)≤((sy cos j).1:Int)∧((sy cos j).1:Int)≤9
   omega
  ne:=fun j=>by
   obtain⟨a1,a2,a3⟩:=u8 j hf
   exact J3 a1 a2
  o1:=o1
  o2:=o2
  lx1:=Nat.le_trans k1.rd hq
  ly1:=Nat.le_trans k1.st hq
  lx2:=Nat.le_trans k2.rd hq
  ly2:=Nat.le_trans k2.st hq
  lm:=hk }
 have rw0:vg σ GP w1 w2:={
  lr1:=k1.lr
  lr2:=k2.lr
  br1:=k1.br
  br2:=k2.br
  er:=fun _=>er
  lm1:=k1.lm
  lm2:=k2.lm
  bm1:=k1.bm
  bm2:=k2.bm
  em:=fun _=>em
  f:=by
   have hb:∀ j < 7,aH σ (.i 0 1 (2 ^ j)) (.int (w1.f.at j)) (.int (w2.f.at j)):=fun j hj=>gH (k1.f j).1 (k1.f j).2 (k2.f j).1 (k2.f j).2 (ef j hj)
   exact al.cons (hb 0 (by decide)) (al.cons (hb 1 (by decide)) (al.cons (hb 2 (by decide)) (al.cons (hb 3 (by decide)) (al.cons (hb 4 (by decide)) (al.cons (hb 5 (by decide)) (al.cons (hb 6 (by decide)) (by simp only[al];exact⟨trivial,trivial⟩)))))))
  rd1:=by simp[GP,σ,lp]
  rd2:=by simp[GP,σ,lp]
  st1:=by simp[GP,σ,lp]
  st2:=by simp[GP,σ,lp]
  ld1:=by simp[GP,σ,lp]
  ld2:=by simp[GP,σ,lp]
  sd1:=by simp[GP,σ,lp]
  sd2:=by simp[GP,σ,lp] }
 have env:al σ (.r 0::MW 0 os) (.ref p1.w::cos.map CO.told) (.ref p2.w::cos.map CO.told):=by
  refine al.cons (by simp only[aH];exact⟨rfl,rfl⟩) (BE 0 hf fun j=>?_)
  show cq (sy cos (0+j)).1 (sy cos (0+j)).2=_
  rw[Nat.zero_add]
 have s0:St σ GP (ao H1 p1 w1) (ao H2 p2 w2):=⟨[],[],w1,w2,by simp[σ,lp],by simp[σ,lp],rw0⟩
 have hS:=(Mine.snd ok E7 n.d).v c _ _ _ (hn.ok hc) env
 unfold GU at hx
 cases qr:uK n os with
 |none=>rw[qr] at hx;cases hx
 |some p=>
  obtain⟨v,aw⟩:=p
  rw[qr] at hx
  split at hx
  ·rename_i aw' heq
   cases heq
   simp only[Bool.and_eq_true] at hx
   obtain⟨⟨⟨⟨⟨x1,x2⟩,x3⟩,x4⟩,x5⟩,x6⟩:=hx
   obtain⟨x,h1',y,h2',e1,e2,rv,st',-,-⟩:=hS _ _ _ _ _ s0 qr
   simp only[aH] at rv
   obtain⟨rfl,rfl⟩:=rv
   obtain⟨G1,G2,w1',w2',rfl,rfl,r⟩:=st'
   have hO:vO σ n.lk:=hlk
   refine⟨_,aw,G1,G2,w1',w2',rfl,(hn.eq (ab T c) _ _ _ (by simp[hl])).trans e1,(hn.eq (ab T c) _ _ _ (by simp[hl])).trans e2,r.er (vD x1 hO),r.em (vD x2 hO),?_,?_,?_,r.rd1,r.st1,r.ld1,r.sd1⟩
   ·intro j hj hcase
    have l7:=lE r.f
    obtain⟨z,hz⟩:∃ z,aw.f[j]?=some z:=⟨_,List.getElem?_eq_getElem (by omega)⟩
    obtain⟨a,b,d,q1,q2,q3,q4⟩:=mD x6 hz
    obtain⟨u,u',m1,m2,rr⟩:=al.get j r.f hz
    obtain⟨i1,i2,rfl,rfl,a1,a2,a3,a4,a5⟩:=bo rr q1
    rw[zR hj] at m1 m2
    cases m1
    cases m2
    refine a5 (vD q4 ?_)
    rw[Nat.mul_one]
    cases q5:Nat.land st (2 ^ j)==0 with
    |false=>exact hlk
    |true=>
     have q5:st&&& 2 ^ j=0:=by simpa using q5
     rcases hcase with hc1|hc1
     ·exact absurd q5 hc1
     ·show(n.lk|||2 ^ j)&&& t=0
      rw[Nat.and_or_distrib_right,hlk,hc1]
      rfl
   ·exact {
     lr:=r.lr1
     br:=r.br1
     lm:=Nat.le_trans r.lm1 (Nat.add_le_add_left (Nat.le_of_ble_eq_true x3) _)
     bm:=r.bm1
     f:=Ba _ (fun z=>0≤z∧z≤1) fun j hj=>by
      have l7:=lE r.f
      obtain⟨z,hz⟩:∃ z,aw.f[j]?=some z:=⟨_,List.getElem?_eq_getElem (by omega)⟩
      obtain⟨a,b,d,q1,q2,q3,q4⟩:=mD x6 hz
      obtain⟨u,u',m1,m2,rr⟩:=al.get j r.f hz
      obtain⟨i1,i2,rfl,rfl,a1,a2,a3,a4,a5⟩:=bo rr q1
      rw[zR hj] at m1
      cases m1
      omega
     rd:=by rw[r.rd1];have:=Nat.le_of_ble_eq_true x4;have:=k1.rd;simp[σ,lp];omega
     st:=by rw[r.st1];have:=Nat.le_of_ble_eq_true x5;have:=k1.st;simp[σ,lp];omega }
   ·exact {
     lr:=r.lr2
     br:=r.br2
     lm:=Nat.le_trans r.lm2 (Nat.add_le_add_left (Nat.le_of_ble_eq_true x3) _)
     bm:=r.bm2
     f:=Ba _ (fun z=>0≤z∧z≤1) fun j hj=>by
      have l7:=lE r.f
      obtain⟨z,hz⟩:∃ z,aw.f[j]?=some z:=⟨_,List.getElem?_eq_getElem (by omega)⟩
      obtain⟨a,b,d,q1,q2,q3,q4⟩:=mD x6 hz
      obtain⟨u,u',m1,m2,rr⟩:=al.get j r.f hz
      obtain⟨i1,i2,rfl,rfl,a1,a2,a3,a4,a5⟩:=bo rr q1
      rw[zR hj] at m2
      cases m2
      omega
     rd:=by rw[r.rd2];have:=Nat.le_of_ble_eq_true x4;have:=k2.rd;simp[σ,lp];omega
     st:=by rw[r.st2];have:=Nat.le_of_ble_eq_true x5;have:=k2.st;simp[σ,lp];omega }
  ·cases hx
structure C where
 r:List Int
 m:List (Int×Int)
 f:Fl
def W.core(w:W):C:=⟨w.r,w.m,w.f⟩
structure Rw where
 i:Nat
 n:NE
 os:List SO
 cos:List CO
def Rw.st(r:Rw):Nat:=oT r.i r.n r.os
structure Rw.Ok(r:Rw):Prop where
 n:kY[r.i]?=some r.n
 fit:k0 r.os r.cos
 ar:r.cos.length=r.n.ar
 fx:GU r.n.lk r.st (uK r.n r.os)=true
def Rw.told(r:Rw):MV:=CS r.n r.cos
def Hc:Hp:=[.dcs bO,.lst [],.lst [],.lst [],.lst [],.lst [],.lst []]
def pc:Pt:=⟨1,0,2,3,4,5,6⟩
theorem tB:pc.ok Hc where
 lw:=by decide
 lr:=by decide
 lm:=by decide
 lf:=by decide
 ld:=by decide
 ls:=by decide
 t:=rfl
 nd:=by decide
 nt:=by decide
def C.w(c:C):W:=⟨c.r,c.m,c.f,[],[],false,false⟩
structure Ia(c:C)(k:Nat):Prop where
 lr:c.r.length=10
 br:∀ x∈c.r,0≤x∧x≤18446744073709551615
 lm:c.m.length≤k
 bm:∀ x∈c.m,0≤x.2∧x.2≤255
 f:∀ j,0≤c.f.at j∧c.f.at j≤1
theorem Ia.w{c:C}{k:Nat}(h:Ia c k)(q:Nat):qX c.w k q:=⟨h.lr,h.br,h.lm,h.bm,h.f,Nat.zero_le _,Nat.zero_le _⟩
theorem qX.core{w:W}{k q:Nat}(h:qX w k q):Ia w.core k:=⟨h.lr,h.br,h.lm,h.bm,h.f⟩
theorem x9:∀ {a b:List Int},a.map MV.int=b.map MV.int→a=b
 |[],[],_=>rfl
 |x::a,y::b,h=>by
  simp only[List.map_cons,List.cons.injEq,MV.int.injEq] at h
  rw[h.1,x9 h.2]
theorem tx:∀ {a b:List (Int×Int)},a9 a=a9 b→a=b
 |[],[],_=>rfl
 |(x,x')::a,(y,y')::b,h=>by
  simp only[a9,List.map_cons,List.cons.injEq,Prod.mk.injEq,MV.int.injEq] at h
  obtain⟨⟨rfl,rfl⟩,h⟩:=h
  rw[tx h]
theorem IT{f g:Fl}(h:f.toL=g.toL):f=g:=by
 cases f;cases g
 simp only[Fl.toL,List.cons.injEq,Prod.mk.injEq,MV.int.injEq,true_and,and_true] at h
 obtain⟨rfl,rfl,rfl,rfl,rfl,rfl,rfl⟩:=h
 rfl
theorem L4{f g:Fl}(h:∀ j < 7,f.at j=g.at j):f=g:=by
 have h0:=h 0 (by decide);have h1:=h 1 (by decide);have h2:=h 2 (by decide);have h3:=h 3 (by decide);have h4:=h 4 (by decide);have h5:=h 5 (by decide);have h6:=h 6 (by decide)
 cases f;cases g
 simp only[Fl.at] at h0 h1 h2 h3 h4 h5 h6
 subst h0 h1 h2 h3 h4 h5 h6
 rfl
theorem GL{p:Pt}{H H':Hp}{w w':W}(h:p.ok H)(h':p.ok H')(e:ao H p w=ao H' p w'):w.core=w'.core:=by
 have er:=NS (w:=w) h
 have em:=MQ (w:=w) h
 have ef:=Ea (w:=w) h
 rw[e] at er em ef
 rw[NS h'] at er
 rw[MQ h'] at em
 rw[Ea h'] at ef
 simp only[bj,Option.some.injEq,MO.lst.injEq,MO.dci.injEq,MO.dcs.injEq] at er em ef
 have e1:=x9 er
 have e2:=tx em
 have e3:=IT ef
 unfold W.core
 rw[e1,e2,e3]
open Classical in
noncomputable def Bk (r:Rw) (c:C):C:=
 if h:∃ w:W,∃ G:Hp,ab T 7 (fnOf "_law_do") [.ref pc.w,r.told] (ao Hc pc c.w)=some (.none,ao (Hc++G) pc w) then (Classical.choose h).core else c
def MM(L:Nat)(f g:Fl):Prop:=∀ j < 7,L&&& 2 ^ j≠0→f.at j=g.at j
theorem pz{a:Nat}{j:Nat}:a&&& 2 ^ j≠0↔a.testBit j=true:=by
 constructor
 ·intro h
  obtain⟨i,hi⟩:=Nat.exists_testBit_of_ne_zero h
  rw[Nat.testBit_and,Nat.testBit_two_pow,Bool.and_eq_true,decide_eq_true_eq] at hi
  obtain⟨h1,rfl⟩:=hi
  exact h1
 ·intro h e
  have:(a&&& 2 ^ j).testBit j=true:=by rw[Nat.testBit_and,h,Nat.testBit_two_pow];simp
  rw[e] at this
  simp at this
theorem yK{r:Rw}{c:C}{w':W}{G:Hp}(e:ab T 7 (fnOf "_law_do") [.ref pc.w,r.told] (ao Hc pc c.w)=some (.none,ao (Hc++G) pc w')):Bk r c=w'.core:=by
 have hx:∃ w':W,∃ G:Hp,ab T 7 (fnOf "_law_do") [.ref pc.w,r.told] (ao Hc pc c.w)=some (.none,ao (Hc++G) pc w'):=⟨w',G,e⟩
 unfold Bk
 rw[dif_pos hx]
 obtain⟨G3,e3⟩:=Classical.choose_spec hx
 have e4:=e.symm.trans e3
 simp only[Option.some.injEq,Prod.mk.injEq,true_and] at e4
 exact(GL (bD tB _) (bD tB _) e4).symm
theorem Gz{r:Rw}(h:r.Ok){k q:Nat}(hk:k≤50000)(hq:q≤50000){p:Pt}{H:Hp}(hp:p.ok H){w:W}(hw:qX w k q):∃ w' G,ab T 7 (fnOf "_law_do") [.ref p.w,r.told] (ao H p w)=some (.none,ao (H++G) p w')∧qX w' (k+8) (q+20)∧w'.core=Bk r w.core:=by
 obtain⟨v,aw,G1,G2,w1,w2,-,e1,e2,er,em,ef,k1,k2,-⟩:=AD (zC h.n) h.fit h.ar h.fx (c:=6) (by decide) (w2:=w.core.w) (t:=0) hp tB hw (hw.core.w q) hk hq rfl rfl (fun _ _ _=>rfl) (Nat.and_zero _)
 refine⟨w1,G1,e1,k1,?_⟩
 rw[yK e2]
 have ef':w1.f=w2.f:=L4 fun j hj=>ef j hj (Or.inr (Nat.and_zero _))
 unfold W.core
 rw[er,em,ef']
theorem FS{r:Rw}(h:r.Ok){k:Nat}(hk:k≤50000){c:C}(hc:Ia c k):Ia (Bk r c) (k+8):=by
 obtain⟨w',G,e,o,n⟩:=Gz h hk (q:=0) (by decide) tB (hc.w 0)
 have:Bk r c=w'.core:=n.symm
 rw[this]
 exact o.core
def Rw.bef(r:Rw)(L:Nat):Nat:=(L&&& (127^^^r.st))|||r.n.lk
theorem Lk:(kY.all fun n=>Nat.blt n.lk 128)=true:=by decide+kernel
theorem Rw.Ok.lk{r:Rw}(h:r.Ok):r.n.lk < 128:=by
 have:=List.all_eq_true.mp Lk r.n (List.mem_of_getElem? h.n)
 exact Nat.blt_eq.mp this
theorem FR{r:Rw}(h:r.Ok){L:Nat}(hL:L < 128):r.bef L < 128:=Nat.or_lt_two_pow (n:=7) (Nat.lt_of_le_of_lt Nat.and_le_left hL) h.lk
theorem Au{j:Nat}(h:j < 7):Nat.testBit 127 j=true:=by
 match j,h with
 |0,_|1,_|2,_|3,_|4,_|5,_|6,_=>rfl
theorem OQ{a j:Nat}(h:a < 128)(hj:7≤j):a.testBit j=false:=Nat.testBit_lt_two_pow (Nat.lt_of_lt_of_le h (Nat.pow_le_pow_right (n:=2) (by decide) hj))
theorem BD{a b:Nat}(ha:a < 128)(h:∀ j < 7,a.testBit j=true→b.testBit j=true):a&&& (127^^^b)=0:=by
 apply Nat.eq_of_testBit_eq
 intro j
 simp only[Nat.testBit_and,Nat.testBit_xor,Nat.zero_testBit]
 by_cases h7:j < 7
 ·rw[Au h7]
  cases q:a.testBit j with
  |false=>rfl
  |true=>rw[h j h7 q];rfl
 ·rw[OQ ha (by omega)];rfl
theorem y7{a b:Nat}(h:a&&& (127^^^b)=0){j:Nat}(hj:j < 7)(ha:a.testBit j=true):b.testBit j=true:=by
 have:=congrArg (fun x=>Nat.testBit x j) h
 simp only[Nat.testBit_and,Nat.testBit_xor,Nat.zero_testBit,ha,Au hj] at this
 simpa using this
theorem JS{r:Rw}(h:r.Ok){k:Nat}(hk:k≤50000){c1 c2:C}(h1:Ia c1 k)(h2:Ia c2 k)(er:c1.r=c2.r)(em:c1.m=c2.m){L:Nat}(hL:L < 128)(ef:MM (r.bef L) c1.f c2.f):(Bk r c1).r=(Bk r c2).r∧(Bk r c1).m=(Bk r c2).m∧MM L (Bk r c1).f (Bk r c2).f:=by
 have hb:=FR h hL
 obtain⟨v,aw,G1,G2,w1,w2,-,e1,e2,er,em,ef',k1,k2,-⟩:=AD (zC h.n) h.fit h.ar h.fx (c:=6) (by decide) (w1:=c1.w) (w2:=c2.w) (t:=127^^^r.bef L) tB tB (h1.w 0) (h2.w 0) hk (by decide) er em (fun j hj e=>ef j hj (by
  rw[pz]
  exact y7 e hj (Nat.testBit_two_pow_self))) (BD h.lk fun j hj e=>by unfold Rw.bef;rw[Nat.testBit_or,e,Bool.or_true])
 rw[yK e1,yK e2]
 refine⟨er,em,fun j hj hl=>ef' j hj ?_⟩
 rw[pz] at hl ⊢
 cases q:r.st.testBit j with
 |true=>exact Or.inl rfl
 |false=>
  refine Or.inr (BD (Nat.lt_of_le_of_lt (Nat.pow_le_pow_right (by decide) (show j≤6 by omega)) (by decide)) fun i hi e=>?_)
  have:i=j:=by
   rw[Nat.testBit_two_pow] at e
   exact(of_decide_eq_true e).symm
  subst this
  unfold Rw.bef
  rw[Nat.testBit_or,Nat.testBit_and,Nat.testBit_xor,hl,q,Au hi]
  rfl
def bL(cl:Fn→List MV→M MV)(g:Nat)(C:Str)(l:List (M MV)):M MV:=bnd (fu l) fun vs=>dY T (eU T cl g) C (dM C) vs
def Bu(cl:Fn→List MV→M MV)(a_bag a_many:MV):M MV:=
 bnd (bu .Mod (aq (ret a_bag) (ret (.int 0))) (ret a_many)) fun worth_1=>
 v6 (bu .FloorDiv (aq (ret a_bag) (ret (.int 0))) (ret a_many)) (ret a_bag) (ret (.int 0)) (
 ret worth_1)
theorem JP(cl:Fn→List MV→M MV)(a_bag a_many:MV)(H:Hp):an T cl (fnOf "_law_take") [a_bag,a_many] H=Bu cl a_bag a_many H:=by kernel_rfl
def lN(cl:Fn→List MV→M MV)(a_bag a_size:MV):M MV:=
 bnd (aq (ai cl "_law_numbers" []) (ai cl "_law_take" [ret a_bag,ret (.int 8)])) fun number_1=>
 ifT (k6 [aO .Eq (ret a_size) (ret (.int 8)),aO .Eq (ret number_1) (ret (.int 0)),aO .Eq (ai cl "_law_take" [ret a_bag,ret (.int 2)]) (ret (.int 1))])
 (bL cl 17 "Reg" [ai cl "high" [ret (.int 4)]])
 (bL cl 18 "Reg" [ai cl "gpr" [ret number_1,ret a_size]])
theorem zG(cl:Fn→List MV→M MV)(a_bag a_size:MV)(H:Hp):an T cl (fnOf "_law_register") [a_bag,a_size] H=lN cl a_bag a_size H:=by kernel_rfl
def HN(cl:Fn→List MV→M MV)(a_bag a_size:MV):M MV:=
 bnd (ai cl "gpr" [aq (ai cl "_law_numbers" []) (ai cl "_law_take" [ret a_bag,ret (.int 8)]),ret (.int 64)]) fun base_1=>
 bnd (aq (bP [ret .none,ai cl "gpr" [ret (.int 1),ret (.int 64)],ai cl "gpr" [ret (.int 9),ret (.int 64)]]) (ai cl "_law_take" [ret a_bag,ret (.int 3)])) fun index_2=>
 bL cl 18 "Mem" [ret base_1,ret index_2,ifT (aO .Is (ret index_2) (ret .none)) (ret (.int 1)) (ret (.int 4)),bu .Sub (ai cl "_law_take" [ret a_bag,ret (.int 33)]) (ret (.int 16)),ret a_size]
theorem NQ(cl:Fn→List MV→M MV)(a_bag a_size:MV)(H:Hp):an T cl (fnOf "_law_mem") [a_bag,a_size] H=HN cl a_bag a_size H:=by kernel_rfl
def yj(cl:Fn→List MV→M MV)(a_bag a_size:MV):M MV:=
 ifT (aO .Eq (ai cl "_law_take" [ret a_bag,ret (.int 3)]) (ret (.int 2))) (ai cl "_law_mem" [ret a_bag,ret a_size]) (ai cl "_law_register" [ret a_bag,ret a_size])
theorem LF(cl:Fn→List MV→M MV)(a_bag a_size:MV)(H:Hp):an T cl (fnOf "_law_goal") [a_bag,a_size] H=yj cl a_bag a_size H:=by kernel_rfl
def Ak(cl:Fn→List MV→M MV)(a_bag a_size:MV):M MV:=
 bnd (ai cl "_law_take" [ret a_bag,ret (.int 6)]) fun way_1=>
 bnd (cU "max" [ret a_size,ret (.int 16)]) fun wide_2=>
 ifT (aO .Eq (ret way_1) (ret (.int 0)))
 (bL cl 17 "Instruction" [ret (.str "mov"),bP [ai cl "_law_register" [ret a_bag,ret a_size],ai cl "_law_goal" [ret a_bag,ret a_size]]])
 (ifT (aO .Eq (ret way_1) (ret (.int 1)))
  (bL cl 17 "Instruction" [ret (.str "mov"),bP [ai cl "_law_goal" [ret a_bag,ret a_size],bL cl 15 "Imm" [ai cl "_law_take" [ret a_bag,ret (.int 128)]]]])
  (ifT (aO .Eq (ret way_1) (ret (.int 2)))
   (bL cl 17 "Instruction" [ret (.str "lea"),bP [ai cl "_law_register" [ret a_bag,ret wide_2],ai cl "_law_mem" [ret a_bag,ret (.int 0)]]])
   (ifT (aO .Eq (ret way_1) (ret (.int 3)))
    (bL cl 17 "Instruction" [aq (bP [ret (.str "movzx"),ret (.str "movsx")]) (ai cl "_law_take" [ret a_bag,ret (.int 2)]),bP [ai cl "_law_register" [ret a_bag,aq (bP [ret (.int 64),ret (.int 32)]) (ai cl "_law_take" [ret a_bag,ret (.int 2)])],ai cl "_law_goal" [ret a_bag,aq (bP [ret (.int 8),ret (.int 16)]) (ai cl "_law_take" [ret a_bag,ret (.int 2)])]]])
    (ifT (aO .Eq (ret way_1) (ret (.int 4)))
     (bL cl 17 "Instruction" [ret (.str "xchg"),bP [ai cl "_law_goal" [ret a_bag,ret a_size],ai cl "_law_register" [ret a_bag,ret a_size]]])
     (bL cl 18 "Instruction" [ret (.str "mov"),bP [ai cl "_law_mem" [ret a_bag,ret a_size],ai cl "_law_register" [ret a_bag,ret a_size]]])))))
theorem Mo(cl:Fn→List MV→M MV)(a_bag a_size:MV)(H:Hp):an T cl (fnOf "_law_move") [a_bag,a_size] H=Ak cl a_bag a_size H:=by kernel_rfl
def Gf(cl:Fn→List MV→M MV)(a_bag:MV):M MV:=
 bnd (ai cl "_law_take" [ret a_bag,ret (.int 11)]) fun way_1=>
 bnd (aq (bP [ret (.int 64),ret (.int 32),ret (.int 16),ret (.int 8)]) (ai cl "_law_take" [ret a_bag,ret (.int 4)])) fun size_2=>
 bnd (cU "max" [ret size_2,ret (.int 16)]) fun wide_3=>
 ifT (aO .Eq (ret way_1) (ret (.int 0)))
 (bnd (aq (bP [ret (.str "adc"),ret (.str "add"),ret (.str "sub"),ret (.str "sbb"),ret (.str "and"),ret (.str "or"),ret (.str "xor"),ret (.str "cmp"),ret (.str "test")]) (ai cl "_law_take" [ret a_bag,ret (.int 9)])) fun name_4=>
  bnd (ifT (aO .Eq (ai cl "_law_take" [ret a_bag,ret (.int 2)]) (ret (.int 0))) (bL cl 16 "Imm" [bu .Sub (ai cl "_law_take" [ret a_bag,ret (.int 256)]) (ret (.int 128))]) (ai cl "_law_register" [ret a_bag,ret size_2])) fun start_5=>
  bL cl 17 "Instruction" [ret name_4,bP [ai cl "_law_goal" [ret a_bag,ret size_2],ret start_5]])
 (ifT (aO .Eq (ret way_1) (ret (.int 1)))
  (bL cl 17 "Instruction" [aq (bP [ret (.str "inc"),ret (.str "dec"),ret (.str "neg"),ret (.str "not")]) (ai cl "_law_take" [ret a_bag,ret (.int 4)]),bP [ai cl "_law_goal" [ret a_bag,ret size_2]]])
  (ifT (aO .Eq (ret way_1) (ret (.int 2)))
   (ai cl "_law_move" [ret a_bag,ret size_2])
   (ifT (aO .Eq (ret way_1) (ret (.int 3)))
    (bnd (aq (bP [bL cl 15 "Reg" [ai cl "gpr" [ret (.int 1),ret (.int 8)]],bL cl 15 "Imm" [ret (.int 0)],bL cl 15 "Imm" [ret (.int 1)],bL cl 15 "Imm" [ret (.int 3)],bL cl 15 "Imm" [ret (.int 7)],bL cl 15 "Imm" [ret (.int 32)],bL cl 15 "Imm" [ret (.int 64)]]) (ai cl "_law_take" [ret a_bag,ret (.int 7)])) fun count_6=>
     bL cl 17 "Instruction" [aq (bP [ret (.str "shl"),ret (.str "shr"),ret (.str "sar"),ret (.str "rol"),ret (.str "ror")]) (ai cl "_law_take" [ret a_bag,ret (.int 5)]),bP [ai cl "_law_goal" [ret a_bag,ret size_2],ret count_6]])
    (ifT (aO .Eq (ret way_1) (ret (.int 4)))
     (bL cl 17 "Instruction" [ret (.str "mul"),bP [ai cl "_law_goal" [ret a_bag,ret size_2]]])
     (ifT (aO .Eq (ret way_1) (ret (.int 5)))
      (bL cl 17 "Instruction" [ret (.str "imul"),bP [ai cl "_law_register" [ret a_bag,ret wide_3],ai cl "_law_goal" [ret a_bag,ret wide_3],bL cl 15 "Imm" [ai cl "_law_take" [ret a_bag,ret (.int 128)]]]])
      (bnd (bP [ret (.str "o"),ret (.str "no"),ret (.str "b"),ret (.str "ae"),ret (.str "e"),ret (.str "ne"),ret (.str "be"),ret (.str "a"),ret (.str "s"),ret (.str "ns"),ret (.str "p"),ret (.str "np"),ret (.str "l"),ret (.str "ge"),ret (.str "le"),ret (.str "g")]) fun conditions_7=>
       ifT (aO .Eq (ret way_1) (ret (.int 6)))
       (bL cl 17 "Instruction" [bu .Add (ret (.str "set")) (aq (ret conditions_7) (ai cl "_law_take" [ret a_bag,ret (.int 16)])),bP [ai cl "_law_goal" [ret a_bag,ret (.int 8)]]])
       (ifT (aO .Eq (ret way_1) (ret (.int 7)))
        (bL cl 17 "Instruction" [bu .Add (ret (.str "cmov")) (aq (ret conditions_7) (ai cl "_law_take" [ret a_bag,ret (.int 16)])),bP [ai cl "_law_register" [ret a_bag,ret wide_3],ai cl "_law_goal" [ret a_bag,ret wide_3]]])
        (ifT (aO .Eq (ret way_1) (ret (.int 8)))
         (bL cl 17 "Instruction" [aq (bk cl (ret (.str "cmc clc stc cld std lahf sahf cbw cwde cdqe cwd cdq cqo nop stosb stosw stosd stosq lodsb lodsw lodsd lodsq")) "split" [ret (.str " ")]) (ai cl "_law_take" [ret a_bag,ret (.int 22)]),bP []])
         (ifT (aO .Eq (ret way_1) (ret (.int 9)))
          (bL cl 17 "Instruction" [aq (bP [ret (.str "push"),ret (.str "pop")]) (ai cl "_law_take" [ret a_bag,ret (.int 2)]),bP [ai cl "_law_goal" [ret a_bag,aq (bP [ret (.int 64),ret (.int 16)]) (ai cl "_law_take" [ret a_bag,ret (.int 2)])]]])
          (ifT (aO .Eq (ai cl "_law_take" [ret a_bag,ret (.int 2)]) (ret (.int 0)))
           (bL cl 17 "Instruction" [ret (.str "bswap"),bP [bL cl 15 "Reg" [ai cl "gpr" [aq (ai cl "_law_numbers" []) (ai cl "_law_take" [ret a_bag,ret (.int 8)]),cU "max" [ret size_2,ret (.int 32)]]]]])
           (bL cl 18 "Instruction" [ret (.str "bt"),bP [ai cl "_law_goal" [ret a_bag,ret wide_3],bL cl 16 "Imm" [ai cl "_law_take" [ret a_bag,ret (.int 16)]]]])))))))))))
theorem NV(cl:Fn→List MV→M MV)(a_bag:MV)(H:Hp):an T cl (fnOf "_law_row") [a_bag] H=Gf cl a_bag H:=by kernel_rfl
def fM(n z:Nat):MV:=.inst "Register" [("name",.str (cq n z)),("kind",.str "gpr"),("number",.int (n:Int)),("size",.int (z:Int))]
def NI:MV:=.inst "Register" [("name",.str "ah"),("kind",.str "high"),("number",.int 4),("size",.int 8)]
def jy(v:MV):MV:=.inst "Reg" [("kind",.str "reg"),("register",v)]
def jT(v:MV):MV:=.inst "Imm" [("kind",.str "imm"),("worth",v),("name",.str "")]
def nS(b x s d z:MV):MV:=.inst "Mem" [("kind",.str "mem"),("base",b),("index",x),("scale",s),("worth",d),("size",z),("segment",.str ""),("name",.str "")]
def bt(n os:MV):MV:=.inst "Instruction" [("name",n),("operands",os),("prefix",.str "")]
def Nb:Option Nat→MV
 |none=>.none
 |some x=>fM x 64
def CO.val:CO→MV
 |.reg n z=>jy (fM n z)
 |.ah=>jy NI
 |.mem b x d z=>nS (fM b 64) (Nb x) (.int (L5 x)) (.int d) (.int (z:Int))
 |.imm v=>jT (.int v)
def Rw.val(r:Rw):MV:=bt (.str r.n.nm) (.tup (r.cos.map CO.val))
theorem lift{a c:Nat}(h:a≤c){f:Fn}{vs:List MV}{H:Hp}{r:MV×Hp}(e:ab T a f vs H=some r):ab T c f vs H=some r:=by
 have:=qS (T:=T) (c - a) a f vs H r e
 rwa [show a+(c - a)=c by omega] at this
section
variable(cl:Fn→List MV→M MV)(g:Nat)(H:Hp)(a b x s d z:MV)
theorem L0:dY T (eU T cl (g+10)) "Reg" (dM "Reg") [a] H=some (jy a,H):=by kernel_rfl
theorem Lm:dY T (eU T cl (g+10)) "Imm" (dM "Imm") [a] H=some (jT a,H):=by kernel_rfl
theorem Ma:dY T (eU T cl (g+10)) "Mem" (dM "Mem") [b,x,s,d,z] H=some (nS b x s d z,H):=by kernel_rfl
theorem Jh:dY T (eU T cl (g+10)) "Instruction" (dM "Instruction") [a,.lst []] H=some (bt a (.tup []),H):=by kernel_rfl
theorem IP:dY T (eU T cl (g+10)) "Instruction" (dM "Instruction") [a,.lst [b]] H=some (bt a (.tup [b]),H):=by kernel_rfl
theorem IL:dY T (eU T cl (g+10)) "Instruction" (dM "Instruction") [a,.lst [b,x]] H=some (bt a (.tup [b,x]),H):=by kernel_rfl
theorem Jb:dY T (eU T cl (g+10)) "Instruction" (dM "Instruction") [a,.lst [b,x,s]] H=some (bt a (.tup [b,x,s]),H):=by kernel_rfl
end
theorem J1(H:Hp):(eN.flatMap fun(n:Nat)=>aL.map fun(z:Nat)=>ab T 3 (fnOf "gpr") [.int (n:Int),.int (z:Int)] H)=eN.flatMap fun n=>aL.map fun z=>some (fM n z,H):=by kernel_rfl
theorem yw{c n z:Nat}(hc:3≤c)(hn:n∈eN)(hz:z∈aL)(H:Hp):ab T c (fnOf "gpr") [.int (n:Int),.int (z:Int)] H=some (fM n z,H):=lift hc (iJ (J1 H) n hn z hz)
theorem JB{c:Nat}(hc:2≤c)(H:Hp):ab T c (fnOf "high") [.int 4] H=some (NI,H):=lift hc (by kernel_rfl)
theorem y0{c:Nat}(hc:1≤c)(H:Hp):ab T c (fnOf "_law_numbers") [] H=some (.lst (eN.map fun(n:Nat)=>.int (n:Int)),H):=lift hc (by kernel_rfl)
section
variable(n nm k s:Str)(z:Int)(H:Hp)
theorem v7(w x:MV):ab T 1 (ed "Reg" "told") [jy (.inst "Register" [("name",w),("kind",.str k),("number",x),("size",.int z)])] H=some (.tup [.str "reg",w],H):=by kernel_rfl
theorem FM(w:MV):ab T 1 (ed "Imm" "told") [jT w] H=some (.tup [.str "imm",w,.str ""],H):=by kernel_rfl
end
def BQ(k:Nat):SO→List Int
 |.mem false _=>[-1 - ((2 * k:Nat):Int)]
 |.mem true _=>[-1 - ((2 * k:Nat):Int),-1 - ((2 * k+1:Nat):Int)]
 |_=>[]
def El(k:Nat):SO→List Int
 |.reg _=>[-1 - ((2 * k:Nat):Int)]
 |.ah=>[0]
 |_=>[]
def SO.size:SO→Nat
 |.reg z=>z
 |.ah=>8
 |.mem _ z=>z
 |_=>0
def SO.isM:SO→Bool
 |.mem _ _=>true
 |_=>false
def cO(l:List Nat)(i:Nat):Bool:=l.any (Nat.beq i)
def ye(i:Nat):Bool:=!(cO [7,8,23,79,82] i)
def HB(i:Nat):Bool:=!(cO [13,14,15,16,24,80] i)&&!(Nat.ble 25 i&&Nat.ble i 40)
def ny(i:Nat)(z:Nat):List Int×List Int:=
 bif i==23 then (bif z==8 then ([0],[0]) else bif z==16 then ([0,2],[0,2]) else ([0],[0,2]))
 else bif cO [62,64,65,66] i then ([0],[0])
 else bif i==67 then ([0,2],[2])
 else bif cO [68,69] i then ([0],[2])
 else bif i==63 then ([0],[])
 else bif cO [79,80] i then ([4],[4])
 else bif cO [71,72,73,74] i then ([0,7],[7])
 else bif cO [75,76] i then ([0,6],[0,6])
 else bif cO [77,78] i then ([6],[0,6])
 else ([],[])
def Oa(i:Nat):Nat→List SO→List Int
 |_,[]=>[]
 |k,o::r=>BQ k o++(bif Nat.beq k 0&&ye i then (bif HB i||Nat.blt o.size 32 then El k o else []) else El k o)++Oa i (k+1) r
def Oc(i:Nat):Nat→List SO→List Int
 |_,[]=>[]
 |k,o::r=>(bif (Nat.beq k 0&&ye i)||(Nat.beq k 1&&Nat.beq i 17) then El k o else [])++Oc i (k+1) r
def H9:List SO→Nat
 |o::_=>o.size
 |[]=>0
def MS(i:Nat)(os:List SO):List Int:=(ny i (H9 os)).1++Oa i 0 os
def MT(i:Nat)(os:List SO):List Int:=(ny i (H9 os)).2++Oc i 0 os
def BB:List SO→Bool×Bool
 |[]=>(false,false)
 |o::r=>bif o.isM then (true,true) else (r.any SO.isM,false)
def OW(i:Nat)(os:List SO):Bool:=cO [75,76,77,78,80] i||((BB os).1&&!(Nat.beq i 14)&&(!(BB os).2||!(ye i)||HB i))
def OS(i:Nat)(os:List SO):Bool:=cO [71,72,73,74,79] i||((BB os).1&&!(Nat.beq i 14)&&(((BB os).2&&ye i)||Nat.beq i 17))
def sU(l:List Int)(z:Int):Bool:=l.any (·==z)
def i8(a b:List Int):Bool:=a.all (sU b)&&b.all (sU a)
def Ip(i:Nat)(os:List SO)(x:Option (AV×AW)):Bool:=match x with
 |some (_,w)=>i8 w.rd (MS i os)&&i8 w.st (MT i os)&&w.ld==OW i os&&w.sd==OS i os
 |none=>false
def Hd(i:Nat)(os:List SO):Bool:=match kY[i]? with
 |some n=>(fun x=>GU n.lk (oT i n os) x&&Ip i os x) (uK n os)
 |none=>false
def dz(f:Nat×Nat×List (List SO)):Bool:=(List.range f.2.1).all fun j=>f.2.2.all fun os=>Hd (f.1+j) os
def Ef(cl:Fn→List MV→M MV)(a_world:MV):M MV:=
 bnd (qU [(ret (.str "t"),aq (ret a_world) (ret (.str "t"))),(ret (.str "r"),cU "list" [aq (ret a_world) (ret (.str "r"))]),(ret (.str "m"),cU "dict" [aq (ret a_world) (ret (.str "m"))]),(ret (.str "f"),cU "dict" [aq (ret a_world) (ret (.str "f"))])]) fun found_1=>
 KB (kZ [r9 [],r9 [],ret (.bool false),ret (.bool false)]) fun t2 t3 t4 t5=>
 lS (ret found_1) (ret (.str "read")) t2 (lS (ret found_1) (ret (.str "set")) t3 (lS (ret found_1) (ret (.str "load")) t4 (lS (ret found_1) (ret (.str "store")) t5 (ret found_1))))
theorem EM(cl:Fn→List MV→M MV)(a_world:MV)(H:Hp):an T cl (fnOf "_law_copy") [a_world] H=Ef cl a_world H:=by kernel_rfl
def z9(cl:Fn→List MV→M MV)(a_world a_live:MV):M MV:=
 bnd (bw (eP (cU "sorted" [aq (ret a_world) (ret (.str "m"))])) (fun c2=>bn (ret true) (kZ [ret c2,aq (aq (ret a_world) (ret (.str "m"))) (ret c2)]))) fun octets_1=>
 kZ [aq (ret a_world) (ret (.str "r")),ret octets_1,bw (eP (ret a_live)) (fun c3=>bn (ret true) (aq (aq (ret a_world) (ret (.str "f"))) (ret c3)))]
theorem Mp(cl:Fn→List MV→M MV)(a_world a_live:MV)(H:Hp):an T cl (fnOf "_law_end") [a_world,a_live] H=z9 cl a_world a_live H:=by kernel_rfl
noncomputable def lC:List Rw→C→C
 |[],c=>c
 |r::rs,c=>lC rs (Bk r c)
def pY:List Rw→Nat→Nat
 |[],L=>L
 |r::rs,L=>r.bef (pY rs L)
theorem vI:∀ {rs:List Rw},(∀ r∈rs,r.Ok)→∀ {L:Nat},L < 128→pY rs L < 128
 |[],_,_,h=>h
 |r::rs,h,_,hl=>FR (h r List.mem_cons_self) (vI (fun r hr=>h r (List.mem_cons_of_mem _ hr)) hl)
theorem wA:∀ {rs:List Rw},(∀ r∈rs,r.Ok)→∀ {k:Nat} {c1 c2:C} {L:Nat},L < 128→k+8 * rs.length≤50000→Ia c1 k→Ia c2 k→c1.r=c2.r→c1.m=c2.m→MM (pY rs L) c1.f c2.f→(lC rs c1).r=(lC rs c2).r∧(lC rs c1).m=(lC rs c2).m∧MM L (lC rs c1).f (lC rs c2).f
 |[],_,k,c1,c2,L,_,_,_,_,er,em,ef=>⟨er,em,ef⟩
 |r::rs,ho,k,c1,c2,L,hL,hk,h1,h2,er,em,ef=>by
  simp only[List.length_cons] at hk
  have ho':=fun r hr=>ho r (List.mem_cons_of_mem _ hr)
  have hr:=ho r List.mem_cons_self
  obtain⟨a1,a2,a3⟩:=JS hr (by omega) h1 h2 er em (vI ho' hL) ef
  exact wA ho' hL (k:=k+8) (by omega) (FS hr (by omega) h1) (FS hr (by omega) h2) a1 a2 a3
def Pt.prts(p:Pt):List Nat:=[p.w,p.r,p.m,p.f,p.rd,p.st]
def dB(h:Hp)(p:Pt)(w:W):Prop:=p.ok h∧ao h p w=h
structure eS(S:List Nat)(h h':Hp):Prop where
 len:h.length≤h'.length
 eq:∀ i,i < h.length→i∉S→h'[i]?=h[i]?
theorem eS.refl(S:List Nat)(h:Hp):eS S h h:=⟨Nat.le_refl _,fun _ _ _=>rfl⟩
theorem eS.trans{S:List Nat}{a b c:Hp}(h:eS S a b)(h':eS S b c):eS S a c:=⟨Nat.le_trans h.len h'.len,fun i hi hs=>(h'.eq i (Nat.lt_of_lt_of_le hi h.len) hs).trans (h.eq i hi hs)⟩
theorem eS.mono{S S':List Nat}{a b:Hp}(h:eS S a b)(hs:∀ x∈S,x∈S'∨a.length≤x):eS S' a b:=⟨h.len,fun i hi hn=>h.eq i hi fun hx=>by
 rcases hs i hx with h1|h1
 ·exact hn h1
 ·omega⟩
theorem gF(h G:Hp):eS [] h (h++G):=⟨by simp,fun i hi _=>List.getElem?_append_left hi⟩
theorem j5{p:Pt}{w:W}{i:Nat}(h:i∉p.prts)(o:MO):cE p w i o=o:=by
 simp only[Pt.prts,List.mem_cons,List.not_mem_nil,or_false,not_or] at h
 unfold cE
 rw[if_neg h.1,if_neg h.2.1,if_neg h.2.2.1,if_neg h.2.2.2.1,if_neg h.2.2.2.2.1,if_neg h.2.2.2.2.2]
theorem IH{p:Pt}{w:W}{i:Nat}(h:i∈p.prts)(o o':MO):cE p w i o=cE p w i o':=by
 unfold cE
 by_cases h1:i=p.w
 ·rw[if_pos h1,if_pos h1]
 ·rw[if_neg h1,if_neg h1]
  by_cases h2:i=p.r
  ·rw[if_pos h2,if_pos h2]
  ·rw[if_neg h2,if_neg h2]
   by_cases h3:i=p.m
   ·rw[if_pos h3,if_pos h3]
   ·rw[if_neg h3,if_neg h3]
    by_cases h4:i=p.f
    ·rw[if_pos h4,if_pos h4]
    ·rw[if_neg h4,if_neg h4]
     by_cases h5:i=p.rd
     ·rw[if_pos h5,if_pos h5]
     ·rw[if_neg h5,if_neg h5]
      by_cases h6:i=p.st
      ·rw[if_pos h6,if_pos h6]
      ·simp only[Pt.prts,List.mem_cons,List.not_mem_nil,or_false] at h
       omega
theorem nQ{h:Hp}{p:Pt}{w:W}:eS p.prts h (ao h p w):=⟨by rw[cg];exact Nat.le_refl _,fun i hi hs=>by
 rw[cy]
 cases h[i]? with
 |none=>rfl
 |some o=>simp only[Option.map_some];rw[j5 hs]⟩
theorem LG{H:Hp}{p:Pt}{w:W}(h:p.ok H):p.ok (ao H p w) where
 lw:=by rw[cg];exact h.lw
 lr:=by rw[cg];exact h.lr
 lm:=by rw[cg];exact h.lm
 lf:=by rw[cg];exact h.lf
 ld:=by rw[cg];exact h.ld
 ls:=by rw[cg];exact h.ls
 t:=O6 h
 nd:=h.nd
 nt:=h.nt
theorem Iu{H:Hp}{p:Pt}{w w':W}:ao (ao H p w) p w'=ao H p w':=by
 apply List.ext_getElem?
 intro i
 rw[cy,cy,cy]
 cases H[i]? with
 |none=>rfl
 |some o=>
  simp only[Option.map_some]
  congr 1
  by_cases hi:i∈p.prts
  ·exact IH hi _ _
  ·rw[j5 hi,j5 hi,j5 hi]
theorem uU{H:Hp}{p:Pt}{w:W}(h:p.ok H):dB (ao H p w) p w:=⟨LG h,Iu⟩
theorem dB.keep{h h':Hp}{p:Pt}{w:W}{S:List Nat}(hh:dB h p w)(k:eS S h h')(hs:∀ x∈p.prts,x∉S)(ht:p.t∉S):dB h' p w:=by
 obtain⟨o,e⟩:=hh
 have tl:p.t < h.length:=by
  have:=o.t
  exact(List.getElem?_eq_some_iff.mp this).1
 have o':p.ok h':={
  lw:=Nat.lt_of_lt_of_le o.lw k.len
  lr:=Nat.lt_of_lt_of_le o.lr k.len
  lm:=Nat.lt_of_lt_of_le o.lm k.len
  lf:=Nat.lt_of_lt_of_le o.lf k.len
  ld:=Nat.lt_of_lt_of_le o.ld k.len
  ls:=Nat.lt_of_lt_of_le o.ls k.len
  t:=by rw[k.eq p.t tl ht];exact o.t
  nd:=o.nd
  nt:=o.nt }
 refine⟨o',?_⟩
 apply List.ext_getElem?
 intro i
 rw[cy]
 by_cases hi:i∈p.prts
 ·have hl:i < h.length:=by
   simp only[Pt.prts,List.mem_cons,List.not_mem_nil,or_false] at hi
   have h1:=o.lw;have h2:=o.lr;have h3:=o.lm;have h4:=o.lf;have h5:=o.ld;have h6:=o.ls
   omega
  rw[k.eq i hl (hs i hi)]
  have:=congrArg (fun l=>l[i]?) e
  simp only[cy] at this
  exact this
 ·cases h'[i]? with
  |none=>rfl
  |some o=>simp only[Option.map_some];rw[j5 hi]
theorem Cg{r:Rw}(h:r.Ok){k q:Nat}(hk:k≤50000)(hq:q≤50000){p:Pt}{H:Hp}{w:W}(hp:dB H p w)(hw:qX w k q):∃ w' h',ab T 7 (fnOf "_law_do") [.ref p.w,r.told] H=some (.none,h')∧dB h' p w'∧eS p.prts H h'∧qX w' (k+8) (q+20)∧w'.core=Bk r w.core:=by
 obtain⟨w',G,e,o,n⟩:=Gz h hk hq hp.1 hw
 rw[hp.2] at e
 exact⟨w',_,e,uU (bD hp.1 G),((gF H G).mono (by simp)).trans nQ,o,n⟩
theorem BK(h l:Hp)(j:Nat):(h++l)[h.length+j]?=l[j]?:=by rw[List.getElem?_append_right (by omega)];congr 1;omega
theorem uB(h l:Hp)(j:Nat)(o:MO):(h++l).set (h.length+j) o=h++l.set j o:=by rw[List.set_append_right _ _ (by omega)];congr 2;omega
def cH(n t:Nat):Pt:=⟨n+3,t,n,n+1,n+2,n+4,n+5⟩
def jk(w:W):W:=⟨w.r,w.m,w.f,[],[],false,false⟩
theorem nr{h l:Hp}{j:Nat}{es:List (Str×MV)}(e:l[j]?=some (.dcs es))(hl:es.length≤100000)(k:Str)(v:MV):setItem (.ref (h.length+j)) (.str k) v (h++l)=some ((),h++l.set j (.dcs (put k v es))):=by
 simp only[setItem,BK,e]
 have h1:Nat.ble es.length 100000=true:=Nat.ble_eq_true_of_le hl
 rw[h1]
 simp only[cond_true,uB]
theorem Ha{H:Hp}{a:Nat}{l:List MV}(e:H[a]?=some (.lst l))(hl:l.length≤100000):builtin "list" [.ref a] H=some (.ref H.length,H++[.lst l]):=by
 have h1:builtin "list" [.ref a] H=(match H[a]? with
    |some (.lst l)=>bif bZ l then some (.ref H.length,H++[.lst l]) else none
    |_=>none):=by kernel_rfl
 rw[h1,e]
 dsimp only
 rw[bN hl];rfl
theorem wU{H:Hp}{a:Nat}:builtin "dict" [.ref a] H=(match H[a]? with
    |some (.dcs l)=>bif Nat.ble l.length 100000 then some (.ref H.length,H++[.dcs l]) else none
    |some (.dci l)=>bif Nat.ble l.length 100000 then some (.ref H.length,H++[.dci l]) else none
    |_=>none):=by kernel_rfl
section
variable{h:Hp}{p:Pt}{w:W}
theorem dB.app(hh:dB h p w)(G:Hp):dB (h++G) p w:=hh.keep (gF h G) (by simp) (by simp)
theorem dB.gt(hh:dB h p w):bE (.ref p.w) (.str "t") h=some (.ref p.t,h):=by have:=O8 (w:=w) hh.1;rw[hh.2] at this;exact this
theorem dB.gr(hh:dB h p w):bE (.ref p.w) (.str "r") h=some (.ref p.r,h):=by have:=O3 (w:=w) hh.1;rw[hh.2] at this;exact this
theorem dB.gm(hh:dB h p w):bE (.ref p.w) (.str "m") h=some (.ref p.m,h):=by have:=O5 (w:=w) hh.1;rw[hh.2] at this;exact this
theorem dB.gf(hh:dB h p w):bE (.ref p.w) (.str "f") h=some (.ref p.f,h):=by have:=Pb (w:=w) hh.1;rw[hh.2] at this;exact this
theorem dB.grd(hh:dB h p w):bE (.ref p.w) (.str "read") h=some (.ref p.rd,h):=by have:=Nf (w:=w) hh.1;rw[hh.2] at this;exact this
theorem dB.gst(hh:dB h p w):bE (.ref p.w) (.str "set") h=some (.ref p.st,h):=by have:=NB (w:=w) hh.1;rw[hh.2] at this;exact this
theorem dB.gld(hh:dB h p w):bE (.ref p.w) (.str "load") h=some (.bool w.load,h):=by have:=L7 (w:=w) hh.1;rw[hh.2] at this;exact this
theorem dB.gsd(hh:dB h p w):bE (.ref p.w) (.str "store") h=some (.bool w.store,h):=by have:=JY (w:=w) hh.1;rw[hh.2] at this;exact this
theorem dB.aR(hh:dB h p w):h[p.r]?=some (bj w.r):=by have:=NS (w:=w) hh.1;rw[hh.2] at this;exact this
theorem dB.aM(hh:dB h p w):h[p.m]?=some (.dci (a9 w.m)):=by have:=MQ (w:=w) hh.1;rw[hh.2] at this;exact this
theorem dB.aF(hh:dB h p w):h[p.f]?=some (.dcs w.f.toL):=by have:=Ea (w:=w) hh.1;rw[hh.2] at this;exact this
theorem dB.aD(hh:dB h p w):h[p.rd]?=some (bj w.rd):=by have:=OO (w:=w) hh.1;rw[hh.2] at this;exact this
theorem dB.aS(hh:dB h p w):h[p.st]?=some (bj w.st):=by have:=OE (w:=w) hh.1;rw[hh.2] at this;exact this
end
def iE(n t:Nat)(w:W):Hp:=[bj w.r,.dci (a9 w.m),.dcs w.f.toL,(jk w).top (cH n t),.lst [],.lst []]
theorem vw{h:Hp}{t:Nat}{w:W}(ht:h[t]?=some (.dcs bO)):dB (h++iE h.length t w) (cH h.length t) (jk w):=by
 have tl:t < h.length:=(List.getElem?_eq_some_iff.mp ht).1
 have len:(h++iE h.length t w).length=h.length+6:=by simp[iE]
 have o:(cH h.length t).ok (h++iE h.length t w):={
  lw:=by rw[len];simp only[cH];omega
  lr:=by rw[len];simp only[cH];omega
  lm:=by rw[len];simp only[cH];omega
  lf:=by rw[len];simp only[cH];omega
  ld:=by rw[len];simp only[cH];omega
  ls:=by rw[len];simp only[cH];omega
  t:=by rw[List.getElem?_append_left (by exact tl)];exact ht
  nd:=by simp only[cH,List.nodup_cons,List.mem_cons,List.not_mem_nil,or_false,not_or,List.nodup_nil,and_true,not_false_eq_true];omega
  nt:=by simp only[cH,List.mem_cons,List.not_mem_nil,or_false,not_or];omega }
 refine⟨o,?_⟩
 apply List.ext_getElem?
 intro i
 rw[cy]
 by_cases hi:i < h.length
 ·cases q:(h++iE h.length t w)[i]? with
  |none=>rfl
  |some x=>
   simp only[Option.map_some]
   rw[j5]
   simp only[Pt.prts,cH,List.mem_cons,List.not_mem_nil,or_false,not_or]
   omega
 ·obtain⟨j,rfl⟩:∃ j,i=h.length+j:=⟨i - h.length,by omega⟩
  rw[BK]
  match j with
  |0=>simp[iE,cE,cH,jk]
  |1=>simp[iE,cE,cH,jk]
  |2=>simp[iE,cE,cH,jk]
  |3=>simp[iE,cE,cH,jk]
  |4=>simp[iE,cE,cH,jk,bj]
  |5=>simp[iE,cE,cH,jk,bj]
  |j+6=>simp[iE]
def OG(n t:Nat):List (Str×MV):=[("t",.ref t),("r",.ref n),("m",.ref (n+1)),("f",.ref (n+2))]
def Oh(n t:Nat):List (Str×MV):=[("t",.ref t),("r",.ref n),("m",.ref (n+1)),("f",.ref (n+2)),("read",.ref (n+4))]
def N9(n t:Nat):List (Str×MV):=[("t",.ref t),("r",.ref n),("m",.ref (n+1)),("f",.ref (n+2)),("read",.ref (n+4)),("set",.ref (n+5))]
def Ol(n t:Nat):List (Str×MV):=[("t",.ref t),("r",.ref n),("m",.ref (n+1)),("f",.ref (n+2)),("read",.ref (n+4)),("set",.ref (n+5)),("load",.bool false)]
def Pj(n t:Nat):List (Str×MV):=[("t",.ref t),("r",.ref n),("m",.ref (n+1)),("f",.ref (n+2)),("read",.ref (n+4)),("set",.ref (n+5)),("load",.bool false),("store",.bool false)]
theorem Pe(n t:Nat):put ("read":Str) (.ref (n+4)) (OG n t)=Oh n t:=by kernel_rfl
theorem Ph(n t:Nat):put ("set":Str) (.ref (n+5)) (Oh n t)=N9 n t:=by kernel_rfl
theorem Pp(n t:Nat):put ("load":Str) (.bool false) (N9 n t)=Ol n t:=by kernel_rfl
theorem Pf(n t:Nat):put ("store":Str) (.bool false) (Ol n t)=Pj n t:=by kernel_rfl
theorem ug(cl:Fn→List MV→M MV){h:Hp}{p:Pt}{w:W}(hh:dB h p w)(h1:w.r.length≤100000)(h2:w.m.length≤100000):Ef cl (.ref p.w) h=some (.ref (h.length+3),h++iE h.length p.t w):=by
 have k1:=hh.app [bj w.r]
 have k2:=hh.app [bj w.r,.dci (a9 w.m)]
 have n1:(h++[bj w.r]).length=h.length+1:=by simp
 have n2:(h++[bj w.r,.dci (a9 w.m)]).length=h.length+2:=by simp
 have n3:(h++[bj w.r,.dci (a9 w.m),.dcs w.f.toL]).length=h.length+3:=by simp
 have r1:builtin "list" [.ref p.r] h=some (.ref h.length,h++[bj w.r]):=Ha hh.aR (by simpa using h1)
 have r2:builtin "dict" [.ref p.m] (h++[bj w.r])=some (.ref (h.length+1),h++[bj w.r,.dci (a9 w.m)]):=by
  rw[wU,k1.aM]
  dsimp only
  rw[Nat.ble_eq_true_of_le (show(a9 w.m).length≤100000 by simpa [a9] using h2)]
  simp only[cond_true,n1,List.append_assoc,List.cons_append,List.nil_append]
 have r3:builtin "dict" [.ref p.f] (h++[bj w.r,.dci (a9 w.m)])=some (.ref (h.length+2),h++[bj w.r,.dci (a9 w.m),.dcs w.f.toL]):=by
  rw[wU,k2.aF]
  dsimp only
  rw[show Nat.ble w.f.toL.length 100000=true from rfl]
  simp only[cond_true,n2,List.append_assoc,List.cons_append,List.nil_append]
 have b1:∀ (X:M MV) (f:Str) (H:Hp),cU f [X] H=bnd X (fun v=>builtin f [v]) H:=fun X f H=>by
  show bnd (fu [X]) _ _=_
  rw[vV]
 have e1:qU [(ret (.str "t"),aq (ret (.ref p.w)) (ret (.str "t"))),(ret (.str "r"),cU "list" [aq (ret (.ref p.w)) (ret (.str "r"))]),(ret (.str "m"),cU "dict" [aq (ret (.ref p.w)) (ret (.str "m"))]),(ret (.str "f"),cU "dict" [aq (ret (.ref p.w)) (ret (.str "f"))])] h=some (.ref (h.length+3),h++[bj w.r,.dci (a9 w.m),.dcs w.f.toL,.dcs [("t",.ref p.t),("r",.ref h.length),("m",.ref (h.length+1)),("f",.ref (h.length+2))]]):=by
  have hn:nodup (["t","r","m","f"]:List Str)=true:=by kernel_rfl
  simp only[qU,L2,b9,aa,ad,b1,hh.gt,hh.gr,r1,k1.gm,r2,k2.gf,r3]
  show(bif nodup (["t","r","m","f"]:List Str) then oI (.dcs [("t",.ref p.t),("r",.ref h.length),("m",.ref (h.length+1)),("f",.ref (h.length+2))]) else fail) _=_
  rw[hn]
  show some (MV.ref (h++[bj w.r,.dci (a9 w.m),.dcs w.f.toL]).length,(h++[bj w.r,.dci (a9 w.m),.dcs w.f.toL])++[_])=_
  rw[n3,List.append_assoc]
  rfl
 have e2:∀ H:Hp,kZ [r9 [],r9 [],ret (.bool false),ret (.bool false)] H=some (.tup [.ref H.length,.ref (H.length+1),.bool false,.bool false],H++[.lst [],.lst []]):=fun H=>by
  show some (MV.tup [.ref H.length,.ref (H++[MO.lst []]).length,.bool false,.bool false],(H++[.lst []])++[.lst []])=_
  rw[List.append_assoc,List.length_append]
  rfl
 unfold Ef
 rw[aa,e1]
 dsimp only
 unfold KB Hb
 rw[aa,e2]
 simp only[List.length_append,List.length_cons,List.length_nil,List.append_assoc,List.cons_append,List.nil_append,jK,vt]
 rw[dE,aa,ad]
 dsimp only
 rw[aa,ad]
 dsimp only
 rw[aa,nr (es:=OG h.length p.t) (j:=3) rfl (by simp[OG]),Pe]
 dsimp only[List.set_cons_succ,List.set_cons_zero]
 rw[dE,aa,ad]
 dsimp only
 rw[aa,ad]
 dsimp only
 rw[aa,nr (es:=Oh h.length p.t) (j:=3) rfl (by simp[Oh]),Ph]
 dsimp only[List.set_cons_succ,List.set_cons_zero]
 rw[dE,aa,ad]
 dsimp only
 rw[aa,ad]
 dsimp only
 rw[aa,nr (es:=N9 h.length p.t) (j:=3) rfl (by simp[N9]),Pp]
 dsimp only[List.set_cons_succ,List.set_cons_zero]
 rw[dE,aa,ad]
 dsimp only
 rw[aa,ad]
 dsimp only
 rw[aa,nr (es:=Ol h.length p.t) (j:=3) rfl (by simp[Ol]),Pf]
 rfl
def vP(n:Nat)(d:PyData):Prop:=d.canLay0=true∧d.depth≤n
theorem eZ(n:Nat)(i:Int):vP n (.int i):=⟨by simp[PyData.canLay0],by simp[PyData.depth]⟩
theorem vT(n:Nat)(i:Bool):vP n (.bool i):=⟨by simp[PyData.canLay0],by simp[PyData.depth]⟩
theorem IC(n:Nat){s:Str}(h:(PyData.str s).canLay0=true):vP n (.str s):=⟨h,by simp[PyData.depth]⟩
theorem uu{n:Nat}:∀ {xs:List PyData},(∀ x∈xs,vP n x)→PyData.canLayAll0 xs=true∧PyData.depthAll xs≤n
 |[],_=>⟨by simp[PyData.canLayAll0],by simp[PyData.depthAll]⟩
 |x::xs,h=>by
  have h1:=h x List.mem_cons_self
  have h2:=uu fun y hy=>h y (List.mem_cons_of_mem _ hy)
  exact⟨by simp[PyData.canLayAll0,h1.1,h2.1],by simp only[PyData.depthAll];exact Nat.max_le.mpr ⟨h1.2,h2.2⟩⟩
theorem eI{n:Nat}{xs:List PyData}(h:∀ x∈xs,vP n x):vP (n+1) (.list xs):=by
 have:=uu h
 exact⟨by simp only[PyData.canLay0];exact this.1,by simp only[PyData.depth];omega⟩
theorem fh{n:Nat}{xs:List PyData}(h:∀ x∈xs,vP n x):vP (n+1) (.tuple xs):=by
 have:=uu h
 exact⟨by simp only[PyData.canLay0];exact this.1,by simp only[PyData.depth];omega⟩
theorem mU{n m:Nat}{d:PyData}(h:vP n d)(hm:n≤m):vP m d:=⟨h.1,Nat.le_trans h.2 hm⟩
theorem mB{H:Hp}{x y:MV}{d:PyData}(hx:cD H 8 x=some d)(hy:cD H 8 y=some d)(hd:vP 64 d):Ic H x y=some true:=by
 unfold Ic
 rw[hx,hy]
 have hs:SeqAt.shaped d=true:=by
  unfold SeqAt.shaped
  rw[hd.1,decide_eq_true hd.2];rfl
 dsimp only
 rw[hs,SeqAt.eqv_refl d hd.1];rfl
theorem yb{h:Hp}{n r:Nat}{vs:List MV}(e:h[r]?=some (.lst vs)):cD h (n+1) (.ref r)=(jf (cD h n) vs).map .list:=by
 show(match h[r]? with
   |some (.lst vs)=>(jf (cD h n) vs).map PyData.list
   |_=>none)=_
 rw[e]
theorem gL{h:Hp}{n:Nat}{vs:List MV}:cD h (n+1) (.lst vs)=(jf (cD h n) vs).map .list:=rfl
theorem wu{h:Hp}{n:Nat}{vs:List MV}:cD h (n+1) (.tup vs)=(jf (cD h n) vs).map .tuple:=rfl
theorem cZ{α β γ:Type}{f:β→Option γ}{g:α→β}{gd:α→γ}:∀ {l:List α},(∀ x∈l,f (g x)=some (gd x))→jf f (l.map g)=some (l.map gd)
 |[],_=>rfl
 |x::l,h=>by
  simp only[List.map_cons,jf]
  rw[h x List.mem_cons_self,cZ fun y hy=>h y (List.mem_cons_of_mem _ hy)]
theorem q9{H:Hp}{f:MV→M (Option MV)}{g:MV→MV}:∀ {vs:List MV},(∀ v∈vs,f v H=some (some (g v),H))→bQ f vs H=some (vs.map g,H)
 |[],_=>rfl
 |v::vs,h=>by
  show bnd (f v) (fun o=>bnd (bQ f vs) fun ys=>ret (o.toList++ys)) H=_
  rw[aa,h v List.mem_cons_self]
  dsimp only
  rw[aa,q9 fun k hk=>h k (List.mem_cons_of_mem _ hk)]
  rfl
theorem qC{H:Hp}{I:M (List MV)}{vs:List MV}{f:MV→M (Option MV)}{g:MV→MV}(hi:I H=some (vs,H))(h:∀ v∈vs,f v H=some (some (g v),H)):bw I f H=some (.lst (vs.map g),H):=by
 unfold bw
 rw[aa,hi]
 dsimp only
 rw[aa,q9 h]
 rfl
def bc(j:Nat):Str:=match j with
 |0=>"cf"
 |1=>"pf"
 |2=>"af"
 |3=>"zf"
 |4=>"sf"
 |5=>"of"
 |_=>"df"
def i7(m:List (Int×Int)):List Int:=((a9 m).map (·.1)).mergeSort
def FU(m:List (Int×Int))(k:Int):MV:=.tup [.int k,.int ((m.lookup k).getD 0)]
def uy(p:Pt)(w:W)(js:List Nat):MV:=.tup [.ref p.r,.lst ((i7 w.m).map (FU w.m)),.lst (js.map fun j=>.int (w.f.at j))]
theorem rS{a:Int}:∀ {m:List (Int×Int)},a∈m.map (·.1)→(m.lookup a).isSome=true
 |[],h=>by simp at h
 |(x,y)::r,h=>by
  rw[List.lookup_cons]
  cases q:a==x with
  |true=>rfl
  |false=>
   simp only[List.map_cons,List.mem_cons] at h
   rcases h with h|h
   ·rw[h,beq_self_eq_true] at q;cases q
   ·exact rS h
theorem Ed{h:Hp}{p:Pt}{w:W}(hh:dB h p w){j:Nat}(hj:j < 7):bE (.ref p.f) (.str (bc j)) h=some (.int (w.f.at j),h):=by
 have a:=hh.1
 have e:=hh.2
 rw[←e]
 match j,hj with
 |0,_=>rw[e];have:=IG (w:=w) a;rw[e] at this;exact this
 |1,_=>rw[e];have:=L1 (w:=w) a;rw[e] at this;exact this
 |2,_=>rw[e];have:=NY (w:=w) a;rw[e] at this;exact this
 |3,_=>rw[e];have:=GO (w:=w) a;rw[e] at this;exact this
 |4,_=>rw[e];have:=Jm (w:=w) a;rw[e] at this;exact this
 |5,_=>rw[e];have:=Kb (w:=w) a;rw[e] at this;exact this
 |6,_=>rw[e];have:=NN (w:=w) a;rw[e] at this;exact this
theorem It(cl:Fn→List MV→M MV){h:Hp}{p:Pt}{w:W}(hh:dB h p w)(hm:w.m.length≤60){js:List Nat}(hj:∀ j∈js,j < 7)(hl:js.length≤1000):z9 cl (.ref p.w) (.lst (js.map fun j=>.str (bc j))) h=some (uy p w js,h):=by
 have pl:(a9 w.m).length≤60:=by simpa [a9] using hm
 have kl:(i7 w.m).length≤60:=by simp only[i7,List.length_mergeSort,List.length_map];exact pl
 have b1:∀ (X:M MV) (f:Str) (H:Hp),cU f [X] H=bnd X (fun v=>builtin f [v]) H:=fun X f H=>by
  show bnd (fu [X]) _ _=_
  rw[vV]
 have e0:builtin "sorted" [.ref p.m] h=some (.lst ((i7 w.m).map .int),h):=by
  have h1:builtin "sorted" [.ref p.m] h=(match h[p.m]? with
    |some (.dci l)=>bif Nat.ble l.length 60 then some (.lst (vJ l),h) else none
    |_=>none):=by kernel_rfl
  rw[h1,hh.aM]
  dsimp only
  rw[Nat.ble_eq_true_of_le pl]
  rfl
 have e1:eP (cU "sorted" [aq (ret (.ref p.w)) (ret (.str "m"))]) h=some ((i7 w.m).map MV.int,h):=by
  unfold eP
  rw[aa,b1,aa,b9,aa,ad]
  dsimp only
  rw[aa,ad]
  dsimp only
  rw[hh.gm]
  dsimp only
  rw[e0]
  show(bif bZ ((i7 w.m).map MV.int) then ret ((i7 w.m).map MV.int) else fail) h=_
  rw[bN (by simp;omega)]
  rfl
 have t2:∀ (A B:M MV) (H:Hp),kZ [A,B] H=bnd A (fun v=>bnd B fun u=>ret (.tup [v,u])) H:=fun A B H=>by
  show bnd (fu [A,B]) _ _=_
  rw[Gj];rfl
 have t3:∀ (A B D:M MV) (H:Hp),kZ [A,B,D] H=bnd A (fun v=>bnd B fun u=>bnd D fun x=>ret (.tup [v,u,x])) H:=fun A B D H=>by
  show bnd (fu [A,B,D]) _ _=_
  simp only[aa,aJ,bC,ad]
  cases A H with
  |none=>rfl
  |some q=>
   dsimp only
   cases B q.2 with
   |none=>rfl
   |some q=>
    dsimp only
    cases D q.2<;>rfl
 have e2:bw (eP (cU "sorted" [aq (ret (.ref p.w)) (ret (.str "m"))])) (fun c2=>bn (ret true) (kZ [ret c2,aq (aq (ret (.ref p.w)) (ret (.str "m"))) (ret c2)])) h=some (.lst (((i7 w.m).map MV.int).map fun v=>match v with
   |.int k=>FU w.m k
   |_=>.none),h):=qC e1 fun v hv=>by
  obtain⟨k,hk,rfl⟩:=List.mem_map.mp hv
  have hk:k∈w.m.map (·.1):=by
   have:=List.mem_mergeSort.mp hk
   simpa [a9] using this
  have hs:=rS hk
  obtain⟨z,hz⟩:=Option.isSome_iff_exists.mp hs
  have eg:bE (.ref p.m) (.int k) h=some (.int z,h):=gM (by
   simp only[getItem,hh.aM]
   rw[il,hz];rfl)
  simp only[dR,aa,ad,cond_true,t2,b9,hh.gm,eg,FU,hz,Option.getD_some]
 have e3:bw (eP (ret (.lst (js.map fun j=>.str (bc j))))) (fun c3=>bn (ret true) (aq (aq (ret (.ref p.w)) (ret (.str "f"))) (ret c3))) h=some (.lst ((js.map fun j=>MV.str (bc j)).map fun v=>match bE (.ref p.f) v h with
   |some x=>x.1
   |none=>.none),h):=qC (vs:=js.map fun j=>MV.str (bc j)) (by
   unfold eP
   rw[aa,ad]
   show(bif bZ _ then ret _ else fail) h=_
   rw[bN (by simp;omega)];rfl) fun v hv=>by
  obtain⟨j,hj',rfl⟩:=List.mem_map.mp hv
  simp only[dR,aa,ad,cond_true,b9,hh.gf,Ed hh (hj j hj')]
 unfold z9
 rw[aa,e2]
 dsimp only
 rw[t3,aa,b9,aa,ad]
 dsimp only
 rw[aa,ad]
 dsimp only
 rw[hh.gr]
 dsimp only
 rw[aa,ad]
 dsimp only
 rw[aa,e3]
 dsimp only
 rw[ad]
 unfold uy
 rw[List.map_map,List.map_map]
 congr 7
 apply List.map_congr_left
 intro j hj'
 simp only[Function.comp,Ed hh (hj j hj')]
theorem EW{h:Hp}{p p':Pt}{w w':W}(hh:dB h p w)(hh':dB h p' w'){js:List Nat}(er:w.r=w'.r)(em:w.m=w'.m)(ef:∀ j∈js,w.f.at j=w'.f.at j):dA .NotEq (uy p w js) (uy p' w' js) h=some (false,h):=by
 have d8:∀ {q:Pt} {v:W},dB h q v→cD h 8 (uy q v js)=some (.tuple [.list (v.r.map PyData.int),.list ((i7 v.m).map fun k=>.tuple [.int k,.int ((v.m.lookup k).getD 0)]),.list (js.map fun j=>.int (v.f.at j))]):=fun {q v} hq=>by
  have m1:cD h 7 (.ref q.r)=some (.list (v.r.map PyData.int)):=by
   rw[yb hq.aR,cZ (f:=cD h 6) (g:=MV.int) (gd:=PyData.int) fun x hx=>rfl];rfl
  have m2:cD h 7 (.lst ((i7 v.m).map (FU v.m)))=some (.list ((i7 v.m).map fun k=>PyData.tuple [.int k,.int ((v.m.lookup k).getD 0)])):=by
   rw[gL,cZ (f:=cD h 6) (g:=FU v.m) (gd:=fun k=>PyData.tuple [.int k,.int ((v.m.lookup k).getD 0)]) fun x hx=>rfl];rfl
  have m3:cD h 7 (.lst (js.map fun j=>MV.int (v.f.at j)))=some (.list (js.map fun j=>PyData.int (v.f.at j))):=by
   rw[gL,cZ (f:=cD h 6) (g:=fun j=>MV.int (v.f.at j)) (gd:=fun j=>PyData.int (v.f.at j)) fun x hx=>rfl];rfl
  unfold uy
  show Option.map PyData.tuple (jf (cD h 7) _)=_
  simp only[jf,m1,m2,m3,Option.map_some]
 have e1:=d8 hh
 have e2:=d8 hh'
 rw[←er,←em,←List.map_congr_left (fun j hj=>by rw[ef j hj]:∀ j∈js,PyData.int (w.f.at j)=PyData.int (w'.f.at j))] at e2
 have hs:vP 64 (.tuple [.list (w.r.map PyData.int),.list ((i7 w.m).map fun k=>.tuple [.int k,.int ((w.m.lookup k).getD 0)]),.list (js.map fun j=>.int (w.f.at j))]):=by
  refine mU (n:=3) (fh fun x hx=>?_) (by decide)
  simp only[List.mem_cons,List.not_mem_nil,or_false] at hx
  rcases hx with rfl|rfl|rfl
  ·exact eI fun y hy=>by obtain⟨z,_,rfl⟩:=List.mem_map.mp hy;exact eZ _ _
  ·exact eI fun y hy=>by
    obtain⟨z,_,rfl⟩:=List.mem_map.mp hy
    exact fh fun y hy=>by
     simp only[List.mem_cons,List.not_mem_nil,or_false] at hy
     rcases hy with rfl|rfl<;>exact eZ _ _
  ·exact eI fun y hy=>by obtain⟨z,_,rfl⟩:=List.mem_map.mp hy;exact eZ _ _
 have:=mB e1 e2 hs
 show(match (Ic h (uy p w js) (uy p' w' js)).map (!·) with
  |none=>none
  |some x=>some (x,h))=_
 rw[this];rfl
def jg(i:Nat):Str:=match kY[i]? with
 |some n=>n.nm
 |none=>""
def He(i:Nat):Nat:=match kY[i]? with
 |some n=>n.lk
 |none=>0
def Iv(i:Nat):Nat:=match kY[i]? with
 |some n=>n.st
 |none=>0
def rZ:List Nat:=List.range 83
def tR:List Nat:=[18,19,20,21,22]
def N1:List Nat:=rZ.filter fun i=>!(cO tR i)
def fL(m:Nat):List MV:=((List.range 7).filter fun j=>m.testBit j).map fun j=>.str (bc j)
theorem IB(H:Hp):(rZ.map fun i=>ab T 5 (fnOf "reads_flags") [.str (jg i)] H)=rZ.map fun i=>some (.lst (fL (He i)),H):=by kernel_rfl
theorem HO(H:Hp):((List.range 128).map fun m=>ab T 1 (fnOf "flag_mask") [.lst (fL m)] H)=(List.range 128).map fun(m:Nat)=>some (.int (m:Int),H):=by kernel_rfl
theorem ME(os:MV)(H:Hp):(N1.map fun i=>ab T 5 (fnOf "sure_mask") [bt (.str (jg i)) os] H)=N1.map fun i=>some (.int (Iv i:Nat),H):=by kernel_rfl
theorem MJ(os p:MV)(H:Hp):(N1.map fun i=>ab T 1 (fnOf "_law_sets") [.tup [.str (jg i),.str "",os],p] H)=N1.map fun i=>some (.lst (fL (Iv i)),H):=by kernel_rfl
def pm:List Nat:=[0,1,3,7,32,64]
def FY(z v:Nat):Nat:=bif Nat.beq z 64 then v % 64 else v % 32
def Kp(i z v:Nat):Nat:=bif Nat.beq (FY z v) 0 then 0 else Iv i
theorem KK(w k x y:MV)(H:Hp):(tR.flatMap fun i=>aL.flatMap fun z=>pm.map fun v=>ab T 5 (fnOf "sure_mask") [bt (.str (jg i)) (.tup [jy (.inst "Register" [("name",w),("kind",k),("number",x),("size",.int (z:Nat))]),jT (.int (v:Nat))])] H)=tR.flatMap fun i=>aL.flatMap fun z=>pm.map fun v=>some (.int (Kp i z v:Nat),H):=by kernel_rfl
theorem Nk(b x s d:MV)(H:Hp):(tR.flatMap fun i=>aL.flatMap fun z=>pm.map fun v=>ab T 5 (fnOf "sure_mask") [bt (.str (jg i)) (.tup [nS b x s d (.int (z:Nat)),jT (.int (v:Nat))])] H)=tR.flatMap fun i=>aL.flatMap fun z=>pm.map fun v=>some (.int (Kp i z v:Nat),H):=by kernel_rfl
theorem NJ(o r:MV)(H:Hp):(tR.map fun i=>ab T 5 (fnOf "sure_mask") [bt (.str (jg i)) (.tup [o,jy r])] H)=tR.map fun i=>some (.int 0,H):=by kernel_rfl
def vy(l:List MV)(a_places o0 o1:MV):M MV:=
 bnd (ifT (aO .Eq (aq (ret o0) (ret (.int 0))) (ret (.str "mem"))) (aq (ret o0) (ret (.int 5))) (aq (aq (ret a_places) (aq (ret o0) (ret (.int 1)))) (ret (.int 1)))) fun size_1=>
 bnd (ifT (aO .Eq (aq (ret o1) (ret (.int 0))) (ret (.str "reg"))) (ret (.int 0)) (bu .Mod (aq (ret o1) (ret (.int 1))) (ifT (aO .Eq (ret size_1) (ret (.int 64))) (ret (.int 64)) (ret (.int 32))))) fun count_2=>
 ifT (aO .Eq (ret count_2) (ret (.int 0))) (bP []) (bP (l.map ret))
theorem Kj(p o0 o1:MV)(H:Hp):(tR.map fun i=>ab T 1 (fnOf "_law_sets") [.tup [.str (jg i),.str "",.tup [o0,o1]],p] H)=tR.map fun i=>vy (fL (Iv i)) p o0 o1 H:=by kernel_rfl
def uk(cl:Fn→List MV→M MV)(x:Str):M MV:=
 bnd (qU [(ret (.str "o"),ret (.str "of")),(ret (.str "b"),ret (.str "cf")),(ret (.str "ae"),ret (.str "cf")),(ret (.str "e"),ret (.str "zf")),(ret (.str "ne"),ret (.str "zf")),(ret (.str "be"),ret (.str "cf zf")),(ret (.str "a"),ret (.str "cf zf")),(ret (.str "s"),ret (.str "sf")),(ret (.str "ns"),ret (.str "sf"))]) fun r=>
 lS (ret r) (ret (.str "no")) (.str "of") (lS (ret r) (ret (.str "p")) (.str "pf") (lS (ret r) (ret (.str "np")) (.str "pf") (lS (ret r) (ret (.str "l")) (.str "sf of") (lS (ret r) (ret (.str "ge")) (.str "sf of") (
 lS (ret r) (ret (.str "le")) (.str "zf sf of") (lS (ret r) (ret (.str "g")) (.str "zf sf of") (ifT (aO .NotEq (ret (.str x)) (ret (.str ""))) (bk cl (aq (ret r) (ret (.str x))) "split" [ret (.str " ")]) (bP []))))))))
def rG:List Nat:=[0,3,57,62,71,72,73,74,75,76,77,78]
def iK:List Nat:=rZ.filter fun i=>!(cO rG i)
def Kz:List Str:=["o","no","b","ae","e","ne","be","a","s","ns","p","np","l","ge","le","g"]
def rf(i:Nat):Str:=bif Nat.ble 25 i&&Nat.ble i 40 then (match Kz[i - 25]? with|some x=>x|none=>"") else bif Nat.ble 41 i&&Nat.ble i 56 then (match Kz[i - 41]? with|some x=>x|none=>"") else ""
theorem FC(H:Hp):(rG.map fun i=>ab T 1 (fnOf "_law_looks") [.str (jg i)] H)=rG.map fun i=>some (.lst (fL (He i)),H):=by kernel_rfl
theorem F1(H:Hp):(iK.map fun i=>ab T 1 (fnOf "_law_looks") [.str (jg i)] H)=iK.map fun i=>uk (ab T 0) (rf i) H:=by kernel_rfl
def Pa:List (Str×MV):=[("o",.str "of"),("b",.str "cf"),("ae",.str "cf"),("e",.str "zf"),("ne",.str "zf"),("be",.str "cf zf"),("a",.str "cf zf"),("s",.str "sf"),("ns",.str "sf")]
def Pc:List (Str×MV):=put ("no":Str) (.str "of") Pa
def Pn:List (Str×MV):=put ("p":Str) (.str "pf") Pc
def Pm:List (Str×MV):=put ("np":Str) (.str "pf") Pn
def Pg:List (Str×MV):=put ("l":Str) (.str "sf of") Pm
def Pl:List (Str×MV):=put ("ge":Str) (.str "sf of") Pg
def Pk:List (Str×MV):=put ("le":Str) (.str "zf sf of") Pl
def KU:List (Str×MV):=put ("g":Str) (.str "zf sf of") Pk
theorem MC(H:Hp):qU [(ret (.str "o"),ret (.str "of")),(ret (.str "b"),ret (.str "cf")),(ret (.str "ae"),ret (.str "cf")),(ret (.str "e"),ret (.str "zf")),(ret (.str "ne"),ret (.str "zf")),(ret (.str "be"),ret (.str "cf zf")),(ret (.str "a"),ret (.str "cf zf")),(ret (.str "s"),ret (.str "sf")),(ret (.str "ns"),ret (.str "sf"))] H=some (.ref H.length,H++[.dcs Pa]):=by kernel_rfl
theorem qP{H:Hp}{es:List (Str×MV)}(hl:Nat.ble es.length 100000=true)(k:Str)(v:MV)(K:M MV):lS (ret (.ref H.length)) (ret (.str k)) v K (H++[.dcs es])=K (H++[.dcs (put k v es)]):=by
 rw[dE,aa,ad]
 dsimp only
 rw[aa,ad]
 dsimp only
 have:=nr (h:=H) (l:=[.dcs es]) (j:=0) rfl (Nat.le_of_ble_eq_true hl) k v
 rw[Nat.add_zero] at this
 rw[aa,this]
 rfl
theorem CT(cl:Fn→List MV→M MV)(x:Str)(H:Hp):uk cl x H=ifT (aO .NotEq (ret (.str x)) (ret (.str ""))) (bk cl (aq (ret (.ref H.length)) (ret (.str x))) "split" [ret (.str " ")]) (bP []) (H++[.dcs KU]):=by
 unfold uk
 rw[aa,MC]
 dsimp only
 rw[qP (by kernel_rfl),qP (by kernel_rfl),qP (by kernel_rfl),qP (by kernel_rfl),qP (by kernel_rfl),qP (by kernel_rfl),qP (by kernel_rfl)]
 rfl
theorem Jv(H:Hp):((iK.filter fun i=>Nat.ble 25 i&&Nat.ble i 56).map fun i=>(KU.lookup (rf i)).map fun v=>bk (ab T 0) (ret v) "split" [ret (.str " ")] H)=(iK.filter fun i=>Nat.ble 25 i&&Nat.ble i 56).map fun i=>some (some (.lst (fL (He i)),H)):=by kernel_rfl
theorem Ke:((iK.filter fun i=>Nat.ble 25 i&&Nat.ble i 56).all fun i=>!(seq (rf i) ""))=true:=by decide+kernel
theorem JT:((iK.filter fun i=>!(Nat.ble 25 i&&Nat.ble i 56)).all fun i=>seq (rf i) ""&&Nat.beq (He i) 0)=true:=by decide+kernel
theorem FD{i:Nat}(hi:i∈rZ)(H:Hp):∃ G,ab T 1 (fnOf "_law_looks") [.str (jg i)] H=some (.lst (fL (He i)),H++G):=by
 by_cases h1:cO rG i=true
 ·have:i∈rG:=by
   unfold cO at h1
   obtain⟨j,hj,e⟩:=List.any_eq_true.mp h1
   rw[Nat.eq_of_beq_eq_true e];exact hj
  exact⟨[],by rw[List.append_nil];exact bg (FC H) i this⟩
 ·have hi2:i∈iK:=List.mem_filter.mpr ⟨hi,by simpa using h1⟩
  have e:=bg (F1 H) i hi2
  rw[e,CT]
  refine⟨[.dcs KU],?_⟩
  rw[cF,aa,bS,aa,ad]
  dsimp only
  rw[aa,ad]
  dsimp only
  show(match some (!(rf i==""),H++[.dcs KU]) with
   |none=>none
   |some (a,h')=>(bif a then _ else _:M MV) h')=_
  dsimp only
  rw[pJ]
  cases q:Nat.ble 25 i&&Nat.ble i 56 with
  |true=>
   have hf:i∈iK.filter fun i=>Nat.ble 25 i&&Nat.ble i 56:=List.mem_filter.mpr ⟨hi2,q⟩
   have h2:=List.all_eq_true.mp Ke i hf
   rw[h2]
   have h3:=bg (Jv (H++[.dcs KU])) i hf
   cases q2:KU.lookup (rf i) with
   |none=>rw[q2] at h3;cases h3
   |some v=>
    rw[q2] at h3
    simp only[Option.map_some,Option.some.injEq] at h3
    have hg:bE (.ref H.length) (.str (rf i)) (H++[.dcs KU])=some (v,H++[.dcs KU]):=gP (by simp) q2
    rw[cond_true]
    refine Eq.trans ?_ h3
    unfold bk
    rw[aa,b9,aa,ad]
    dsimp only
    rw[aa,ad]
    dsimp only
    rw[hg]
    rfl
  |false=>
   have hf:i∈iK.filter fun i=>!(Nat.ble 25 i&&Nat.ble i 56):=List.mem_filter.mpr ⟨hi2,by rw[q];rfl⟩
   have h2:=List.all_eq_true.mp JT i hf
   rw[Bool.and_eq_true] at h2
   rw[h2.1,Nat.eq_of_beq_eq_true h2.2]
   rfl
end
section
open PySem
set_option profiler true
set_option Elab.async false
theorem NM:(fO[0]?.all dz)=true:=by decide+kernel
theorem M9:(fO[1]?.all dz)=true:=by decide+kernel
theorem MU:(fO[2]?.all dz)=true:=by decide+kernel
theorem NH:(fO[3]?.all dz)=true:=by decide+kernel
theorem NU:(fO[4]?.all dz)=true:=by decide+kernel
theorem MY:(fO[5]?.all dz)=true:=by decide+kernel
theorem Nj:(fO[6]?.all dz)=true:=by decide+kernel
theorem NZ:(fO[7]?.all dz)=true:=by decide+kernel
theorem Nv:(fO[8]?.all dz)=true:=by decide+kernel
theorem M5:(fO[9]?.all dz)=true:=by decide+kernel
theorem LY:(fO[10]?.all dz)=true:=by decide+kernel
theorem Me:(fO[11]?.all dz)=true:=by decide+kernel
theorem MA:(fO[12]?.all dz)=true:=by decide+kernel
theorem K1:(fO[13]?.all dz)=true:=by decide+kernel
theorem Lp:(fO[14]?.all dz)=true:=by decide+kernel
theorem LL:(fO[15]?.all dz)=true:=by decide+kernel
theorem Lo:(fO[16]?.all dz)=true:=by decide+kernel
end
section
open PySem
section
variable{α β:Type}
def aE(m:M α)(P:α→Prop):Prop:=∀ (n:Int) (R:Hp),∃ v n',m (.lst [.int n]::R)=some (v,.lst [.int n']::R)∧P v
theorem aE.ret{a:α}{P:α→Prop}(h:P a):aE (ret a) P:=fun n R=>⟨a,n,rfl,h⟩
theorem aE.pure{m:M α}{a:α}{P:α→Prop}(e:∀ H,m H=some (a,H))(h:P a):aE m P:=fun n R=>⟨a,n,e _,h⟩
theorem aE.bnd{m:M α}{f:α→M β}{P:α→Prop}{Q:β→Prop}(h:aE m P)(k:∀ a,P a→aE (f a) Q):aE (bnd m f) Q:=fun n R=>by
 obtain⟨v,n1,e1,p⟩:=h n R
 obtain⟨w,n2,e2,q⟩:=k v p n1 R
 exact⟨w,n2,by rw[aa,e1];exact e2,q⟩
theorem aE.mono{m:M α}{P Q:α→Prop}(h:aE m P)(k:∀ a,P a→Q a):aE m Q:=fun n R=>by
 obtain⟨v,n1,e1,p⟩:=h n R
 exact⟨v,n1,e1,k v p⟩
theorem aE.ifT{t:M Bool}{A B:M α}{P:Bool→Prop}{Q:α→Prop}(h:aE t P)(a:P true→aE A Q)(b:P false→aE B Q):aE (ifT t A B) Q:=aE.bnd h fun x hx=>by
 cases x
 ·exact b hx
 ·exact a hx
theorem aE.nil{P:List MV→Prop}(h:P []):aE (fu []) P:=aE.ret h
theorem aE.cons{m:M MV}{ms:List (M MV)}{P:MV→Prop}{Q:List MV→Prop}(h:aE m P)(k:∀ v,P v→aE (fu ms) fun vs=>Q (v::vs)):aE (fu (m::ms)) Q:=aE.bnd h fun v hv=>aE.bnd (k v hv) fun vs hvs=>aE.ret hvs
theorem aE.call{c:Nat}{f:Str}{ms:List (M MV)}{P:List MV→Prop}{Q:MV→Prop}(h:aE (fu ms) P)(k:∀ vs,P vs→aE (ab T c (fnOf f) vs) Q):aE (ai (ab T c) f ms) Q:=aE.bnd h k
theorem nJ{a b:MV}{x y:Int}(ha:a=.int x)(hb:b=.int y):aE (aO .Eq (ret a) (ret b)) (fun t=>t=(x==y)):=by
 subst ha hb
 exact aE.pure (fun H=>rfl) rfl
def GT(k:Nat)(v:MV):Prop:=∃ i:Nat,v=.int (i:Int)∧i < k
theorem EV{c:Nat}{k:Int}(hs:sm k=true)(h0:k≠0)(n:Int)(R:Hp):ab T (c+1) (fnOf "_law_take") [.ref 0,.int k] (.lst [.int n]::R)=some (.int (n.fmod k),.lst [.int (n.fdiv k)]::R):=by
 show an T (ab T c) _ _ _=_
 rw[JP]
 have g:∀ m:Int,bE (.ref 0) (.int 0) (.lst [.int m]::R)=some (.int m,.lst [.int m]::R):=fun m=>rfl
 have st:∀ m m':Int,setItem (.ref 0) (.int 0) (.int m') (.lst [.int m]::R)=some ((),.lst [.int m']::R):=fun m m'=>rfl
 simp only[Bu,bI,b9,kI,dE,aa,ad,kT,g,tE hs h0,BO hs h0,st]
theorem vQ{c:Nat}(hc:1≤c)(k:Nat)(hk:0 < k)(hs:sm (k:Int)=true):aE (ai (ab T c) "_law_take" [ret (.ref 0),ret (.int (k:Int))]) (GT k):=fun n R=>by
 obtain⟨c,rfl⟩:∃ d,c=d+1:=⟨c - 1,by omega⟩
 refine⟨_,_,EV (c:=c) hs (by omega) n R,(n.fmod k).toNat,?_,?_⟩
 ·have:=Int.fmod_nonneg_of_pos n (b:=(k:Int)) (by omega)
  rw[Int.toNat_of_nonneg this]
 ·have:=Int.fmod_nonneg_of_pos n (b:=(k:Int)) (by omega)
  have:=Int.fmod_lt_of_pos n (b:=(k:Int)) (by omega)
  omega
theorem lv{k:Nat}(h:k≤2 ^ 64):sm (k:Int)=true:=rI ⟨by have:(0:Int) < 2 ^ 2000:=Int.pow_pos (by decide);omega,Int.le_trans (Int.ofNat_le.mpr h) (by rw[Int.natCast_pow];exact iL (by decide))⟩
theorem bM{c:Nat}(hc:1≤c)(k:Nat)(h:0 < k∧k≤1000):aE (ai (ab T c) "_law_take" [ret (.ref 0),ret (.int (k:Int))]) (GT k):=vQ hc k h.1 (lv (Nat.le_trans h.2 (by decide)))
theorem cz{c:Nat}{A:M MV}{k:M MV}{vs:List MV}{n:Nat}(hl:∀ H,A H=some (.lst vs,H))(hk:aE k (GT n))(hn:vs.length=n)(hz:n≤1000):aE (aq A k) (fun v=>v∈vs):=aE.bnd (aE.pure hl rfl) fun a ha=>aE.bnd hk fun i hi n' R=>by
 subst ha
 obtain⟨i,rfl,hi⟩:=hi
 have h1:bZ vs=true:=Nat.ble_eq_true_of_le (by omega)
 have h2:i < vs.length:=by omega
 refine⟨vs[i],n',?_,List.getElem_mem h2⟩
 show(match getItem _ (.lst vs) (.int i) with
  |none=>none
  |some v=>some (v,_))=_
 simp only[getItem,D6,h1,decide_eq_true (show(0:Int)≤i by omega),Int.toNat_natCast,Bool.and_self,cond_true,List.getElem?_eq_getElem h2]
end
theorem vM{c:Nat}(hc:1≤c){A:M MV}(hA:∀ H,A H=some (.lst (eN.map fun(n:Nat)=>.int (n:Int)),H)):aE (aq A (ai (ab T c) "_law_take" [ret (.ref 0),ret (.int 8)])) (fun v=>∃ n:Nat,v=.int (n:Int)∧n∈eN):=(cz (c:=c) hA (bM hc 8 (by decide)) rfl (by decide)).mono fun v hv=>by
 obtain⟨n,hn,rfl⟩:=List.mem_map.mp hv
 exact⟨n,rfl,hn⟩
theorem rK{c:Nat}(hc:1≤c)(H:Hp):ai (ab T c) "_law_numbers" [] H=some (.lst (eN.map fun(n:Nat)=>.int (n:Int)),H):=y0 hc H
theorem pO{cl:Fn→List MV→M MV}{g:Nat}{C:Str}{ms:List (M MV)}{P:List MV→Prop}{Q:MV→Prop}(h:aE (fu ms) P)(k:∀ vs,P vs→aE (dY T (eU T cl g) C (dM C) vs) Q):aE (bL cl g C ms) Q:=aE.bnd h k
theorem vn{cl:Fn→List MV→M MV}{g:Nat}(hg:10≤g){m:M MV}{P Q:MV→Prop}(h:aE m P)(k:∀ v,P v→Q (jy v)):aE (bL cl g "Reg" [m]) Q:=by
 obtain⟨g,rfl⟩:∃ d,g=d+10:=⟨g - 10,by omega⟩
 exact pO (P:=fun vs=>∃ v,vs=[v]∧P v) (h.cons fun v hv=>aE.nil ⟨v,rfl,hv⟩) fun vs hvs=>by
  obtain⟨v,rfl,hv⟩:=hvs
  exact aE.pure (fun H=>L0 cl g H v) (k v hv)
theorem Bp{cl:Fn→List MV→M MV}{g:Nat}(hg:10≤g){m:M MV}{P Q:MV→Prop}(h:aE m P)(k:∀ v,P v→Q (jT v)):aE (bL cl g "Imm" [m]) Q:=by
 obtain⟨g,rfl⟩:∃ d,g=d+10:=⟨g - 10,by omega⟩
 exact pO (P:=fun vs=>∃ v,vs=[v]∧P v) (h.cons fun v hv=>aE.nil ⟨v,rfl,hv⟩) fun vs hvs=>by
  obtain⟨v,rfl,hv⟩:=hvs
  exact aE.pure (fun H=>Lm cl g H v) (k v hv)
def eO(l:List SO)(v:MV):Prop:=∃ so co,so∈l∧pW so co∧v=co.val
theorem eO.mono{l l':List SO}{v:MV}(h:eO l v)(hs:∀ x∈l,x∈l'):eO l' v:=by
 obtain⟨a,b,c,d⟩:=h
 exact⟨a,b,hs a c,d⟩
theorem Hl{n z:Nat}(hn:n∈eN)(hz:z∈aL):eO [.reg z] (jy (fM n z)):=⟨.reg z,.reg n z,by simp,⟨rfl,hn,hz⟩,rfl⟩
theorem uj{c n z:Nat}(hc:3≤c)(hn:n∈eN)(hz:z∈aL):aE (ab T c (fnOf "gpr") [.int (n:Int),.int (z:Int)]) (fun v=>v=fM n z):=aE.pure (yw hc hn hz) rfl
theorem EZ{c n z:Nat}(hc:3≤c)(hn:n∈eN)(hz:z∈aL):aE (ai (ab T c) "gpr" [ret (.int (n:Int)),ret (.int (z:Int))]) (fun v=>v=fM n z):=aE.call (P:=fun vs=>vs=[.int (n:Int),.int (z:Int)]) ((aE.ret (P:=fun v=>v=.int (n:Int)) rfl).cons fun v hv=>(aE.ret (P:=fun v=>v=.int (z:Int)) rfl).cons fun w hw=>aE.nil (by rw[hv,hw])) fun vs hvs=>by
 subst hvs
 exact uj hc hn hz
theorem uF{c z:Nat}(hc:4≤c)(hz:z∈aL):aE (ab T c (fnOf "_law_register") [.ref 0,.int (z:Int)]) (eO (nO z)):=by
 obtain⟨c,rfl⟩:∃ d,c=d+1:=⟨c - 1,by omega⟩
 have e:ab T (c+1) (fnOf "_law_register") [.ref 0,.int (z:Int)]=lN (ab T c) (.ref 0) (.int (z:Int)):=funext fun H=>zG _ _ _ H
 rw[e]
 unfold lN
 refine aE.bnd (vM (by omega) (rK (by omega))) fun v hv=>?_
 obtain⟨n,rfl,hn⟩:=hv
 refine aE.ifT (P:=fun b=>b=true→z=8) ?_ (fun h=>?_) (fun _=>?_)
 ·show aE (bnd _ _) _
  refine aE.bnd (nJ rfl rfl) fun b hb=>?_
  subst hb
  cases q:(z:Int)==8 with
  |false=>exact aE.ret (fun h=>by cases h)
  |true=>
   have:z=8:=by simp at q;omega
   refine aE.mono (P:=fun _=>True) ?_ fun _ _ _=>this
   simp only[cond_true]
   show aE (bnd _ _) _
   refine aE.bnd (nJ rfl rfl) fun b hb=>?_
   cases b with
   |false=>exact aE.ret trivial
   |true=>
    refine aE.bnd (P:=fun _=>True) (aE.bnd (bM (by omega) 2 (by decide)) fun i hi=>?_) fun b _=>?_
    ·obtain⟨i,rfl,_⟩:=hi
     exact(nJ rfl rfl).mono fun _ _=>trivial
    ·cases b<;>exact aE.ret trivial
 ·have:=h rfl
  subst this
  refine vn (by omega) (P:=fun v=>v=NI) (aE.call (P:=fun vs=>vs=[.int 4]) ((aE.ret (P:=fun v=>v=.int 4) rfl).cons fun v hv=>aE.nil (by rw[hv])) fun vs hvs=>by subst hvs;exact aE.pure (JB (by omega)) rfl) fun v hv=>?_
  subst hv
  exact⟨.ah,.ah,.tail _ (.head _),trivial,rfl⟩
 ·refine vn (by omega) (EZ (by omega) hn hz) fun v hv=>?_
  subst hv
  refine(Hl hn hz).mono fun x hx=>?_
  simp only[List.mem_cons,List.not_mem_nil,or_false] at hx
  subst hx
  unfold nO
  cases q:z==8 with
  |true=>
   have:z=8:=by simpa using q
   subst this
   simp
  |false=>simp
structure Rw.Good(r:Rw):Prop where
 ok:r.Ok
 ux:Ip r.i r.os (uK r.n r.os)=true
 fam:∃ f∈fO,∃ j,j < f.2.1∧r.i=f.1+j∧r.os∈f.2.2
def qZ(f:Nat×Nat×List (List SO)):Prop:=dz f=true∧f∈fO
def oM(v:MV):Prop:=∃ r:Rw,r.Good∧v=r.val
theorem AY{i:Nat}{os:List SO}{n:NE}(h:Hd i os=true)(hn:kY[i]?=some n):GU n.lk (oT i n os) (uK n os)=true∧Ip i os (uK n os)=true:=by
 unfold Hd at h
 rw[hn] at h
 simpa using h
theorem Lv{f:Nat×Nat×List (List SO)}(ok:qZ f){j:Nat}(hj:j < f.2.1){os:List SO}(ho:os∈f.2.2){n:NE}(hn:kY[f.1+j]?=some n){cos:List CO}(hf:k0 os cos)(har:cos.length=n.ar):oM (bt (.str n.nm) (.tup (cos.map CO.val))):=by
 obtain⟨ok,of⟩:=ok
 unfold dz at ok
 rw[List.all_eq_true] at ok
 have h1:=ok j (List.mem_range.mpr hj)
 rw[List.all_eq_true] at h1
 obtain⟨a,b⟩:=AY (h1 os ho) hn
 exact⟨⟨f.1+j,n,os,cos⟩,⟨⟨hn,hf,har,a⟩,b,f,of,j,hj,rfl,ho⟩,rfl⟩
def sO(i k:Nat):List MV:=(List.range k).map fun j=>match kY[i+j]? with
 |some n=>.str n.nm
 |none=>.none
def Mf(i k a:Nat):Bool:=(List.range k).all fun j=>match kY[i+j]? with
 |some n=>Nat.beq n.ar a
 |none=>false
theorem Ng{i k a:Nat}(h:Mf i k a=true){v:MV}(hv:v∈sO i k):∃ j n,j < k∧kY[i+j]?=some n∧v=.str n.nm∧n.ar=a:=by
 unfold sO at hv
 obtain⟨j,hj,rfl⟩:=List.mem_map.mp hv
 unfold Mf at h
 rw[List.all_eq_true] at h
 have h:=h j hj
 cases q:kY[i+j]? with
 |none=>rw[q] at h;cases h
 |some n=>
  rw[q] at h
  exact⟨j,n,List.mem_range.mp hj,q,rfl,Nat.eq_of_beq_eq_true h⟩
section
variable{cl:Fn→List MV→M MV}{g:Nat}{N A B D:M MV}{i k:Nat}{ss:List (List SO)}
theorem JL{ms:List (M MV)}{P:List MV→Prop}(h:aE (fu ms) P)(hl:∀ vs,P vs→vs.length≤100):aE (bP ms) (fun v=>∃ vs,v=.lst vs∧P vs):=aE.bnd h fun vs hvs n R=>by
 have:=bN (l:=vs) (by have:=hl vs hvs;omega)
 exact⟨.lst vs,n,by rw[this];rfl,vs,rfl,hvs⟩
theorem pB{ms:List (M MV)}{P:List MV→Prop}{a:Nat}(hg:10≤g)(hN:aE N (fun v=>v∈sO i k))(har:Mf i k a=true)(ok:qZ (i,k,ss))(hm:aE (fu ms) P)
  (h:∀ vs,P vs→∃ os cos,os∈ss∧k0 os cos∧vs=cos.map CO.val∧cos.length=a) (ha:a≤3):aE (bL cl g "Instruction" [N,bP ms]) oM:=by
 obtain⟨g,rfl⟩:∃ d,g=d+10:=⟨g - 10,by omega⟩
 refine pO (P:=fun vs=>∃ x ws,vs=[x,.lst ws]∧x∈sO i k∧P ws) (hN.cons fun x hx=>(JL hm fun vs hvs=>?_).cons fun v hv=>aE.nil ?_) fun vs hvs=>?_
 ·obtain⟨os,cos,_,_,rfl,hl⟩:=h vs hvs
  simp;omega
 ·obtain⟨ws,rfl,hw⟩:=hv
  exact⟨x,ws,rfl,hx,hw⟩
 ·obtain⟨x,ws,rfl,hx,hw⟩:=hvs
  obtain⟨j,n,hj,hn,rfl,ha'⟩:=Ng har hx
  obtain⟨os,cos,ho,hf,rfl,hl⟩:=h ws hw
  refine aE.pure (a:=bt (.str n.nm) (.tup (cos.map CO.val))) (fun H=>?_) (Lv (f:=(i,k,ss)) ok hj ho hn hf (by omega))
  match cos,hl with
  |[],_=>exact Jh _ _ _ _
  |[a],_=>exact IP _ _ _ _ _
  |[a,b],_=>exact IL _ _ _ _ _ _
  |[a,b,c],_=>exact Jb _ _ _ _ _ _ _
  |_::_::_::_::_,hl=>simp at hl;omega
theorem Ey(hg:10≤g)(hN:aE N (fun v=>v∈sO i k))(har:Mf i k 0=true)(ok:qZ (i,k,ss))(h:[]∈ss):aE (bL cl g "Instruction" [N,bP []]) oM:=
 pB hg hN har ok (P:=fun vs=>vs=[]) (aE.nil rfl) (fun vs e=>⟨[],[],h,trivial,e,rfl⟩) (by decide)
theorem jB{la:List SO}(hg:10≤g)(hN:aE N (fun v=>v∈sO i k))(har:Mf i k 1=true)(ok:qZ (i,k,ss))(hA:aE A (eO la))(h:∀ a∈la,[a]∈ss):aE (bL cl g "Instruction" [N,bP [A]]) oM:=
 pB hg hN har ok (P:=fun vs=>∃ v,vs=[v]∧eO la v) (hA.cons fun v hv=>aE.nil ⟨v,rfl,hv⟩) (fun vs e=>by
  obtain⟨v,rfl,so,co,h1,h2,rfl⟩:=e
  exact⟨[so],[co],h so h1,⟨h2,trivial⟩,rfl,rfl⟩) (by decide)
theorem cY{la lb:List SO}(hg:10≤g)(hN:aE N (fun v=>v∈sO i k))(har:Mf i k 2=true)(ok:qZ (i,k,ss))(hA:aE A (eO la))(hB:aE B (eO lb))(h:∀ a∈la,∀ b∈lb,[a,b]∈ss):aE (bL cl g "Instruction" [N,bP [A,B]]) oM:=
 pB hg hN har ok (P:=fun vs=>∃ v w,vs=[v,w]∧eO la v∧eO lb w) (hA.cons fun v hv=>hB.cons fun w hw=>aE.nil ⟨v,w,rfl,hv,hw⟩) (fun vs e=>by
  obtain⟨v,w,rfl,⟨so,co,h1,h2,rfl⟩,⟨so',co',h1',h2',rfl⟩⟩:=e
  exact⟨[so,so'],[co,co'],h so h1 so' h1',⟨h2,h2',trivial⟩,rfl,rfl⟩) (by decide)
theorem EL{la lb ld:List SO}(hg:10≤g)(hN:aE N (fun v=>v∈sO i k))(har:Mf i k 3=true)(ok:qZ (i,k,ss))(hA:aE A (eO la))(hB:aE B (eO lb))(hD:aE D (eO ld))(h:∀ a∈la,∀ b∈lb,∀ d∈ld,[a,b,d]∈ss):aE (bL cl g "Instruction" [N,bP [A,B,D]]) oM:=
 pB hg hN har ok (P:=fun vs=>∃ v w x,vs=[v,w,x]∧eO la v∧eO lb w∧eO ld x) (hA.cons fun v hv=>hB.cons fun w hw=>hD.cons fun x hx=>aE.nil ⟨v,w,x,rfl,hv,hw,hx⟩) (fun vs e=>by
  obtain⟨v,w,x,rfl,⟨so,co,h1,h2,rfl⟩,⟨so',co',h1',h2',rfl⟩,⟨so'',co'',h1'',h2'',rfl⟩⟩:=e
  exact⟨[so,so',so''],[co,co',co''],h so h1 so' h1' so'' h1'',⟨h2,h2',h2'',trivial⟩,rfl,rfl⟩) (by decide)
end
theorem pR{cl:Fn→List MV→M MV}{c g:Nat}(hg:10≤g)(hc:1≤c){k:Nat}(h:0 < k∧k≤1000):aE (bL cl g "Imm" [ai (ab T c) "_law_take" [ret (.ref 0),ret (.int (k:Int))]]) (eO [.imm 0 ((k:Int) - 1)]):=Bp hg (bM hc k h) fun v hv=>by
 obtain⟨i,rfl,hi⟩:=hv
 exact⟨.imm 0 ((k:Int) - 1),.imm (i:Int),by simp,⟨by omega,by omega⟩,rfl⟩
theorem B4{c:Nat}(hc:1≤c){k:Nat}(h:0 < k∧k≤1000)(d:Int):aE (bu .Sub (ai (ab T c) "_law_take" [ret (.ref 0),ret (.int (k:Int))]) (ret (.int d))) (fun v=>∃ i:Int,v=.int i∧-d≤i∧i≤(k:Int) - 1 - d):=aE.bnd (bM hc k h) fun v hv=>by
 obtain⟨i,rfl,hi⟩:=hv
 exact aE.pure (a:=.int ((i:Int) - d)) (fun H=>rfl) ⟨_,rfl,by omega,by omega⟩
theorem IK{c z:Nat}(hc:4≤c):aE (ab T c (fnOf "_law_mem") [.ref 0,.int (z:Int)]) (eO (yJ z)):=by
 obtain⟨c,rfl⟩:∃ d,c=d+1:=⟨c - 1,by omega⟩
 have e:ab T (c+1) (fnOf "_law_mem") [.ref 0,.int (z:Int)]=HN (ab T c) (.ref 0) (.int (z:Int)):=funext fun H=>NQ _ _ _ H
 rw[e]
 unfold HN
 refine aE.bnd (P:=fun v=>∃ n∈eN,v=fM n 64) (aE.call (P:=fun vs=>∃ n∈eN,vs=[.int ((n:Nat):Int),.int ((64:Nat):Int)]) ((vM (by omega) (rK (by omega))).cons fun v hv=>(aE.ret (P:=fun v=>v=.int 64) rfl).cons fun w hw=>aE.nil ?_) fun vs hvs=>?_) fun v hv=>?_
 ·obtain⟨n,rfl,hn⟩:=hv
  subst hw
  exact⟨n,hn,rfl⟩
 ·obtain⟨n,hn,rfl⟩:=hvs
  exact(uj (by omega) hn (by decide)).mono fun v hv=>⟨n,hn,hv⟩
 ·obtain⟨b,hb,rfl⟩:=hv
  refine aE.bnd (P:=fun v=>∃ ix:Option Nat,v=Nb ix∧∀ y,ix=some y→y=1∨y=9) ((cz (c:=c) (vs:=[.none,fM 1 64,fM 9 64]) (fun H=>?_) (bM (by omega) 3 (by decide)) rfl (by decide)).mono fun v hv=>?_) fun v hv=>?_
  ·have e1:=yw (c:=c) (n:=1) (z:=64) (by omega) (by decide) (by decide) H
   have e9:=yw (c:=c) (n:=9) (z:=64) (by omega) (by decide) (by decide) H
   have f1:ai (ab T c) "gpr" [ret (.int 1),ret (.int 64)] H=some (fM 1 64,H):=e1
   have f9:ai (ab T c) "gpr" [ret (.int 9),ret (.int 64)] H=some (fM 9 64,H):=e9
   simp only[IJ,aJ,bC,aa,ad,f1,f9]
   rfl
  ·simp only[List.mem_cons,List.not_mem_nil,or_false] at hv
   rcases hv with rfl|rfl|rfl
   ·exact⟨none,rfl,fun y h=>by cases h⟩
   ·exact⟨some 1,rfl,fun y h=>by cases h;exact .inl rfl⟩
   ·exact⟨some 9,rfl,fun y h=>by cases h;exact .inr rfl⟩
  ·obtain⟨ix,rfl,hix⟩:=hv
   refine pO (P:=fun vs=>∃ d:Int,vs=[fM b 64,Nb ix,.int (L5 ix),.int d,.int (z:Int)]∧-16≤d∧d≤16) ((aE.ret (P:=fun v=>v=fM b 64) rfl).cons fun v1 h1=>(aE.ret (P:=fun v=>v=Nb ix) rfl).cons fun v2 h2=>(aE.pure (P:=fun v=>v=.int (L5 ix)) (a:=.int (L5 ix)) (fun H=>?_) rfl).cons fun v3 h3=>(B4 (by omega) (k:=33) (by decide) 16).cons fun v4 h4=>(aE.ret (P:=fun v=>v=.int (z:Int)) rfl).cons fun v5 h5=>aE.nil ?_) fun vs hvs=>?_
   ·cases ix<;>rfl
   ·obtain⟨d,rfl,h6,h7⟩:=h4
    subst h1 h2 h3 h5
    exact⟨d,rfl,h6,by omega⟩
   ·obtain⟨d,rfl,h6,h7⟩:=hvs
    refine aE.pure (fun H=>Ma _ 8 H _ _ _ _ _) ⟨.mem ix.isSome z,.mem b ix d z,?_,⟨rfl,rfl,hb,hix,h6,h7⟩,rfl⟩
    unfold yJ
    cases ix<;>simp
def uM(l:List Nat)(v:MV):Prop:=∃ z∈l,v=.int ((z:Nat):Int)
theorem qk{c:Nat}(hc:4≤c){l:List Nat}{S:M MV}(hS:aE S (uM l)):aE (ai (ab T c) "_law_mem" [ret (.ref 0),S]) (eO (l.flatMap yJ)):=aE.call (P:=fun vs=>∃ z∈l,vs=[.ref 0,.int ((z:Nat):Int)]) ((aE.ret (P:=fun v=>v=.ref 0) rfl).cons fun v hv=>hS.cons fun w hw=>aE.nil (by obtain⟨z,hz,rfl⟩:=hw;subst hv;exact⟨z,hz,rfl⟩)) fun vs hvs=>by
 obtain⟨z,hz,rfl⟩:=hvs
 exact(IK hc).mono fun v hv=>hv.mono fun x hx=>List.mem_flatMap.mpr ⟨z,hz,hx⟩
theorem cC{c:Nat}(hc:4≤c){l:List Nat}(hl:∀ z∈l,z∈aL){S:M MV}(hS:aE S (uM l)):aE (ai (ab T c) "_law_register" [ret (.ref 0),S]) (eO (l.flatMap nO)):=aE.call (P:=fun vs=>∃ z∈l,vs=[.ref 0,.int ((z:Nat):Int)]) ((aE.ret (P:=fun v=>v=.ref 0) rfl).cons fun v hv=>hS.cons fun w hw=>aE.nil (by obtain⟨z,hz,rfl⟩:=hw;subst hv;exact⟨z,hz,rfl⟩)) fun vs hvs=>by
 obtain⟨z,hz,rfl⟩:=hvs
 exact(uF hc (hl z hz)).mono fun v hv=>hv.mono fun x hx=>List.mem_flatMap.mpr ⟨z,hz,hx⟩
theorem xy{z:Nat}{x:SO}(h:x∈yJ z∨x∈nO z):x∈eM z:=by
 unfold yJ nO at h
 unfold eM
 cases q:z==8 with
 |true=>
  have:z=8:=by simpa using q
  subst this
  simp at h ⊢
  rcases h with(rfl|rfl)|rfl|rfl<;>simp
 |false=>
  rw[q] at h
  simp at h ⊢
  rcases h with(rfl|rfl)|rfl<;>simp
theorem Fz{c z:Nat}(hc:5≤c)(hz:z∈aL):aE (ab T c (fnOf "_law_goal") [.ref 0,.int (z:Int)]) (eO (eM z)):=by
 obtain⟨c,rfl⟩:∃ d,c=d+1:=⟨c - 1,by omega⟩
 have e:ab T (c+1) (fnOf "_law_goal") [.ref 0,.int (z:Int)]=yj (ab T c) (.ref 0) (.int (z:Int)):=funext fun H=>LF _ _ _ H
 rw[e]
 unfold yj
 have hs:aE (ret (MV.int (z:Int))) (uM [z]):=aE.ret ⟨z,by simp,rfl⟩
 refine aE.ifT (P:=fun _=>True) (aE.bnd (bM (by omega) 3 (by decide)) fun v hv=>?_) (fun _=>?_) (fun _=>?_)
 ·obtain⟨i,rfl,_⟩:=hv
  exact(nJ rfl rfl).mono fun _ _=>trivial
 ·exact(qk (by omega) hs).mono fun v hv=>hv.mono fun x hx=>by simp at hx;exact xy (.inl hx)
 ·exact(cC (by omega) (by simpa using hz) hs).mono fun v hv=>hv.mono fun x hx=>by simp at hx;exact xy (.inr hx)
theorem fv{c:Nat}(hc:5≤c){l:List Nat}(hl:∀ z∈l,z∈aL){S:M MV}(hS:aE S (uM l)):aE (ai (ab T c) "_law_goal" [ret (.ref 0),S]) (eO (l.flatMap eM)):=aE.call (P:=fun vs=>∃ z∈l,vs=[.ref 0,.int ((z:Nat):Int)]) ((aE.ret (P:=fun v=>v=.ref 0) rfl).cons fun v hv=>hS.cons fun w hw=>aE.nil (by obtain⟨z,hz,rfl⟩:=hw;subst hv;exact⟨z,hz,rfl⟩)) fun vs hvs=>by
 obtain⟨z,hz,rfl⟩:=hvs
 exact(Fz hc (hl z hz)).mono fun v hv=>hv.mono fun x hx=>List.mem_flatMap.mpr ⟨z,hz,hx⟩
theorem bT{k:Nat}{f:Nat×Nat×List (List SO)}(h:fO[k]?.all dz=true)(e:fO[k]?=some f):qZ f:=⟨by rw[e] at h;exact h,List.mem_of_getElem? e⟩
theorem eB{x y:List SO}{a b:SO}(ha:a∈x)(hb:b∈y):[a,b]∈qe x y:=List.mem_flatMap.mpr ⟨a,ha,List.mem_map.mpr ⟨b,hb,rfl⟩⟩
theorem nq{x:List SO}{a:SO}(ha:a∈x):[a]∈CH x:=List.mem_map.mpr ⟨a,ha,rfl⟩
theorem uP{f:Nat→List SO}{z:Nat}{x:SO}(h:x∈[z].flatMap f):x∈f z:=by simpa using h
section
variable{cl:Fn→List MV→M MV}{c:Nat}
theorem ic{x:Str}{i k:Nat}(h:MV.str x∈sO i k):aE (ret (MV.str x)) (fun v=>v∈sO i k):=aE.ret h
theorem HC{v:MV}{P:MV→Prop}(h:P v):aE (ret v) P:=aE.ret h
theorem Kl{k:Nat}(hc:1≤c)(h:0 < k∧k≤1000)(j:Int):aE (aO .Eq (ai (ab T c) "_law_take" [ret (.ref 0),ret (.int (k:Int))]) (ret (.int j))) (fun _=>True):=aE.bnd (bM hc k h) fun v hv=>by
 obtain⟨i,rfl,_⟩:=hv
 exact(nJ rfl rfl).mono fun _ _=>trivial
theorem fy{k:Nat}{v:MV}(h:GT k v)(j:Int):aE (aO .Eq (ret v) (ret (.int j))) (fun _=>True):=by
 obtain⟨i,rfl,_⟩:=h
 exact(nJ rfl rfl).mono fun _ _=>trivial
theorem um{k:Nat}{l:List Nat}{A:M MV}(hc:1≤c)(hl:∀ H,A H=some (.lst (l.map fun(z:Nat)=>.int (z:Int)),H))(hk:0 < k∧k≤1000)(hn:l.length=k):aE (aq A (ai (ab T c) "_law_take" [ret (.ref 0),ret (.int (k:Int))])) (uM l):=(cz (c:=c) hl (bM hc k hk) (by simpa using hn) hk.2).mono fun v hv=>by
 obtain⟨z,hz,rfl⟩:=List.mem_map.mp hv
 exact⟨z,hz,rfl⟩
end
theorem Fw{c z:Nat}(hc:6≤c)(hz:z∈aL)(hw:max z 16∈ll):aE (ab T c (fnOf "_law_move") [.ref 0,.int (z:Int)]) oM:=by
 obtain⟨c,rfl⟩:∃ d,c=d+1:=⟨c - 1,by omega⟩
 have e:ab T (c+1) (fnOf "_law_move") [.ref 0,.int (z:Int)]=Ak (ab T c) (.ref 0) (.int (z:Int)):=funext fun H=>Mo _ _ _ H
 rw[e]
 unfold Ak
 have hs:aE (ret (MV.int (z:Int))) (uM [z]):=aE.ret ⟨z,by simp,rfl⟩
 have hz1:∀ y∈[z],y∈aL:=by simpa using hz
 have wsz:∀ y∈ll,y∈aL:=by decide
 have hz2:∀ y∈[max z 16],y∈aL:=by simpa using wsz _ hw
 have rg:=cC (c:=c) (by omega) hz1 hs
 have gl:=fv (c:=c) (by omega) hz1 hs
 refine aE.bnd (bM (by omega) 6 (by decide)) fun way hway=>?_
 refine aE.bnd (P:=fun v=>v=.int ((max z 16:Nat):Int)) (aE.pure (a:=.int (if (z:Int) < 16 then 16 else z)) (fun H=>rfl) (by congr 1;split<;>omega)) fun wide hwide=>?_
 subst hwide
 have hw1:aE (ret (MV.int ((max z 16:Nat):Int))) (uM [max z 16]):=aE.ret ⟨_,by simp,rfl⟩
 refine aE.ifT (fy hway 0) (fun _=>?_) (fun _=>?_)
 ·exact cY (by decide) (ic (i:=13) (k:=1) (.head _)) (by decide+kernel) (bT MU rfl) rg gl fun a ha b hb=>List.mem_flatMap.mpr ⟨z,hz,eB (uP ha) (uP hb)⟩
 refine aE.ifT (fy hway 1) (fun _=>?_) (fun _=>?_)
 ·exact cY (by decide) (ic (i:=13) (k:=1) (.head _)) (by decide+kernel) (bT NH rfl) gl (pR (k:=128) (by decide) (by omega) (by decide)) fun a ha b hb=>List.mem_flatMap.mpr ⟨z,hz,eB (uP ha) hb⟩
 refine aE.ifT (fy hway 2) (fun _=>?_) (fun _=>?_)
 ·exact cY (by decide) (ic (i:=14) (k:=1) (.head _)) (by decide+kernel) (bT NU rfl) (cC (by omega) hz2 hw1) (qk (l:=[0]) (by omega) (aE.ret ⟨0,by simp,rfl⟩)) fun a ha b hb=>List.mem_flatMap.mpr ⟨max z 16,hw,eB (by
   have ha:=uP ha
   have h8:(max z 16==8)=false:=by simp;omega
   unfold nO at ha
   rw[h8] at ha
   exact ha) (uP hb)⟩
 refine aE.ifT (fy hway 3) (fun _=>?_) (fun _=>?_)
 ·exact cY (by decide) (cz (c:=c) (vs:=sO 15 2) (fun H=>by kernel_rfl) (bM (by omega) 2 (by decide)) rfl (by decide)) (by decide+kernel) (bT MY rfl) (cC (l:=[64,32]) (by omega) (by decide) (um (by omega) (fun H=>by kernel_rfl) (by decide) rfl)) (fv (l:=[8,16]) (by omega) (by decide) (um (by omega) (fun H=>by kernel_rfl) (by decide) rfl)) fun a ha b hb=>by
   obtain⟨x,hx,ha⟩:=List.mem_flatMap.mp ha
   obtain⟨y,hy,hb⟩:=List.mem_flatMap.mp hb
   refine List.mem_flatMap.mpr ⟨x,hx,List.mem_flatMap.mpr ⟨y,hy,eB ?_ hb⟩⟩
   simp only[List.mem_cons,List.not_mem_nil,or_false] at hx
   rcases hx with rfl|rfl<;>exact ha
 refine aE.ifT (fy hway 4) (fun _=>?_) (fun _=>?_)
 ·exact cY (by decide) (ic (i:=17) (k:=1) (.head _)) (by decide+kernel) (bT Nj rfl) gl rg fun a ha b hb=>List.mem_flatMap.mpr ⟨z,hz,eB (uP ha) (uP hb)⟩
 ·exact cY (by decide) (ic (i:=13) (k:=1) (.head _)) (by decide+kernel) (bT NZ rfl) (qk (by omega) hs) rg fun a ha b hb=>List.mem_flatMap.mpr ⟨z,hz,eB (uP ha) (uP hb)⟩
def xk:List MV:=[.str "o",.str "no",.str "b",.str "ae",.str "e",.str "ne",.str "be",.str "a",.str "s",.str "ns",.str "p",.str "np",.str "l",.str "ge",.str "le",.str "g"]
theorem L3:xk.map (fun v=>bF .Add (.str "set") v)=(sO 25 16).map some:=by kernel_rfl
theorem Jn:xk.map (fun v=>bF .Add (.str "cmov") v)=(sO 41 16).map some:=by kernel_rfl
theorem wD{c:Nat}(hc:1≤c){x:Str}{i:Nat}(h:xk.map (fun v=>bF .Add (.str x) v)=(sO i 16).map some):aE (bu .Add (ret (.str x)) (aq (ret (.lst xk)) (ai (ab T c) "_law_take" [ret (.ref 0),ret (.int 16)]))) (fun v=>v∈sO i 16):=by
 show aE (bnd (ret _) fun a=>bnd _ fun b=>opt (bF .Add a b)) _
 refine aE.bnd (P:=fun a=>a=.str x) (aE.ret rfl) fun a ha=>?_
 subst ha
 refine aE.bnd (cz (c:=c) (fun H=>rfl) (bM hc 16 (by decide)) rfl (by decide)) fun v hv=>?_
 have h1:bF .Add (.str x) v∈(sO i 16).map some:=by rw[←h];exact List.mem_map.mpr ⟨v,hv,rfl⟩
 obtain⟨w,hw,e⟩:=List.mem_map.mp h1
 rw[←e]
 exact aE.pure (fun H=>rfl) hw
def LO:List MV:=[jy (fM 1 8),jT (.int 0),jT (.int 1),jT (.int 3),jT (.int 7),jT (.int 32),jT (.int 64)]
theorem LQ:∀ v∈LO,eO ul v:=by
 intro v hv
 simp only[LO,List.mem_cons,List.not_mem_nil,or_false] at hv
 rcases hv with rfl|rfl|rfl|rfl|rfl|rfl|rfl
 ·exact⟨.reg 8,.reg 1 8,by simp[ul],⟨rfl,by decide,by decide⟩,rfl⟩
 ·exact⟨.immK 0,.imm 0,by simp[ul],rfl,rfl⟩
 ·exact⟨.immK 1,.imm 1,by simp[ul],rfl,rfl⟩
 ·exact⟨.immK 3,.imm 3,by simp[ul],rfl,rfl⟩
 ·exact⟨.immK 7,.imm 7,by simp[ul],rfl,rfl⟩
 ·exact⟨.immK 32,.imm 32,by simp[ul],rfl,rfl⟩
 ·exact⟨.immK 64,.imm 64,by simp[ul],rfl,rfl⟩
theorem F9(c:Nat)(H:Hp):bP [bL (ab T (c+3)) 15 "Reg" [ai (ab T (c+3)) "gpr" [ret (.int 1),ret (.int 8)]],bL (ab T (c+3)) 15 "Imm" [ret (.int 0)],bL (ab T (c+3)) 15 "Imm" [ret (.int 1)],bL (ab T (c+3)) 15 "Imm" [ret (.int 3)],bL (ab T (c+3)) 15 "Imm" [ret (.int 7)],bL (ab T (c+3)) 15 "Imm" [ret (.int 32)],bL (ab T (c+3)) 15 "Imm" [ret (.int 64)]] H=some (.lst LO,H):=by kernel_rfl
theorem Iw{z:Nat}(h:z∈aL):max z 16∈ll:=by
 simp only[aL,List.mem_cons,List.not_mem_nil,or_false] at h
 rcases h with rfl|rfl|rfl|rfl<;>decide
theorem Dt{z:Nat}(h:z∈ll):nO z=[.reg z]:=by
 simp only[ll,List.mem_cons,List.not_mem_nil,or_false] at h
 rcases h with rfl|rfl|rfl<;>rfl
theorem Gl{c:Nat}(hc:7≤c):aE (ab T c (fnOf "_law_row") [.ref 0]) oM:=by
 obtain⟨c,rfl⟩:∃ d,c=d+1:=⟨c - 1,by omega⟩
 have e:ab T (c+1) (fnOf "_law_row") [.ref 0]=Gf (ab T c) (.ref 0):=funext fun H=>NV _ _ H
 rw[e]
 unfold Gf
 refine aE.bnd (bM (by omega) 11 (by decide)) fun way hway=>?_
 refine aE.bnd (um (l:=aL) (by omega) (fun H=>by kernel_rfl) (by decide) rfl) fun size hsize=>?_
 obtain⟨z,hz,rfl⟩:=hsize
 have hw:=Iw hz
 have hs:aE (ret (MV.int (z:Int))) (uM [z]):=aE.ret ⟨z,by simp,rfl⟩
 have hz1:∀ y∈[z],y∈aL:=by simpa using hz
 have wsz:∀ y∈ll,y∈aL:=by decide
 have hz2:∀ y∈[max z 16],y∈aL:=by simpa using wsz _ hw
 have rg:=cC (c:=c) (by omega) hz1 hs
 have gl:=fv (c:=c) (by omega) hz1 hs
 refine aE.bnd (P:=fun v=>v=.int ((max z 16:Nat):Int)) (aE.pure (a:=.int (if (z:Int) < 16 then 16 else z)) (fun H=>rfl) (by congr 1;split<;>omega)) fun wide hwide=>?_
 subst hwide
 have hw1:aE (ret (MV.int ((max z 16:Nat):Int))) (uM [max z 16]):=aE.ret ⟨_,by simp,rfl⟩
 have rgw:=cC (c:=c) (by omega) hz2 hw1
 have glw:=fv (c:=c) (by omega) hz2 hw1
 have rgw':∀ {a:SO},a∈[max z 16].flatMap nO→a∈[SO.reg (max z 16)]:=fun ha=>by
  have:=uP ha
  rwa [Dt hw] at this
 refine aE.ifT (fy hway 0) (fun _=>?_) (fun _=>?_)
 ·refine aE.bnd (cz (c:=c) (vs:=sO 0 9) (fun H=>by kernel_rfl) (bM (by omega) 9 (by decide)) rfl (by decide)) fun nm hnm=>?_
  refine aE.bnd (P:=eO (.imm (-128) 127::nO z)) (aE.ifT (Kl (by omega) (k:=2) (by decide) 0) (fun _=>?_) (fun _=>?_)) fun st hst=>?_
  ·exact Bp (by decide) (B4 (by omega) (k:=256) (by decide) 128) fun v hv=>by
    obtain⟨i,rfl,h1,h2⟩:=hv
    exact⟨.imm (-128) 127,.imm i,.head _,⟨by omega,by omega⟩,rfl⟩
  ·exact rg.mono fun v hv=>hv.mono fun x hx=>.tail _ (uP hx)
  ·exact cY (by decide) (HC hnm) (by decide+kernel) (bT NM rfl) gl (HC hst) fun a ha b hb=>List.mem_flatMap.mpr ⟨z,hz,eB (uP ha) hb⟩
 refine aE.ifT (fy hway 1) (fun _=>?_) (fun _=>?_)
 ·exact jB (by decide) (cz (c:=c) (vs:=sO 9 4) (fun H=>by kernel_rfl) (bM (by omega) 4 (by decide)) rfl (by decide)) (by decide+kernel) (bT M9 rfl) gl fun a ha=>List.mem_flatMap.mpr ⟨z,hz,nq (uP ha)⟩
 refine aE.ifT (fy hway 2) (fun _=>?_) (fun _=>?_)
 ·exact aE.call (P:=fun vs=>vs=[.ref 0,.int (z:Int)]) ((aE.ret (P:=fun v=>v=.ref 0) rfl).cons fun v hv=>(aE.ret (P:=fun v=>v=.int (z:Int)) rfl).cons fun w hw=>aE.nil (by rw[hv,hw])) fun vs hvs=>by
   subst hvs
   exact Fw (by omega) hz hw
 refine aE.ifT (fy hway 3) (fun _=>?_) (fun _=>?_)
 ·obtain⟨d,rfl⟩:∃ d,c=d+3:=⟨c - 3,by omega⟩
  refine aE.bnd (cz (c:=d+3) (F9 d) (bM (by omega) 7 (by decide)) rfl (by decide)) fun ct hct=>?_
  exact cY (by decide) (cz (c:=d+3) (vs:=sO 18 5) (fun H=>by kernel_rfl) (bM (by omega) 5 (by decide)) rfl (by decide)) (by decide+kernel) (bT Nv rfl) gl (HC (LQ ct hct)) fun a ha b hb=>List.mem_flatMap.mpr ⟨z,hz,eB (uP ha) hb⟩
 refine aE.ifT (fy hway 4) (fun _=>?_) (fun _=>?_)
 ·exact jB (by decide) (ic (i:=23) (k:=1) (.head _)) (by decide+kernel) (bT M5 rfl) gl fun a ha=>List.mem_flatMap.mpr ⟨z,hz,nq (uP ha)⟩
 refine aE.ifT (fy hway 5) (fun _=>?_) (fun _=>?_)
 ·exact EL (by decide) (ic (i:=24) (k:=1) (.head _)) (by decide+kernel) (bT LY rfl) rgw glw (pR (k:=128) (by decide) (by omega) (by decide)) fun a ha b hb d hd=>List.mem_flatMap.mpr ⟨max z 16,hw,List.mem_map.mpr ⟨b,uP hb,by
   have ha:=rgw' ha
   simp at ha hd
   rw[ha,hd]⟩⟩
 refine aE.bnd (P:=fun v=>v=.lst xk) (aE.pure (fun H=>by kernel_rfl) rfl) fun cv hcv=>?_
 subst hcv
 refine aE.ifT (fy hway 6) (fun _=>?_) (fun _=>?_)
 ·exact jB (by decide) (wD (by omega) L3) (by decide+kernel) (bT Me rfl) (fv (l:=[8]) (by omega) (by decide) (aE.ret ⟨8,by simp,rfl⟩)) fun a ha=>nq (uP ha)
 refine aE.ifT (fy hway 7) (fun _=>?_) (fun _=>?_)
 ·exact cY (by decide) (wD (by omega) Jn) (by decide+kernel) (bT MA rfl) rgw glw fun a ha b hb=>List.mem_flatMap.mpr ⟨max z 16,hw,eB (rgw' ha) (uP hb)⟩
 refine aE.ifT (fy hway 8) (fun _=>?_) (fun _=>?_)
 ·exact Ey (by decide) (cz (c:=c) (vs:=sO 57 22) (fun H=>by kernel_rfl) (bM (by omega) 22 (by decide)) rfl (by decide)) (by decide+kernel) (bT K1 rfl) (.head _)
 refine aE.ifT (fy hway 9) (fun _=>?_) (fun _=>?_)
 ·exact jB (by decide) (cz (c:=c) (vs:=sO 79 2) (fun H=>by kernel_rfl) (bM (by omega) 2 (by decide)) rfl (by decide)) (by decide+kernel) (bT Lp rfl) (fv (l:=[64,16]) (by omega) (by decide) (um (by omega) (fun H=>by kernel_rfl) (by decide) rfl)) fun a ha=>by
   obtain⟨x,hx,ha⟩:=List.mem_flatMap.mp ha
   exact List.mem_flatMap.mpr ⟨x,hx,nq ha⟩
 refine aE.ifT (Kl (by omega) (k:=2) (by decide) 0) (fun _=>?_) (fun _=>?_)
 ·refine jB (la:=[.reg 64,.reg 32]) (by decide) (ic (i:=81) (k:=1) (.head _)) (by decide+kernel) (bT LL rfl) ?_ fun a ha=>nq ha
  refine vn (by decide) (P:=fun v=>∃ n y:Nat,n∈eN∧(y=64∨y=32)∧v=fM n y) ?_ fun v hv=>?_
  ·refine aE.call (P:=fun vs=>∃ n y:Nat,n∈eN∧(y=64∨y=32)∧vs=[.int (n:Int),.int (y:Int)]) ((vM (by omega) (rK (by omega))).cons fun v hv=>(aE.pure (P:=fun v=>v=.int (if (z:Int) < 32 then 32 else z)) (fun H=>rfl) rfl).cons fun w hw=>aE.nil ?_) fun vs hvs=>?_
   ·obtain⟨n,rfl,hn⟩:=hv
    subst hw
    simp only[aL,List.mem_cons,List.not_mem_nil,or_false] at hz
    rcases hz with rfl|rfl|rfl|rfl
    ·exact⟨n,64,hn,.inl rfl,rfl⟩
    ·exact⟨n,32,hn,.inr rfl,rfl⟩
    ·exact⟨n,32,hn,.inr rfl,rfl⟩
    ·exact⟨n,32,hn,.inr rfl,rfl⟩
   ·obtain⟨n,y,hn,hy,rfl⟩:=hvs
    exact(uj (by omega) hn (by rcases hy with rfl|rfl<;>decide)).mono fun v hv=>⟨n,y,hn,hy,hv⟩
  ·obtain⟨n,y,hn,hy,rfl⟩:=hv
   rcases hy with rfl|rfl
   ·exact⟨.reg 64,.reg n 64,.head _,⟨rfl,hn,by decide⟩,rfl⟩
   ·exact⟨.reg 32,.reg n 32,.tail _ (.head _),⟨rfl,hn,by decide⟩,rfl⟩
 ·exact cY (by decide) (ic (i:=82) (k:=1) (.head _)) (by decide+kernel) (bT Lo rfl) glw (pR (k:=16) (by decide) (by omega) (by decide)) fun a ha b hb=>List.mem_flatMap.mpr ⟨max z 16,hw,eB (uP ha) hb⟩
inductive KO where
 |r
 |m
 |i
def Nr(a:Nat→MV):KO→MV
 |.r=>jy (a 0)
 |.m=>nS (a 0) (a 1) (a 2) (a 3) (a 4)
 |.i=>jT (a 0)
def oW(a:Nat→Nat→MV):Nat→List KO→List MV
 |_,[]=>[]
 |p,k::r=>Nr (a p) k::oW a (p+1) r
def SO.kd:SO→KO
 |.reg _=>.r
 |.ah=>.r
 |.mem _ _=>.m
 |.imm _ _=>.i
 |.immK _=>.i
def Po:List (Nat×Nat×List (List KO)):=[(0,9,[[.m,.i],[.m,.r],[.r,.i],[.r,.r]]),(9,4,[[.m],[.r]]),(13,1,[[.r,.m],[.r,.r],[.m,.i],[.r,.i],[.m,.r]]),(14,1,[[.r,.m]]),(15,2,[[.r,.m],[.r,.r]]),(17,1,[[.m,.r],[.r,.r]]),(18,5,[[.m,.r],[.m,.i],[.r,.r],[.r,.i]]),(23,1,[[.m],[.r]]),(24,1,[[.r,.m,.i],[.r,.r,.i]]),(25,16,[[.m],[.r]]),(41,16,[[.r,.m],[.r,.r]]),(79,2,[[.m],[.r]]),(81,1,[[.r]]),(82,1,[[.m,.i],[.r,.i]])]
def Ib:List (Nat×List KO):=Po.flatMap fun f=>(List.range f.2.1).flatMap fun j=>f.2.2.map fun ks=>(f.1+j,ks)
def Ja:List KO→Bool×Bool
 |[]=>(false,false)
 |.m::_=>(true,true)
 |_::r=>(r.any (fun k=>match k with|.m=>true|_=>false),false)
def O7(i:Nat)(os:List KO):Bool:=cO [80] i||((Ja os).1&&!(Nat.beq i 14)&&(!(Ja os).2||!(ye i)||HB i))
def O4(i:Nat)(os:List KO):Bool:=cO [79] i||((Ja os).1&&!(Nat.beq i 14)&&(((Ja os).2&&ye i)||Nat.beq i 17))
def ML:List Nat:=rZ.filter fun i=>Nat.ble i 56||Nat.ble 79 i
def Og:List Nat:=rZ.filter fun i=>Nat.ble 57 i&&Nat.ble i 78
def No:List Nat:=ML.filter fun i=>!(cO [23,24] i)
def mk:List Nat→Nat
 |[]=>0
 |n::r=>2 ^ n|||mk r
def KG(l:List Int):Nat:=mk (l.map Int.toNat)
def vA(i z:Nat):MV:=.tup [.int (KG (ny i z).1:Nat),.int (KG (ny i z).2:Nat)]
theorem Lb(a:Nat→Nat→MV)(H:Hp):(Ib.map fun x=>ab T 5 (fnOf "memory_uses") [bt (.str (jg x.1)) (.tup (oW a 0 x.2))] H)=Ib.map fun x=>some (.tup [.bool (O7 x.1 x.2),.bool (O4 x.1 x.2)],H):=by kernel_rfl
theorem OI(a:Nat→Nat→MV)(H:Hp):(Ib.map fun x=>ab T 4 (fnOf "writes_first") [bt (.str (jg x.1)) (.tup (oW a 0 x.2))] H)=Ib.map fun x=>some (.bool (ye x.1),H):=by kernel_rfl
theorem OA(a:Nat→Nat→MV)(H:Hp):(Ib.map fun x=>ab T 4 (fnOf "reads_first") [bt (.str (jg x.1)) (.tup (oW a 0 x.2))] H)=Ib.map fun x=>some (.bool (HB x.1),H):=by kernel_rfl
theorem NR(a:Nat→Nat→MV)(H:Hp):(Ib.map fun x=>ab T 4 (fnOf "is_string") [bt (.str (jg x.1)) (.tup (oW a 0 x.2))] H)=Ib.map fun x=>some (.bool false,H):=by kernel_rfl
theorem Nh(os:MV)(H:Hp):(No.map fun i=>ab T 4 (fnOf "implied_uses") [bt (.str (jg i)) os] H)=No.map fun i=>some (vA i 0,H):=by kernel_rfl
theorem I8(a b d:MV)(H:Hp):ab T 4 (fnOf "implied_uses") [bt (.str (jg 24)) (.tup [a,b,d])] H=some (vA 24 0,H):=by kernel_rfl
theorem Hr(w k x:MV)(H:Hp):(aL.map fun(z:Nat)=>ab T 4 (fnOf "implied_uses") [bt (.str (jg 23)) (.tup [jy (.inst "Register" [("name",w),("kind",k),("number",x),("size",.int (z:Int))])])] H)=aL.map fun z=>some (vA 23 z,H):=by kernel_rfl
theorem K4(b x s d:MV)(H:Hp):(aL.map fun(z:Nat)=>ab T 4 (fnOf "implied_uses") [bt (.str (jg 23)) (.tup [nS b x s d (.int (z:Int))])] H)=aL.map fun z=>some (vA 23 z,H):=by kernel_rfl
def Cf(l:List Int):MV:=.lst (((List.range 32).filter fun(k:Nat)=>sU l (k:Int)).map fun(k:Nat)=>.int (k:Int))
theorem Mc(H:Hp):(Og.map fun i=>ab T 6 (fnOf "uses") [bt (.str (jg i)) (.tup [])] H)=Og.map fun i=>some (.tup [Cf (MS i []),Cf (MT i []),.bool (OW i []),.bool (OS i [])],H):=by kernel_rfl
theorem FA(H:Hp)(w k x z:MV):ab T 4 (fnOf "operand_size") [jy (.inst "Register" [("name",w),("kind",k),("number",x),("size",z)])] H=some (z,H):=by kernel_rfl
theorem JK(H:Hp)(b x s d z:MV):ab T 4 (fnOf "operand_size") [nS b x s d z] H=some (z,H):=by kernel_rfl
theorem Lr(w s:MV)(H:Hp):(eN.map fun(n:Nat)=>ab T 4 (fnOf "register_mask") [jy (.inst "Register" [("name",w),("kind",.str "gpr"),("number",.int (n:Int)),("size",s)])] H)=eN.map fun n=>some (.int (mk [n]:Nat),H):=by kernel_rfl
theorem Mk(H:Hp):ab T 4 (fnOf "register_mask") [jy NI] H=some (.int 1,H):=by kernel_rfl
theorem LN(b x s d z:MV)(H:Hp):ab T 4 (fnOf "register_mask") [nS b x s d z] H=some (.int 0,H):=by kernel_rfl
theorem GB(v:MV)(H:Hp):ab T 4 (fnOf "register_mask") [jT v] H=some (.int 0,H):=by kernel_rfl
theorem Fq(v:MV)(H:Hp):ab T 4 (fnOf "address_mask") [jy v] H=some (.int 0,H):=by kernel_rfl
theorem Gh(v:MV)(H:Hp):ab T 4 (fnOf "address_mask") [jT v] H=some (.int 0,H):=by kernel_rfl
theorem Mj(s d z:MV)(H:Hp):(eN.map fun(n:Nat)=>ab T 4 (fnOf "address_mask") [nS (fM n 64) .none s d z] H)=eN.map fun n=>some (.int (mk [n]:Nat),H):=by kernel_rfl
theorem Mi(s d z:MV)(H:Hp):(eN.flatMap fun(n:Nat)=>[1,9].map fun(y:Nat)=>ab T 4 (fnOf "address_mask") [nS (fM n 64) (fM y 64) s d z] H)=eN.flatMap fun n=>[1,9].map fun y=>some (.int (mk [n,y]:Nat),H):=by kernel_rfl
def MR(row:MV):M MV:=i5 "name" (ret row)
def ET(cl:Fn→List MV→M MV)(row:MV)(p:Int)(o:MV)(r w:MV)(k:MV→MV→M MV):M MV:=
 bnd (bu .BitOr (ret r) (ai cl "address_mask" [ret o])) fun r1=>bnd (ai cl "register_mask" [ret o]) fun own=>
 ifT (k6 [aO .Eq (ret (.int p)) (ret (.int 0)),bnd (ai cl "writes_first" [ret row]) cI])
  (bnd (bu .BitOr (ret w) (ret own)) fun w1=>ifT (oD [bnd (ai cl "reads_first" [ret row]) cI,aO .Lt (ai cl "operand_size" [ret o]) (ret (.int 32))])
   (bnd (bu .BitOr (ret r1) (ret own)) fun r2=>k r2 w1) (k r1 w1))
  (ifT (aO .NotEq (MR row) (ret (.str "nop")))
   (bnd (bu .BitOr (ret r1) (ret own)) fun r2=>ifT (k6 [aO .Eq (ret (.int p)) (ret (.int 1)),aO .In (MR row) (kZ [ret (.str "xchg"),ret (.str "xadd")])])
    (bnd (bu .BitOr (ret w) (ret own)) fun w1=>k r2 w1) (k r2 w)) (k r1 w))
def BU(cl:Fn→List MV→M MV)(row:MV):Int→List MV→MV→MV→M MV
 |_,[],r,w=>kZ [ret r,ret w]
 |p,o::os,r,w=>ET cl row p o r w (BU cl row (p+1) os)
def om(cl:Fn→List MV→M MV)(row:MV)(os:List MV):M MV:=
 ifT (bnd (ai cl "is_string" [ret row]) cI) (D0 (ai cl "string_uses" [ret row]) (ret none) (A7 (ret (.int 2))))
 (sZ (ai cl "implied_uses" [ret row]) fun r w=>BU cl row 0 os r w)
theorem IF(cl:Fn→List MV→M MV)(n a:MV)(H:Hp):an T cl (fnOf "used_masks") [bt n (.tup [a])] H=om cl (bt n (.tup [a])) [a] H:=by kernel_rfl
theorem Kk(cl:Fn→List MV→M MV)(n a b:MV)(H:Hp):an T cl (fnOf "used_masks") [bt n (.tup [a,b])] H=om cl (bt n (.tup [a,b])) [a,b] H:=by kernel_rfl
theorem Il(cl:Fn→List MV→M MV)(n a b d:MV)(H:Hp):an T cl (fnOf "used_masks") [bt n (.tup [a,b,d])] H=om cl (bt n (.tup [a,b,d])) [a,b,d] H:=by kernel_rfl
def FV(x:MV):M MV:=bw (ee [ret (.int 32)]) fun c=>bn (xu (aO .Eq (bu .BitAnd (bu .RShift (ret x) (ret c)) (ret (.int 1))) (ret (.int 1))) (ret true)) (ret c)
theorem L6(cl:Fn→List MV→M MV)(x:MV)(H:Hp):an T cl (fnOf "bits_of") [x] H=FV x H:=by kernel_rfl
def zY(cl:Fn→List MV→M MV)(row:MV):M MV:=
 sZ (ai cl "used_masks" [ret row]) fun r w=>sZ (ai cl "memory_uses" [ret row]) fun l s=>
 kZ [ai cl "bits_of" [ret r],ai cl "bits_of" [ret w],ret l,ret s]
theorem Lh(cl:Fn→List MV→M MV)(row:MV)(H:Hp):an T cl (fnOf "uses") [row] H=zY cl row H:=by kernel_rfl
theorem jC(k:Nat):∀ l:List Nat,(mk l).testBit k=true↔k∈l
 |[]=>by simp[mk]
 |n::r=>by
  simp only[mk,Nat.testBit_or,Nat.testBit_two_pow,Bool.or_eq_true,decide_eq_true_eq,List.mem_cons,jC k r]
  exact⟨fun h=>h.imp Eq.symm id,fun h=>h.imp Eq.symm id⟩
theorem Lg(a b:List Nat):mk (a++b)=mk a|||mk b:=by
 apply Nat.eq_of_testBit_eq
 intro k
 rw[Nat.testBit_or,Bool.eq_iff_iff,Bool.or_eq_true,jC,jC,jC,List.mem_append]
theorem HH(a b:Nat):bF .BitOr (.int (a:Int)) (.int (b:Int))=some (.int ((a|||b:Nat):Int)):=by
 rw[O2,tv (by omega) (by omega)];rfl
def CO.own:CO→List Nat
 |.reg n _=>[n]
 |.ah=>[0]
 |_=>[]
def CO.adr:CO→List Nat
 |.mem b none _ _=>[b]
 |.mem b (some x) _ _=>[b,x]
 |_=>[]
def Kr(i:Nat):Nat→List CO→List SO→List Nat
 |k,o::r,s::q=>o.adr++((bif Nat.beq k 0&&ye i then (bif HB i||Nat.blt s.size 32 then o.own else []) else o.own)++Kr i (k+1) r q)
 |_,_,_=>[]
def KN(i:Nat):Nat→List CO→List SO→List Nat
 |k,o::r,s::q=>(bif (Nat.beq k 0&&ye i)||(Nat.beq k 1&&Nat.beq i 17) then o.own else [])++KN i (k+1) r q
 |_,_,_=>[]
theorem BG{cos:List CO}{k:Nat}{so:SO}{co:CO}(h:pW so co)(e:sy cos (2 * k)=co.s0):(El k so).map (gN cos)=co.own.map Int.ofNat:=by
 have e0:gN cos (-1 - ((2 * k:Nat):Int))=(co.s0.1:Int):=by
  unfold gN
  rw[if_neg (by omega),show((-1:Int) - (-1 - ((2 * k:Nat):Int))).toNat=2 * k by omega,e]
 cases so<;>cases co<;>simp only[pW] at h
 ·simp only[El,List.map_cons,List.map_nil,e0,CO.own];rfl
 ·rfl
 ·rfl
 ·rfl
 ·rfl
theorem Jo{cos:List CO}{k:Nat}{so:SO}{co:CO}(h:pW so co)(e:sy cos (2 * k)=co.s0)(e':sy cos (2 * k+1)=co.s1):(BQ k so).map (gN cos)=co.adr.map Int.ofNat:=by
 have e0:gN cos (-1 - ((2 * k:Nat):Int))=(co.s0.1:Int):=by
  unfold gN
  rw[if_neg (by omega),show((-1:Int) - (-1 - ((2 * k:Nat):Int))).toNat=2 * k by omega,e]
 have e1:gN cos (-1 - ((2 * k+1:Nat):Int))=(co.s1.1:Int):=by
  unfold gN
  rw[if_neg (by omega),show((-1:Int) - (-1 - ((2 * k+1:Nat):Int))).toNat=2 * k+1 by omega,e']
 cases so<;>cases co<;>simp only[pW] at h
 ·rfl
 ·rfl
 ·rename_i x z b ix d z'
  obtain⟨_,rfl,_⟩:=h
  cases ix with
  |none=>simp only[BQ,Option.isSome_none,List.map_cons,List.map_nil,e0,CO.adr];rfl
  |some y=>simp only[BQ,Option.isSome_some,List.map_cons,List.map_nil,e0,e1,CO.adr];rfl
 ·rfl
 ·rfl
theorem Fs{i:Nat}{all:List CO}:∀ {os:List SO} {cos:List CO} (k:Nat),k0 os cos→(∀ j,sy all (2 * k+j)=sy cos j)→(Oa i k os).map (gN all)=(Kr i k cos os).map Int.ofNat
 |[],[],k,_,_=>rfl
 |s::os,c::cos,k,h,e=>by
  have o1:=BG (cos:=all) (k:=k) h.1 (e 0)
  have a1:=Jo (cos:=all) (k:=k) h.1 (e 0) (e 1)
  have ih:=Fs (i:=i) (all:=all) (k+1) h.2 fun j=>by
   rw[show 2 * (k+1)+j=2 * k+(j+2) by omega,e];rfl
  simp only[Oa,Kr,List.map_append,ih,a1,List.append_assoc]
  congr 2
  cases Nat.beq k 0&&ye i with
  |true=>
   simp only[cond_true]
   cases HB i||Nat.blt s.size 32 with
   |true=>exact o1
   |false=>rfl
  |false=>exact o1
theorem Ge{i:Nat}{all:List CO}:∀ {os:List SO} {cos:List CO} (k:Nat),k0 os cos→(∀ j,sy all (2 * k+j)=sy cos j)→(Oc i k os).map (gN all)=(KN i k cos os).map Int.ofNat
 |[],[],k,_,_=>rfl
 |s::os,c::cos,k,h,e=>by
  have o1:=BG (cos:=all) (k:=k) h.1 (e 0)
  have ih:=Ge (i:=i) (all:=all) (k+1) h.2 fun j=>by
   rw[show 2 * (k+1)+j=2 * k+(j+2) by omega,e];rfl
  simp only[Oc,KN,List.map_append,ih]
  congr 1
  cases (Nat.beq k 0&&ye i)||(Nat.beq k 1&&Nat.beq i 17) with
  |true=>exact o1
  |false=>rfl
theorem Js{so:SO}{co:CO}(h:pW so co)(H:Hp):ab T 4 (fnOf "register_mask") [co.val] H=some (.int (mk co.own:Nat),H):=by
 cases so<;>cases co<;>simp only[pW] at h
 ·exact bg (Lr _ _ H) _ h.2.1
 ·exact Mk H
 ·exact LN _ _ _ _ _ H
 ·exact GB _ H
 ·exact GB _ H
theorem J6{so:SO}{co:CO}(h:pW so co)(H:Hp):ab T 4 (fnOf "address_mask") [co.val] H=some (.int (mk co.adr:Nat),H):=by
 cases so<;>cases co<;>simp only[pW] at h
 ·exact Fq _ H
 ·exact Fq _ H
 ·rename_i x z b ix d z'
  obtain⟨_,_,hb,hx,_⟩:=h
  cases ix with
  |none=>exact bg (Mj _ _ _ H) _ hb
  |some y=>exact iJ (Mi _ _ _ H) _ hb y (by rcases hx y rfl with rfl|rfl<;>simp)
 ·exact Gh _ H
 ·exact Gh _ H
theorem Ih{so:SO}{co:CO}(h:pW so co)(hi:so.kd≠.i)(H:Hp):ab T 4 (fnOf "operand_size") [co.val] H=some (.int (so.size:Nat),H):=by
 cases so<;>cases co<;>simp only[pW] at h
 ·obtain⟨rfl,_⟩:=h
  exact FA H _ _ _ _
 ·exact FA H _ _ _ _
 ·obtain⟨rfl,_⟩:=h
  exact JK H _ _ _ _ _
 ·exact absurd rfl hi
 ·exact absurd rfl hi
theorem cM(cl:Fn→List MV→M MV)(f:Str)(x:MV)(H:Hp):ai cl f [ret x] H=cl (fnOf f) [x] H:=rfl
structure RF(i:Nat)(nm:Str)(osV:MV):Prop where
 w:∀ H,ab T 4 (fnOf "writes_first") [bt (.str nm) osV] H=some (.bool (ye i),H)
 r:∀ H,ab T 4 (fnOf "reads_first") [bt (.str nm) osV] H=some (.bool (HB i),H)
 n:(nm=="nop")=false
 x:Jz (.str nm) [.str "xchg",.str "xadd"]=some (Nat.beq i 17)
theorem Bm{i:Nat}{nm:Str}{osV:MV}(F:RF i nm osV)(H:Hp):∀ {os:List SO} {cos:List CO} (p r w:Nat),k0 os cos→(p=0→∀ s∈os.head?,s.kd≠.i)→BU (ab T 4) (bt (.str nm) osV) (p:Int) (cos.map CO.val) (.int (r:Int)) (.int (w:Int)) H=some (.tup [.int ((r|||mk (Kr i p cos os):Nat):Int),.int ((w|||mk (KN i p cos os):Nat):Int)],H)
 |[],[],p,r,w,_,_=>by
  simp only[Kr,KN,mk,Nat.or_zero]
  rfl
 |s::os,c::cos,p,r,w,h,hk=>by
  have ih:=fun r w=>Bm F H (p+1) r w h.2 fun e=>by omega
  have ep:((p+1:Nat):Int)=(p:Int)+1:=rfl
  have h1:bu .BitOr (ret (.int (r:Int))) (ai (ab T 4) "address_mask" [ret c.val]) H=some (.int ((r|||mk c.adr:Nat):Int),H):=by
   rw[bI,aa,ad]
   dsimp only
   rw[aa,cM,J6 h.1]
   dsimp only
   rw[HH];rfl
  have h2:ai (ab T 4) "register_mask" [ret c.val] H=some (.int ((mk c.own:Nat):Int),H):=Js h.1 H
  have hor:∀ a b:Nat,bu .BitOr (ret (.int (a:Int))) (ret (.int (b:Int))) H=some (.int ((a|||b:Nat):Int),H):=fun a b=>by
   rw[bI,aa,ad]
   dsimp only
   rw[aa,ad]
   dsimp only
   rw[HH];rfl
  have h3:k6 [aO .Eq (ret (.int (p:Int))) (ret (.int 0)),bnd (ai (ab T 4) "writes_first" [ret (bt (.str nm) osV)]) cI] H=some (Nat.beq p 0&&ye i,H):=by
   have e:((p:Int)==0)=Nat.beq p 0:=by
    rw[Bool.eq_iff_iff]
    simp
   have e2:aO .Eq (ret (.int (p:Int))) (ret (.int 0)) H=some (((p:Int)==0),H):=rfl
   rw[iR,aa,e2,e]
   dsimp only
   cases Nat.beq p 0 with
   |false=>rfl
   |true=>
    rw[cond_true,iR,aa,aa,cM,F.w]
    dsimp only
    show(bif ye i then k6 [] else ret false) H=_
    cases ye i<;>rfl
  have h5:aO .NotEq (MR (bt (.str nm) osV)) (ret (.str "nop")) H=some (true,H):=by
   have e1:MR (bt (.str nm) osV) H=some (.str nm,H):=by kernel_rfl
   rw[bS,aa,e1]
   dsimp only
   rw[aa,ad]
   show some (!(nm=="nop"),H)=_
   rw[F.n];rfl
  have h6:k6 [aO .Eq (ret (.int (p:Int))) (ret (.int 1)),aO .In (MR (bt (.str nm) osV)) (kZ [ret (.str "xchg"),ret (.str "xadd")])] H=some (Nat.beq p 1&&Nat.beq i 17,H):=by
   have e:((p:Int)==1)=Nat.beq p 1:=by
    rw[Bool.eq_iff_iff]
    simp
    omega
   have e2:aO .Eq (ret (.int (p:Int))) (ret (.int 1)) H=some (((p:Int)==1),H):=rfl
   rw[iR,aa,e2,e]
   dsimp only
   cases Nat.beq p 1 with
   |false=>rfl
   |true=>
    have e1:MR (bt (.str nm) osV) H=some (.str nm,H):=by kernel_rfl
    have e3:kZ [ret (.str "xchg"),ret (.str "xadd")] H=some (.tup [.str "xchg",.str "xadd"],H):=rfl
    rw[cond_true,iR,aa,bS,aa,e1]
    dsimp only
    rw[aa,e3]
    show(match (match Jz (.str nm) [.str "xchg",.str "xadd"] with
     |none=>none
     |some x=>some (x,H)) with
     |none=>none
     |some (a,h')=>(bif a then k6 [] else ret false:M Bool) h')=_
    rw[F.x]
    dsimp only
    cases Nat.beq i 17<;>rfl
  show ET _ _ _ _ _ _ (BU _ _ ((p:Int)+1) _) H=_
  unfold ET
  rw[aa,h1]
  dsimp only
  rw[aa,h2]
  dsimp only
  rw[cF,aa,h3]
  dsimp only
  rw[←ep]
  simp only[Kr,KN,Lg]
  cases q:Nat.beq p 0&&ye i with
  |true=>
   rw[cond_true,aa,hor]
   dsimp only
   have hp:p=0:=by
    rw[Bool.and_eq_true] at q
    exact Nat.eq_of_beq_eq_true q.1
   have h4:oD [bnd (ai (ab T 4) "reads_first" [ret (bt (.str nm) osV)]) cI,aO .Lt (ai (ab T 4) "operand_size" [ret c.val]) (ret (.int 32))] H=some (HB i||Nat.blt s.size 32,H):=by
    rw[iX,aa,aa,cM,F.r]
    dsimp only
    show(bif HB i then _ else _:M Bool) H=_
    cases HB i with
    |true=>rfl
    |false=>
     rw[cond_false,iX,aa,bS,aa,cM,Ih h.1 (hk hp s rfl)]
     dsimp only
     rw[aa,ad]
     show(match some (decide ((s.size:Int) < 32),H) with
      |none=>none
      |some (a,h')=>(bif a then ret true else oD []:M Bool) h')=_
     have e:decide ((s.size:Int) < 32)=Nat.blt s.size 32:=by
      rw[Bool.eq_iff_iff,Nat.blt_eq,decide_eq_true_eq]
      omega
     rw[e]
     dsimp only
     cases Nat.blt s.size 32<;>rfl
   rw[cF,aa,h4]
   dsimp only
   cases HB i||Nat.blt s.size 32 with
   |true=>
    rw[cond_true,aa,hor]
    dsimp only
    rw[ih]
    simp only[cond_true,Bool.true_or,Nat.or_assoc]
   |false=>
    rw[cond_false,ih]
    simp only[cond_true,cond_false,Bool.true_or,mk,Nat.zero_or,Nat.or_assoc]
  |false=>
   rw[cond_false,cF,aa,h5]
   dsimp only
   rw[cond_true,aa,hor]
   dsimp only
   rw[cF,aa,h6]
   dsimp only
   cases Nat.beq p 1&&Nat.beq i 17 with
   |true=>
    rw[cond_true,aa,hor]
    dsimp only
    rw[ih]
    simp only[cond_true,cond_false,Bool.or_true,Nat.or_assoc]
   |false=>
    rw[cond_false,ih]
    simp only[cond_false,Bool.or_false,mk,Nat.zero_or,Nat.or_assoc]
theorem jH{H:Hp}{f:MV→M (Option MV)}{p:Nat→Bool}:∀ {ks:List Nat},(∀ k∈ks,f (.int (k:Int)) H=some (bif p k then some (.int (k:Int)) else none,H))→bQ f (ks.map fun(k:Nat)=>.int (k:Int)) H=some ((ks.filter p).map fun(k:Nat)=>.int (k:Int),H)
 |[],_=>rfl
 |k::ks,h=>by
  show bnd (f (.int (k:Int))) (fun o=>bnd (bQ f (ks.map fun(k:Nat)=>MV.int (k:Int))) fun ys=>ret (o.toList++ys)) H=_
  rw[aa,h k List.mem_cons_self]
  dsimp only
  rw[aa,jH fun j hj=>h j (List.mem_cons_of_mem _ hj)]
  simp only[List.filter_cons]
  cases p k<;>rfl
def bW(p:Nat→Bool):MV:=.lst (((List.range 32).filter p).map fun(k:Nat)=>.int (k:Int))
theorem Kq(H:Hp):ee [ret (.int 32)] H=some ((List.range 32).map fun(k:Nat)=>.int (k:Int),H):=by kernel_rfl
theorem IQ(cl:Fn→List MV→M MV)(m:Nat)(H:Hp):an T cl (fnOf "bits_of") [.int (m:Int)] H=some (bW m.testBit,H):=by
 rw[L6]
 unfold FV bw
 rw[aa,Kq]
 dsimp only
 rw[aa,jH (p:=m.testBit) fun k hk=>?_]
 ·rfl
 ·have hk:=List.mem_range.mp hk
  have e1:bF .RShift (.int (m:Int)) (.int (k:Int))=some (.int ((m / 2 ^ k:Nat):Int)):=by
   show(bif jd (k:Int) then some (MV.int ((m:Int).fdiv (2 ^ (k:Int).toNat))) else none)=_
   have:jd (k:Int)=true:=by
    unfold jd
    rw[decide_eq_true (by omega),decide_eq_true (by omega)];rfl
   rw[this,cond_true,Int.toNat_natCast,Int.fdiv_eq_ediv_of_nonneg _ (Int.le_of_lt (Int.pow_pos (by decide)))]
   rfl
  have e2:bF .BitAnd (.int ((m / 2 ^ k:Nat):Int)) (.int 1)=some (.int ((m / 2 ^ k % 2:Nat):Int)):=by
   rw[KC,PyProof.Rows.bitAnd_pp (Int.natCast_nonneg _) (by decide)]
   rw[Int.toNat_natCast]
   show some (MV.int ((m / 2 ^ k&&& 1:Nat):Int))=_
   rw[Nat.and_one_is_mod]
  have e3:(((m / 2 ^ k % 2:Nat):Int)==1)=m.testBit k:=by
   rw[Nat.testBit_eq_decide_div_mod_eq,Bool.eq_iff_iff,beq_iff_eq,decide_eq_true_eq]
   exact⟨fun h=>Int.ofNat.inj h,fun h=>congrArg Int.ofNat h⟩
  have e4:aO .Eq (bu .BitAnd (bu .RShift (ret (.int (m:Int))) (ret (.int (k:Int)))) (ret (.int 1))) (ret (.int 1)) H=some (m.testBit k,H):=by
   simp only[bS,bI,aa,ad,kT,e1,e2,D9,e3]
  rw[dR,aa,mv,aa,e4]
  dsimp only
  cases m.testBit k<;>rfl
def n6(chk:Nat→List SO→Bool):Bool:=fO.all fun f=>(List.range f.2.1).all fun j=>f.2.2.all fun os=>chk (f.1+j) os
theorem m8{chk:Nat→List SO→Bool}(h:n6 chk=true){r:Rw}(g:r.Good):chk r.i r.os=true:=by
 obtain⟨f,hf,j,hj,hi,ho⟩:=g.fam
 unfold n6 at h
 have h1:=List.all_eq_true.mp h f hf
 have h2:=List.all_eq_true.mp h1 j (List.mem_range.mpr hj)
 have h3:=List.all_eq_true.mp h2 _ ho
 rw[hi];exact h3
def Na:List KO→List KO→Bool
 |[],[]=>true
 |.r::a,.r::b=>Na a b
 |.m::a,.m::b=>Na a b
 |.i::a,.i::b=>Na a b
 |_,_=>false
theorem uR:∀ {a b:List KO},Na a b=true→a=b
 |[],[],_=>rfl
 |.r::a,.r::b,h=>by rw[uR (a:=a) (b:=b) h]
 |.m::a,.m::b,h=>by rw[uR (a:=a) (b:=b) h]
 |.i::a,.i::b,h=>by rw[uR (a:=a) (b:=b) h]
 |[],.r::_,h|[],.m::_,h|[],.i::_,h=>by cases h
 |.r::_,[],h|.m::_,[],h|.i::_,[],h=>by cases h
 |.r::_,.m::_,h|.r::_,.i::_,h|.m::_,.r::_,h|.m::_,.i::_,h|.i::_,.r::_,h|.i::_,.m::_,h=>by cases h
def Kn(i:Nat)(ks:List KO):Bool:=Ib.any fun x=>Nat.beq x.1 i&&Na x.2 ks
theorem Cn{i:Nat}{ks:List KO}(h:Kn i ks=true):(i,ks)∈Ib:=by
 obtain⟨x,hx,e⟩:=List.any_eq_true.mp h
 rw[Bool.and_eq_true] at e
 have e1:=Nat.eq_of_beq_eq_true e.1
 have e2:=uR e.2
 obtain⟨a,b⟩:=x
 dsimp only at e1 e2
 subst e1 e2
 exact hx
def s8:List SO→Bool
 |.imm _ _::_=>false
 |.immK _::_=>false
 |_=>true
def Ku(i:Nat)(os:List SO):Bool:=(cO Og i&&os.isEmpty)||(cO ML i&&!os.isEmpty&&Kn i (os.map SO.kd)&&s8 os&&Nat.ble os.length 3)
theorem IW:n6 Ku=true:=by decide+kernel
theorem Jl:(ML.all fun i=>!(jg i=="nop"))=true:=by decide+kernel
theorem FB:(ML.map fun i=>Jz (.str (jg i)) [.str "xchg",.str "xadd"])=ML.map fun i=>some (Nat.beq i 17):=by kernel_rfl
theorem cb{l:List Nat}{i:Nat}(h:cO l i=true):i∈l:=by
 unfold cO at h
 obtain⟨j,hj,e⟩:=List.any_eq_true.mp h
 rw[Nat.eq_of_beq_eq_true e];exact hj
theorem Rw.Good.nm{r:Rw}(g:r.Good):r.n.nm=jg r.i:=by unfold jg;rw[g.ok.n]
def CO.part:CO→Nat→MV
 |.reg n z,_=>fM n z
 |.ah,_=>NI
 |.mem b _ _ _,0=>fM b 64
 |.mem _ x _ _,1=>Nb x
 |.mem _ x _ _,2=>.int (L5 x)
 |.mem _ _ d _,3=>.int d
 |.mem _ _ _ z,_=>.int (z:Int)
 |.imm v,_=>.int v
def rH(cos:List CO)(p q:Nat):MV:=match cos[p]? with
 |some c=>c.part q
 |none=>.none
theorem JR{so:SO}{co:CO}(h:pW so co):co.val=Nr co.part so.kd:=by
 cases so<;>cases co<;>simp only[pW] at h<;>rfl
theorem xf{a:Nat→Nat→MV}:∀ {os:List SO} {cos:List CO} (p:Nat),k0 os cos→(∀ j,j < cos.length→a (p+j)=rH cos j)→cos.map CO.val=oW a p (os.map SO.kd)
 |[],[],p,_,_=>rfl
 |s::os,c::cos,p,h,e=>by
  have e0:a p=c.part:=e 0 (by simp)
  simp only[List.map_cons,oW]
  rw[e0,JR h.1,xf (p+1) h.2 fun j hj=>?_]
  have:=e (j+1) (by simp;omega)
  rw[show p+1+j=p+(j+1) by omega,this]
  funext q
  simp[rH]
theorem B5{r:Rw}(h:k0 r.os r.cos):r.cos.map CO.val=oW (rH r.cos) 0 (r.os.map SO.kd):=xf 0 h fun j _=>by rw[Nat.zero_add]
theorem pL:∀ {os:List SO} {cos:List CO},k0 os cos→cos.length=os.length
 |[],[],_=>rfl
 |_::_,_::_,h=>by simp[pL h.2]
theorem BY{os:List SO}(h:s8 os=true):∀ s∈os.head?,s.kd≠.i:=by
 intro s hs
 cases os with
 |nil=>cases hs
 |cons b os=>
  have:b=s:=by simpa using hs
  subst this
  cases b<;>simp[SO.kd,s8] at h ⊢
theorem IM{i:Nat}{nm:Str}{vs:List MV}(F:RF i nm (.tup vs))(H:Hp){os:List SO}{cos:List CO}(hf:k0 os cos)(hh:s8 os=true)(hv:vs=cos.map CO.val){m1 m2:Nat}(hs:ab T 4 (fnOf "is_string") [bt (.str nm) (.tup vs)] H=some (.bool false,H))(hi:ab T 4 (fnOf "implied_uses") [bt (.str nm) (.tup vs)] H=some (.tup [.int (m1:Int),.int (m2:Int)],H)):om (ab T 4) (bt (.str nm) (.tup vs)) vs H=some (.tup [.int ((m1|||mk (Kr i 0 cos os):Nat):Int),.int ((m2|||mk (KN i 0 cos os):Nat):Int)],H):=by
 unfold om
 have e1:bnd (ai (ab T 4) "is_string" [ret (bt (.str nm) (.tup vs))]) cI H=some (false,H):=by
  rw[aa,cM,hs];rfl
 rw[cF,aa,e1]
 dsimp only
 rw[cond_false]
 unfold sZ Hb
 rw[aa,cM,hi]
 dsimp only[Ce,Mu]
 subst hv
 exact Bm F H 0 m1 m2 hf fun _=>BY hh
theorem LP{r:Rw}(g:r.Good)(hi:r.i∈ML)(H:Hp):ab T 4 (fnOf "implied_uses") [r.val] H=some (vA r.i (H9 r.os),H):=by
 have hv:r.val=bt (.str (jg r.i)) (.tup (r.cos.map CO.val)):=by unfold Rw.val;rw[g.nm]
 rw[hv]
 have hf:=g.ok.fit
 have har:=g.ok.ar
 have hn:=g.ok.n
 by_cases h23:r.i=23
 ·rw[h23] at hn ⊢
  have:r.n.ar=1:=(Option.some.inj (show some 1=some r.n.ar from congrArg (fun o:Option NE=>o.map NE.ar) hn)).symm
  obtain⟨a,ha⟩:∃ a,r.cos=[a]:=by
   match q:r.cos,har with
   |[a],_=>exact⟨a,rfl⟩
   |[],h=>simp at h;omega
   |_::_::_,h=>simp at h;omega
  have hz:∃ s∈aL,∃ o,r.os=[o]∧o.size=s∧o.kd≠.i:=by
   have h2:=m8 (chk:=fun i os=>!(Nat.beq i 23)||(match os with|[o]=>cO aL o.size&&s8 os|_=>false)) (by decide+kernel) g
   rw[h23] at h2
   match q:r.os with
   |[o]=>
    rw[q] at h2
    have h2:(cO aL o.size&&s8 [o])=true:=h2
    rw[Bool.and_eq_true] at h2
    exact⟨o.size,cb h2.1,o,rfl,rfl,BY h2.2 o rfl⟩
   |[]=>rw[q] at h2;cases h2
   |_::_::_=>rw[q] at h2;cases h2
  obtain⟨s,hs,o,ho,rfl,hk⟩:=hz
  rw[ho,ha] at hf
  have hf:=hf.1
  rw[ha,ho]
  cases o<;>cases a<;>simp only[pW] at hf
  ·obtain⟨rfl,_⟩:=hf
   exact bg (Hr _ _ _ H) _ hs
  ·exact bg (Hr _ _ _ H) 8 hs
  ·obtain⟨rfl,_⟩:=hf
   exact bg (K4 _ _ _ _ H) _ hs
  ·exact absurd rfl hk
  ·exact absurd rfl hk
 ·have hz:vA r.i (H9 r.os)=vA r.i 0:=by
   have:ny r.i (H9 r.os)=ny r.i 0:=by
    unfold ny
    rw[beq_false_of_ne h23];rfl
   unfold vA;rw[this]
  rw[hz]
  by_cases h24:r.i=24
  ·rw[h24] at hn ⊢
   have:r.n.ar=3:=(Option.some.inj (show some 3=some r.n.ar from congrArg (fun o:Option NE=>o.map NE.ar) hn)).symm
   match q:r.cos,har with
   |[a,b,d],_=>exact I8 _ _ _ H
   |[],h|[_],h|[_,_],h=>simp at h;omega
   |_::_::_::_::_,h=>simp at h;omega
  ·exact bg (Nh _ H) r.i (List.mem_filter.mpr ⟨hi,by
    have a1:Nat.beq r.i 23=false:=by rw[←Bool.not_eq_true];intro h;exact h23 (Nat.eq_of_beq_eq_true h)
    have a2:Nat.beq r.i 24=false:=by rw[←Bool.not_eq_true];intro h;exact h24 (Nat.eq_of_beq_eq_true h)
    simp[cO,a1,a2]⟩)
theorem Ii:n6 (fun i _=>cO rZ i)=true:=by decide+kernel
theorem Rw.Good.all{r:Rw}(g:r.Good):r.i∈rZ:=cb (m8 Ii g)
theorem Rw.Good.st{r:Rw}(g:r.Good):r.n.st=Iv r.i:=by unfold Iv;rw[g.ok.n]
theorem Rw.Good.lk{r:Rw}(g:r.Good):r.n.lk=He r.i:=by unfold He;rw[g.ok.n]
def vG:SO→Bool
 |.reg z=>cO aL z
 |.ah=>true
 |.mem _ z=>cO aL z
 |_=>false
def Km(i:Nat)(os:List SO):Bool:=!(cO tR i)||(match os with
 |[o,.immK v]=>vG o&&cO pm v
 |[o,.reg _]=>vG o
 |_=>false)
theorem MK:n6 Km=true:=by decide+kernel
theorem HT:(rZ.all fun i=>cO tR i==(Nat.ble 18 i&&Nat.ble i 22))=true:=by decide+kernel
theorem qN{r:Rw}(g:r.Good)(h:r.i∈tR):∃ o c,r.cos=[o,c]∧((∃ z v:Nat,z∈aL∧v∈pm∧c=.imm (v:Int)∧r.st=Kp r.i z v∧((∃ n,n∈eN∧o=.reg n z)∨(z=8∧o=.ah)∨∃ b x d,o=.mem b x d z))∨(∃ n z,c=.reg n z∧r.st=0∧((∃ n z,n∈eN∧z∈aL∧o=.reg n z)∨o=.ah∨∃ b x d z,o=.mem b x d z))):=by
 have hs:cO tR r.i=true:=List.any_eq_true.mpr ⟨r.i,h,Nat.beq_refl _⟩
 have ck:=m8 MK g
 unfold Km at ck
 rw[hs] at ck
 have hf:=g.ok.fit
 have hst:=g.st
 have hr:(Nat.ble 18 r.i&&Nat.ble r.i 22)=true:=by
  have:=List.all_eq_true.mp HT r.i g.all
  rw[hs] at this
  exact(eq_of_beq this).symm
 obtain⟨i,n,os,cos⟩:=r
 dsimp only at hf ck hst hr h ⊢
 match os,cos,hf with
 |[so,sc],[o,c],hf=>
  refine⟨o,c,rfl,?_⟩
  obtain⟨f1,f2,_⟩:=hf
  have size:∀ z,cO aL z=true→z∈aL:=fun z h=>cb h
  cases sc with
  |immK v=>
   have ck:(vG so&&cO pm v)=true:=ck
   rw[Bool.and_eq_true] at ck
   cases c<;>simp only[pW] at f2
   subst f2
   left
   cases so<;>cases o<;>simp only[pW] at f1<;>simp only[vG,Bool.false_eq_true,false_and] at ck
   ·obtain⟨rfl,hn,hz⟩:=f1
    refine⟨_,v,hz,cb ck.2,rfl,?_,.inl ⟨_,hn,rfl⟩⟩
    unfold Rw.st oT Kp FY
    dsimp only
    rw[hr,hst]
    have hv:=cb ck.2
    simp only[aL,pm,List.mem_cons,List.not_mem_nil,or_false] at hz hv
    rcases hz with rfl|rfl|rfl|rfl<;>rcases hv with rfl|rfl|rfl|rfl|rfl|rfl<;>rfl
   ·refine⟨8,v,by decide,cb ck.2,rfl,?_,.inr (.inl ⟨rfl,rfl⟩)⟩
    unfold Rw.st oT Kp FY
    dsimp only
    have hv:=cb ck.2
    simp only[pm,List.mem_cons,List.not_mem_nil,or_false] at hv
    rw[hr,hst]
    rcases hv with rfl|rfl|rfl|rfl|rfl|rfl<;>rfl
   ·obtain⟨rfl,_⟩:=f1
    have hz:=size _ ck.1
    refine⟨_,v,hz,cb ck.2,rfl,?_,.inr (.inr ⟨_,_,_,rfl⟩)⟩
    unfold Rw.st oT Kp FY
    dsimp only
    rw[hr,hst]
    have hv:=cb ck.2
    simp only[aL,pm,List.mem_cons,List.not_mem_nil,or_false] at hz hv
    rcases hz with rfl|rfl|rfl|rfl<;>rcases hv with rfl|rfl|rfl|rfl|rfl|rfl<;>rfl
  |reg y=>
   cases c<;>simp only[pW] at f2
   right
   refine⟨_,_,rfl,?_,?_⟩
   ·unfold Rw.st oT
    dsimp only
    rw[hr];rfl
   ·cases so<;>cases o<;>simp only[pW] at f1
    ·obtain⟨rfl,hn,hz⟩:=f1
     exact .inl ⟨_,_,hn,hz,rfl⟩
    ·exact .inr (.inl rfl)
    ·exact .inr (.inr ⟨_,_,_,_,rfl⟩)
    all_goals cases ck
  |ah=>cases ck
  |mem x z=>cases ck
  |imm a b=>cases ck
 |[],_,_=>cases ck
 |[so],[c],hf=>cases ck
 |[_],[],hf=>cases hf
 |[_,_],[],hf=>cases hf
 |[_,_],[_],hf=>exact absurd hf.2 (by simp[k0])
 |[_,_],_::_::_::_,hf=>exact absurd hf.2.2 (by simp[k0])
 |_::_::_::_,_,hf=>
  exfalso
  revert ck
  simp
theorem Es{r:Rw}(g:r.Good)(h:r.i∉tR):r.i∈N1∧r.st=Iv r.i:=by
 have hs:cO tR r.i=false:=by
  rw[←Bool.not_eq_true]
  intro q
  exact h (cb q)
 refine⟨List.mem_filter.mpr ⟨g.all,by rw[hs];rfl⟩,?_⟩
 have:(Nat.ble 18 r.i&&Nat.ble r.i 22)=false:=by
  have:=List.all_eq_true.mp HT r.i g.all
  rw[hs] at this
  exact(eq_of_beq this).symm
 unfold Rw.st oT
 rw[this,cond_false]
 exact g.st
theorem qm{β γ δ:Type}(f:β→γ→δ)(n:List γ):∀ m:List β,(m.flatMap fun b=>n.map (f b)).length=m.length * n.length
 |[]=>by simp
 |b::m=>by
  simp only[List.flatMap_cons,List.length_append,List.length_map,List.length_cons,qm f n m]
  rw[Nat.succ_mul];omega
theorem jV{α β γ δ:Type}{f g:α→β→γ→δ}{m:List β}{n:List γ}:∀ {l:List α},(l.flatMap fun a=>m.flatMap fun b=>n.map (f a b))=(l.flatMap fun a=>m.flatMap fun b=>n.map (g a b))→∀ x∈l,∀ y∈m,∀ z∈n,f x y z=g x y z
 |a::l,e,x,hx,y,hy,z,hz=>by
  simp only[List.flatMap_cons] at e
  have h:=List.append_inj e (by rw[qm,qm])
  simp only[List.mem_cons] at hx
  rcases hx with rfl|hx
  ·exact iJ h.1 y hy z hz
  ·exact jV h.2 x hx y hy z hz
theorem Ix{r:Rw}(g:r.Good)(H:Hp):ab T 5 (fnOf "sure_mask") [r.val] H=some (.int (r.st:Nat),H):=by
 have hv:r.val=bt (.str (jg r.i)) (.tup (r.cos.map CO.val)):=by unfold Rw.val;rw[g.nm]
 rw[hv]
 by_cases h:r.i∈tR
 ·obtain⟨o,c,hc,q⟩:=qN g h
  rw[hc]
  rcases q with⟨z,v,hz,hv,rfl,hst,q⟩|⟨n,z,rfl,hst,q⟩
  ·rw[hst]
   rcases q with⟨n,hn,rfl⟩|⟨rfl,rfl⟩|⟨b,x,d,rfl⟩
   ·exact jV (KK _ _ _ .none H) _ h _ hz _ hv
   ·exact jV (KK _ _ _ .none H) _ h 8 hz _ hv
   ·exact jV (Nk _ _ _ _ H) _ h _ hz _ hv
  ·rw[hst]
   exact bg (NJ _ _ H) _ h
 ·obtain⟨h1,h2⟩:=Es g h
  rw[h2]
  exact bg (ME _ H) _ h1
def uH(l:List MV)(z:MV)(o1:MV):M MV:=
 bnd (ifT (aO .Eq (aq (ret o1) (ret (.int 0))) (ret (.str "reg"))) (ret (.int 0)) (bu .Mod (aq (ret o1) (ret (.int 1))) (ifT (aO .Eq (ret z) (ret (.int 64))) (ret (.int 64)) (ret (.int 32))))) fun count_2=>
 ifT (aO .Eq (ret count_2) (ret (.int 0))) (bP []) (bP (l.map ret))
theorem Bl{l:List MV}{p o0 o1 z:MV}{H:Hp}(h:ifT (aO .Eq (aq (ret o0) (ret (.int 0))) (ret (.str "mem"))) (aq (ret o0) (ret (.int 5))) (aq (aq (ret p) (aq (ret o0) (ret (.int 1)))) (ret (.int 1))) H=some (z,H)):vy l p o0 o1 H=uH l z o1 H:=by
 unfold vy
 rw[aa,h]
 rfl
theorem Ff(H:Hp):(tR.flatMap fun i=>aL.flatMap fun z=>pm.map fun v=>uH (fL (Iv i)) (.int (z:Nat)) (.tup [.str "imm",.int (v:Nat),.str ""]) H)=tR.flatMap fun i=>aL.flatMap fun z=>pm.map fun v=>some (.lst (fL (Kp i z v)),H):=by kernel_rfl
theorem Et(l:List MV)(z:MV)(x:MV)(H:Hp):uH l z (.tup [.str "reg",x]) H=some (.lst [],H):=by kernel_rfl
theorem Cu(p b x s d z u v:MV)(H:Hp):ifT (aO .Eq (aq (ret (.tup [.str "mem",b,x,s,d,z,u,v])) (ret (.int 0))) (ret (.str "mem"))) (aq (ret (.tup [.str "mem",b,x,s,d,z,u,v])) (ret (.int 5))) (aq (aq (ret p) (aq (ret (.tup [.str "mem",b,x,s,d,z,u,v])) (ret (.int 1)))) (ret (.int 1))) H=some (z,H):=by kernel_rfl
theorem th{t:Nat}{H:Hp}{nm:Str}{a z k:MV}(e:bE (.ref t) (.str nm) H=some (.tup [a,z,k],H)):ifT (aO .Eq (aq (ret (.tup [.str "reg",.str nm])) (ret (.int 0))) (ret (.str "mem"))) (aq (ret (.tup [.str "reg",.str nm])) (ret (.int 5))) (aq (aq (ret (.ref t)) (aq (ret (.tup [.str "reg",.str nm])) (ret (.int 1)))) (ret (.int 1))) H=some (z,H):=by
 have e1:aO .Eq (aq (ret (.tup [.str "reg",.str nm])) (ret (.int 0))) (ret (.str "mem")) H=some (false,H):=by kernel_rfl
 have e2:aq (ret (.tup [.str "reg",.str nm])) (ret (.int 1)) H=some (.str nm,H):=rfl
 rw[cF,aa,e1]
 dsimp only
 rw[cond_false,b9,aa,b9,aa,ad]
 dsimp only
 rw[aa,e2]
 dsimp only
 rw[e]
 rfl
def CO.zz:CO→Nat
 |.reg _ y=>y
 |.ah=>8
 |.mem _ _ _ y=>y
 |.imm _=>0
theorem JV{r:Rw}(g:r.Good){t:Nat}{H:Hp}(ht:H[t]?=some (.dcs bO)):ab T 1 (fnOf "_law_sets") [r.told,.ref t] H=some (.lst (fL r.st),H):=by
 have hv:r.told=.tup [.str (jg r.i),.str "",.tup (r.cos.map CO.told)]:=by unfold Rw.told CS;rw[g.nm]
 rw[hv]
 by_cases h:r.i∈tR
 ·obtain⟨o,c,hc,q⟩:=qN g h
  rw[hc]
  show ab T 1 (fnOf "_law_sets") [.tup [.str (jg r.i),.str "",.tup [o.told,c.told]],.ref t] H=_
  rw[bg (Kj (.ref t) o.told c.told H) _ h]
  have sz:(∃ n z,n∈eN∧z∈aL∧o=.reg n z)∨o=.ah∨(∃ b x d z,o=.mem b x d z)→∀ z:Nat,o.zz=z→ifT (aO .Eq (aq (ret o.told) (ret (.int 0))) (ret (.str "mem"))) (aq (ret o.told) (ret (.int 5))) (aq (aq (ret (.ref t)) (aq (ret o.told) (ret (.int 1)))) (ret (.int 1))) H=some (.int (z:Int),H):=by
   intro q z hz
   rcases q with⟨n,z',hn,hz',rfl⟩|rfl|⟨b,x,d,z',rfl⟩
   ·dsimp only[CO.zz] at hz
    subst hz
    exact th (gP ht (rD (u9 _ hn) hz'))
   ·dsimp only[CO.zz] at hz
    subst hz
    exact th (a:=.int 0) (k:=.int 8) (gP ht (by kernel_rfl))
   ·dsimp only[CO.zz] at hz
    subst hz
    exact Cu _ _ _ _ _ _ _ _ H
  rcases q with⟨z,v,hz,hv,rfl,hst,q⟩|⟨n,z,rfl,hst,q⟩
  ·rw[Bl (sz (by
    rcases q with⟨n,hn,rfl⟩|⟨rfl,rfl⟩|⟨b,x,d,rfl⟩
    ·exact .inl ⟨_,_,hn,hz,rfl⟩
    ·exact .inr (.inl rfl)
    ·exact .inr (.inr ⟨_,_,_,_,rfl⟩)) z (by
    rcases q with⟨n,hn,rfl⟩|⟨rfl,rfl⟩|⟨b,x,d,rfl⟩<;>rfl)),hst]
   exact jV (Ff H) _ h _ hz _ hv
  ·rw[Bl (sz q _ rfl),hst]
   exact Et _ _ _ H
 ·obtain⟨h1,h2⟩:=Es g h
  rw[h2]
  exact bg (MJ _ _ H) _ h1
def FO(cl:Fn→List MV→M MV)(row:MV):M MV:=
 kZ [i5 "name" (ret row),i5 "prefix" (ret row),cU "tuple" [bw (eP (i5 "operands" (ret row))) fun c=>bn (ret true) (bk cl (ret c) "told" [])]]
theorem LJ(cl:Fn→List MV→M MV)(n os:MV)(H:Hp):an T cl (ed "Instruction" "told") [bt n os] H=FO cl (bt n os) H:=by kernel_rfl
theorem K0(cl:Fn→List MV→M MV)(n os:MV)(H:Hp):bk cl (ret (bt n os)) "told" [] H=cl (ed "Instruction" "told") [bt n os] H:=by kernel_rfl
theorem Ft(cl:Fn→List MV→M MV)(v:MV)(H:Hp):bk cl (ret (jy v)) "told" [] H=cl (ed "Reg" "told") [jy v] H:=by kernel_rfl
theorem Ls(cl:Fn→List MV→M MV)(v:MV)(H:Hp):bk cl (ret (jT v)) "told" [] H=cl (ed "Imm" "told") [jT v] H:=by kernel_rfl
theorem HK(cl:Fn→List MV→M MV)(b x s d z:MV)(H:Hp):bk cl (ret (nS b x s d z)) "told" [] H=cl (ed "Mem" "told") [nS b x s d z] H:=by kernel_rfl
theorem IU(w x y d s z z':MV)(H:Hp):ab T 1 (ed "Mem" "told") [nS (.inst "Register" [("name",w),("kind",x),("number",y),("size",z')]) .none s d z] H=some (.tup [.str "mem",w,.str "",s,d,z,.str "",.str ""],H):=by kernel_rfl
theorem Ka(w x y d s z u w' x' y' z':MV)(H:Hp):ab T 1 (ed "Mem" "told") [nS (.inst "Register" [("name",w),("kind",x),("number",y),("size",u)]) (.inst "Register" [("name",w'),("kind",x'),("number",y'),("size",z')]) s d z] H=some (.tup [.str "mem",w,w',s,d,z,.str "",.str ""],H):=by kernel_rfl
theorem Jg(co:CO){c:Nat}(hc:1≤c)(H:Hp):bk (ab T c) (ret co.val) "told" [] H=some (co.told,H):=by
 cases co with
 |reg n z=>exact(Ft _ _ _).trans (lift hc (v7 "gpr" _ H (.str (cq n z)) (.int (n:Int))))
 |ah=>exact(Ft _ _ _).trans (lift hc (v7 "high" _ H (.str "ah") (.int 4)))
 |mem b x d z=>
  cases x with
  |none=>exact(HK _ _ _ _ _ _ _).trans (lift hc (IU _ _ _ _ _ _ _ H))
  |some y=>exact(HK _ _ _ _ _ _ _).trans (lift hc (Ka _ _ _ _ _ _ _ _ _ _ _ H))
 |imm v=>exact(Ls _ _ _).trans (lift hc (FM H _))
theorem Ny{r:Rw}(h:r.Ok):r.cos.length≤100000:=by
 have:(kY.all fun n=>Nat.ble n.ar 3)=true:=by decide+kernel
 have:=List.all_eq_true.mp this r.n (List.mem_of_getElem? h.n)
 rw[h.ar]
 exact Nat.le_trans (Nat.le_of_ble_eq_true this) (by decide)
theorem vY{r:Rw}(h:r.Ok){c:Nat}(hc:2≤c)(H:Hp):bk (ab T c) (ret r.val) "told" [] H=some (r.told,H):=by
 obtain⟨c,rfl⟩:∃ d,c=d+1:=⟨c - 1,by omega⟩
 unfold Rw.val
 rw[K0]
 show an T (ab T c) _ _ H=_
 rw[LJ]
 have hl:=Ny h
 have e1:i5 "name" (ret (bt (.str r.n.nm) (.tup (r.cos.map CO.val)))) H=some (.str r.n.nm,H):=by kernel_rfl
 have e2:i5 "prefix" (ret (bt (.str r.n.nm) (.tup (r.cos.map CO.val)))) H=some (.str "",H):=by kernel_rfl
 have e3:i5 "operands" (ret (bt (.str r.n.nm) (.tup (r.cos.map CO.val)))) H=some (.tup (r.cos.map CO.val),H):=by kernel_rfl
 have e4:eP (i5 "operands" (ret (bt (.str r.n.nm) (.tup (r.cos.map CO.val))))) H=some (r.cos.map CO.val,H):=by
  unfold eP
  rw[aa,e3]
  show(bif bZ (r.cos.map CO.val) then ret (r.cos.map CO.val) else fail) H=_
  rw[bN (by simpa using hl)];rfl
 have e5:bQ (fun c'=>bn (ret true) (bk (ab T c) (ret c') "told" [])) (r.cos.map CO.val) H=some (r.cos.map CO.told,H):=by
  have:∀ l:List CO,bQ (fun c'=>bn (ret true) (bk (ab T c) (ret c') "told" [])) (l.map CO.val) H=some (l.map CO.told,H):=fun l=>by
   induction l with
   |nil=>rfl
   |cons a l ih=>
    show bnd (bn (ret true) (bk (ab T c) (ret a.val) "told" [])) (fun o=>bnd (bQ (fun c'=>bn (ret true) (bk (ab T c) (ret c') "told" [])) (l.map CO.val)) fun ys=>ret (o.toList++ys)) H=_
    rw[aa,dR,aa,ad]
    dsimp only
    rw[cond_true,aa,Jg a (by omega)]
    dsimp only
    rw[ad]
    dsimp only
    rw[aa,ih]
    rfl
  exact this r.cos
 unfold FO
 rw[u6,aa,aJ,aa,e1]
 dsimp only
 rw[aa,aJ,aa,e2]
 dsimp only
 rw[aa,aJ,aa,J0,aa,aJ,aa]
 unfold bw
 rw[aa,e4]
 dsimp only
 rw[aa,e5]
 dsimp only
 rw[ad]
 dsimp only
 rw[aa,bC]
 dsimp only
 rw[ad]
 dsimp only
 have e6:builtin "tuple" [.lst (r.cos.map CO.told)] H=some (.tup (r.cos.map CO.told),H):=by
  have:builtin "tuple" [.lst (r.cos.map CO.told)] H=(bif bZ (r.cos.map CO.told) then some (.tup (r.cos.map CO.told),H) else none):=by kernel_rfl
  rw[this,bN (by simpa using hl)];rfl
 rw[e6]
 rfl
theorem Lc:(rZ.all fun i=>cO [0,1,31,33,55,62,63,64] (Iv i))=true:=by decide+kernel
theorem Gq{r:Rw}(g:r.Good):r.st∈[0,1,31,33,55,62,63,64]:=by
 have h:=cb (List.all_eq_true.mp Lc r.i g.all)
 by_cases hs:r.i∈tR
 ·obtain⟨o,c,_,q⟩:=qN g hs
  rcases q with⟨z,v,_,_,_,hst,_⟩|⟨_,_,_,hst,_⟩
  ·rw[hst]
   unfold Kp
   cases Nat.beq (FY z v) 0 with
   |true=>exact .head _
   |false=>exact h
  ·rw[hst];exact .head _
 ·rw[(Es g hs).2];exact h
theorem IV:((List.range 128).flatMap fun c=>([0,1,31,33,55,62,63,64]:List Nat).map fun s=>bF .BitAnd (.int (c:Nat)) (.int (-(s:Nat) - 1)))=(List.range 128).flatMap fun c=>([0,1,31,33,55,62,63,64]:List Nat).map fun s=>some (.int ((c&&& (127^^^s):Nat):Int)):=by kernel_rfl
def Nz(cl:Fn→List MV→M MV)(row live:MV):M MV:=
 bu .BitOr (bu .BitAnd (ret live) (Ou .Invert (ai cl "sure_mask" [ret row]))) (ai cl "flag_mask" [ai cl "reads_flags" [i5 "name" (ret row)]])
theorem Op(cl:Fn→List MV→M MV)(row live:MV)(H:Hp):an T cl (fnOf "flags_before") [row,live] H=Nz cl row live H:=by kernel_rfl
theorem NK{r:Rw}(g:r.Good){L:Nat}(hL:L < 128)(H:Hp):ab T 6 (fnOf "flags_before") [r.val,.int (L:Int)] H=some (.int (r.bef L:Nat),H):=by
 show an T (ab T 5) _ _ H=_
 rw[Op]
 unfold Nz
 have e1:i5 "name" (ret r.val) H=some (.str (jg r.i),H):=by
  rw[←g.nm]
  exact(by kernel_rfl:i5 "name" (ret (bt (.str r.n.nm) (.tup (r.cos.map CO.val)))) H=some (.str r.n.nm,H))
 have e2:ab T 5 (fnOf "reads_flags") [.str (jg r.i)] H=some (.lst (fL (He r.i)),H):=bg (IB H) _ g.all
 have hlk:He r.i < 128:=by rw[←g.lk];exact g.ok.lk
 have e3:ab T 5 (fnOf "flag_mask") [.lst (fL (He r.i))] H=some (.int (He r.i:Nat),H):=lift (by decide) (bg (HO H) _ (List.mem_range.mpr hlk))
 rw[bI,aa,bI,aa,ad]
 dsimp only
 rw[aa,LU,aa,cM,Ix g]
 dsimp only
 have e4:opt (uC .Invert (.int (r.st:Nat))) H=some (.int (-(r.st:Nat) - 1),H):=rfl
 rw[e4]
 dsimp only
 rw[iJ IV L (List.mem_range.mpr hL) _ (Gq g)]
 show bnd (ai (ab T 5) "flag_mask" [ai (ab T 5) "reads_flags" [i5 "name" (ret r.val)]]) (fun b=>opt (bF .BitOr (.int ((L&&& (127^^^r.st):Nat):Int)) b)) H=_
 rw[aa,dC,aa,aJ,aa,dC,aa,aJ,aa,e1]
 dsimp only
 rw[aa,bC]
 dsimp only
 rw[ad]
 dsimp only
 rw[e2]
 dsimp only
 rw[aa,bC]
 dsimp only
 rw[ad]
 dsimp only
 rw[e3]
 dsimp only
 rw[HH,←g.lk]
 rfl
def gK:List MV:=(List.range 7).map fun j=>.str (bc j)
theorem B8(H:Hp):((List.range 7).map fun(k:Nat)=>aq (ret (.lst gK)) (ret (.int (k:Int))) H)=(List.range 7).map fun k=>some (.str (bc k),H):=by kernel_rfl
def G7(order counted:MV):M MV:=bw (ee [cU "len" [ret order]]) fun k=>bn (xu (aO .Eq (bu .BitAnd (bu .RShift (ret counted) (ret k)) (ret (.int 1))) (ret (.int 0))) (ret true)) (aq (ret order) (ret k))
def tT(cl:Fn→List MV→M MV)(rows order found:MV):List MV→MV→M MV
 |[],_=>dU (bk cl (ret found) "reverse" []) (ret found)
 |p::ps,counted=>dU (bk cl (ret found) "append" [G7 order counted]) (bnd (ai cl "flags_before" [aq (ret rows) (ret p),ret counted]) (tT cl rows order found ps))
def ua:Nat→List MV
 |0=>[]
 |n+1=>.int (n:Int)::ua n
def jo(cl:Fn→List MV→M MV)(vs:List MV)(live:MV):M MV:=
 bnd (ai cl "flag_mask" [ret live]) fun counted=>bnd (r9 []) fun found=>tT cl (.lst vs) (.lst gK) found (ua vs.length) counted
section
variable(cl:Fn→List MV→M MV)(a b c d e f live:MV)(H:Hp)
theorem I7:an T cl (fnOf "dead_flags") [.lst [a],live] H=jo cl [a] live H:=by kernel_rfl
theorem Jq:an T cl (fnOf "dead_flags") [.lst [a,b],live] H=jo cl [a,b] live H:=by kernel_rfl
theorem JZ:an T cl (fnOf "dead_flags") [.lst [a,b,c],live] H=jo cl [a,b,c] live H:=by kernel_rfl
theorem IY:an T cl (fnOf "dead_flags") [.lst [a,b,c,d],live] H=jo cl [a,b,c,d] live H:=by kernel_rfl
theorem Jy:an T cl (fnOf "dead_flags") [.lst [a,b,c,d,e],live] H=jo cl [a,b,c,d,e] live H:=by kernel_rfl
theorem Jf:an T cl (fnOf "dead_flags") [.lst [a,b,c,d,e,f],live] H=jo cl [a,b,c,d,e,f] live H:=by kernel_rfl
end
theorem Mt(cl:Fn→List MV→M MV){vs:List MV}(h0:vs≠[])(h1:vs.length≤6)(live:MV)(H:Hp):an T cl (fnOf "dead_flags") [.lst vs,live] H=jo cl vs live H:=by
 match vs,h0,h1 with
 |[a],_,_=>exact I7 _ _ _ H
 |[a,b],_,_=>exact Jq _ _ _ _ H
 |[a,b,c],_,_=>exact JZ _ _ _ _ _ H
 |[a,b,c,d],_,_=>exact IY _ _ _ _ _ _ H
 |[a,b,c,d,e],_,_=>exact Jy _ _ _ _ _ _ _ H
 |[a,b,c,d,e,f],_,_=>exact Jf _ _ _ _ _ _ _ _ H
 |[],h,_=>exact absurd rfl h
 |_::_::_::_::_::_::_::_,_,h=>simp at h
theorem hW{H:Hp}{f:MV→M (Option MV)}{p:Nat→Bool}{g:Nat→MV}:∀ {ks:List Nat},(∀ k∈ks,f (.int (k:Int)) H=some (bif p k then some (g k) else none,H))→bQ f (ks.map fun(k:Nat)=>.int (k:Int)) H=some ((ks.filter p).map g,H)
 |[],_=>rfl
 |k::ks,h=>by
  show bnd (f (.int (k:Int))) (fun o=>bnd (bQ f (ks.map fun(k:Nat)=>MV.int (k:Int))) fun ys=>ret (o.toList++ys)) H=_
  rw[aa,h k List.mem_cons_self]
  dsimp only
  rw[aa,hW fun j hj=>h j (List.mem_cons_of_mem _ hj)]
  simp only[List.filter_cons]
  cases p k<;>rfl
theorem LX{m k:Nat}(hk:k < 1000):bF .RShift (.int (m:Int)) (.int (k:Int))=some (.int ((m / 2 ^ k:Nat):Int)):=by
 show(bif jd (k:Int) then some (MV.int ((m:Int).fdiv (2 ^ (k:Int).toNat))) else none)=_
 have:jd (k:Int)=true:=by
  unfold jd
  rw[decide_eq_true (by omega),decide_eq_true (by omega)];rfl
 rw[this,cond_true,Int.toNat_natCast,Int.fdiv_eq_ediv_of_nonneg _ (Int.le_of_lt (Int.pow_pos (by decide)))]
 rfl
theorem J5{m:Nat}:bF .BitAnd (.int (m:Int)) (.int 1)=some (.int ((m % 2:Nat):Int)):=by
 rw[KC,PyProof.Rows.bitAnd_pp (Int.natCast_nonneg _) (by decide),Int.toNat_natCast]
 show some (MV.int ((m&&& 1:Nat):Int))=_
 rw[Nat.and_one_is_mod]
theorem F7{L:Nat}(hL:L < 128)(H:Hp):G7 (.lst gK) (.int (L:Int)) H=some (.lst (fL (127^^^L)),H):=by
 unfold G7 bw
 have e0:ee [cU "len" [ret (.lst gK)]] H=some ((List.range 7).map fun(k:Nat)=>.int (k:Int),H):=by kernel_rfl
 rw[aa,e0]
 dsimp only
 rw[aa,hW (p:=fun k=>!(L.testBit k)) (g:=fun k=>.str (bc k)) fun k hk=>?_]
 ·dsimp only
  rw[ad]
  unfold fL
  rw[List.filter_congr (q:=fun j=>(127^^^L).testBit j) fun k hk=>?_]
  have hk:=List.mem_range.mp hk
  rw[Nat.testBit_xor,Au hk,Bool.true_xor]
 ·have hk:=List.mem_range.mp hk
  have e3:(((L / 2 ^ k % 2:Nat):Int)==0)=!(L.testBit k):=by
   rw[Nat.testBit_eq_decide_div_mod_eq,Bool.eq_iff_iff,beq_iff_eq,Bool.not_eq_true',decide_eq_false_iff_not]
   omega
  have e4:aO .Eq (bu .BitAnd (bu .RShift (ret (.int (L:Int))) (ret (.int (k:Int)))) (ret (.int 1))) (ret (.int 0)) H=some (!(L.testBit k),H):=by
   simp only[bS,bI,aa,ad,kT,LX (show k < 1000 by omega),J5,D9,e3]
  have e5:aq (ret (.lst gK)) (ret (.int (k:Int))) H=some (.str (bc k),H):=bg (B8 H) k (List.mem_range.mpr hk)
  rw[dR,aa,mv,aa,e4]
  dsimp only
  cases L.testBit k with
  |true=>rfl
  |false=>
   show(match some (true,H) with
    |none=>none
    |some (a,h')=>(bif a then bnd (aq (ret (.lst gK)) (ret (.int (k:Int)))) fun y=>ret (some y) else ret none:M (Option MV)) h')=_
   dsimp only
   rw[cond_true,aa,e5];rfl
def ch(rs:List Rw)(L:Nat)(j:Nat):MV:=.lst (fL (127^^^pY (rs.drop (j+1)) L))
theorem FN{H:Hp}{l:List MV}{v:MV}(hl:l.length≤100000)(cl:Fn→List MV→M MV){X:M MV}(hX:X (H++[.lst l])=some (v,H++[.lst l]))(K:M MV):dU (bk cl (ret (.ref H.length)) "append" [X]) K (H++[.lst l])=K (H++[.lst (l++[v])]):=by
 have g:(H++[MO.lst l])[H.length]?=some (.lst l):=by simp
 have e1:dI (.ref H.length) "append" (H++[.lst l])=some (1,H++[.lst l]):=by
  simp only[dI,g];rfl
 have e2:bx 1 (.ref H.length) "append" [v] (H++[.lst l])=some (.none,H++[.lst (l++[v])]):=by
  simp only[bx,g]
  rw[bN hl]
  have:=uB H [.lst l] 0 (.lst (l++[v]))
  rw[Nat.add_zero] at this
  rw[this];rfl
 rw[gS,aa]
 have e3:bk cl (ret (.ref H.length)) "append" [X] (H++[.lst l])=some (.none,H++[.lst (l++[v])]):=by
  rw[nW,aa,ad]
  dsimp only
  rw[aa,e1]
  dsimp only
  rw[aa,aJ,aa,hX]
  dsimp only
  rw[aa,bC]
  dsimp only
  rw[ad]
  dsimp only
  rw[e2]
 rw[e3]
theorem HL{H:Hp}{l:List MV}(hl:l.length≤100000)(cl:Fn→List MV→M MV)(K:M MV):dU (bk cl (ret (.ref H.length)) "reverse" []) K (H++[.lst l])=K (H++[.lst l.reverse]):=by
 have g:(H++[MO.lst l])[H.length]?=some (.lst l):=by simp
 have e1:dI (.ref H.length) "reverse" (H++[.lst l])=some (1,H++[.lst l]):=by
  simp only[dI,g];rfl
 have e2:bx 1 (.ref H.length) "reverse" [] (H++[.lst l])=some (.none,H++[.lst l.reverse]):=by
  simp only[bx,g]
  rw[bN hl]
  have:=uB H [.lst l] 0 (.lst l.reverse)
  rw[Nat.add_zero] at this
  rw[this];rfl
 rw[gS,aa]
 have e3:bk cl (ret (.ref H.length)) "reverse" [] (H++[.lst l])=some (.none,H++[.lst l.reverse]):=by
  rw[nW,aa,ad]
  dsimp only
  rw[aa,e1]
  dsimp only
  rw[aa,bC]
  dsimp only
  rw[e2]
 rw[e3]
theorem sV{rs:List Rw}(g:∀ r∈rs,r.Good)(hn:rs.length≤6){L:Nat}(hL:L < 128)(H:Hp):∀ (p:Nat) (acc:List MV),p≤rs.length→acc.length+p≤6→tT (ab T 6) (.lst (rs.map Rw.val)) (.lst gK) (.ref H.length) (ua p) (.int (pY (rs.drop p) L:Nat)) (H++[.lst acc])=some (.ref H.length,H++[.lst ((acc++(List.range p).reverse.map (ch rs L)).reverse)])
 |0,acc,_,ha=>by
  simp only[ua,tT]
  rw[HL (by omega)]
  simp[ad]
 |p+1,acc,hp,ha=>by
  have hp':p < rs.length:=hp
  have hok:∀ r∈rs.drop (p+1),r.Ok:=fun r hr=>(g r (List.mem_of_mem_drop hr)).ok
  have hb:=vI hok hL
  simp only[ua,tT]
  rw[FN (by omega) _ (F7 hb _)]
  have e1:aq (ret (.lst (rs.map Rw.val))) (ret (.int (p:Int))) (H++[.lst (acc++[.lst (fL (127^^^pY (rs.drop (p+1)) L))])])=some ((rs[p]).val,H++[.lst (acc++[.lst (fL (127^^^pY (rs.drop (p+1)) L))])]):=by
   have h1:bZ (rs.map Rw.val)=true:=bN (by simp;omega)
   show(match getItem _ (.lst (rs.map Rw.val)) (.int (p:Int)) with
    |none=>none
    |some v=>some (v,_))=_
   simp only[getItem,D6,h1,decide_eq_true (show(0:Int)≤p by omega),Int.toNat_natCast,Bool.and_self,cond_true,List.getElem?_map,List.getElem?_eq_getElem hp',Option.map_some]
  rw[aa,dC,aa,aJ,aa,e1]
  dsimp only
  rw[aa,aJ,aa,ad]
  dsimp only
  rw[aa,bC]
  dsimp only
  rw[ad]
  dsimp only
  rw[ad]
  dsimp only
  rw[NK (g _ (List.getElem_mem hp')) hb]
  dsimp only
  have e2:pY (rs.drop p) L=(rs[p]).bef (pY (rs.drop (p+1)) L):=by
   rw[List.drop_eq_getElem_cons hp'];rfl
  rw[←e2,sV g hn hL H p _ (by omega) (by simp;omega)]
  rw[List.range_succ]
  simp only[List.reverse_append,List.append_assoc,List.reverse_cons,List.reverse_nil,List.nil_append,List.map_cons,List.cons_append]
  rfl
theorem Kf{rs:List Rw}(g:∀ r∈rs,r.Good)(h0:rs≠[])(hn:rs.length≤6){L:Nat}(hL:L < 128)(H:Hp):ab T 7 (fnOf "dead_flags") [.lst (rs.map Rw.val),.lst (fL L)] H=some (.ref H.length,H++[.lst ((List.range rs.length).map (ch rs L))]):=by
 show an T (ab T 6) _ _ H=_
 rw[Mt _ (by simpa using h0) (by simpa using hn)]
 unfold jo
 rw[aa,cM,lift (show 1≤6 by decide) (bg (HO H) _ (List.mem_range.mpr hL))]
 dsimp only
 rw[aa]
 show tT _ _ _ (.ref H.length) (ua (rs.map Rw.val).length) (.int (L:Nat)) (H++[.lst []])=_
 have:=sV g hn hL H rs.length [] (Nat.le_refl _) (by simpa using hn)
 rw[List.drop_length] at this
 rw[List.length_map]
 refine this.trans ?_
 simp
def CG:Stmt→List Stmt
 |.For _ _ b _ _=>b
 |_=>[]
def Nn:Stmt→PySem.Expr
 |.For t _ _ _ _=>t
 |_=>.Constant .none 0 ⟨0,0,0,0⟩
def eJ(l:List Stmt)(k:Nat):Stmt:=(l[k]?).getD (.Pass ⟨0,0,0,0⟩)
def dc(cl:Fn→List MV→M MV)(g:Nat)(f:Fn)(s:Stmt)(k:Ev→M MV)(vs:List MV)(ρ:Ev):M MV:=mq (eU T cl g) f.scope (Nn s) (CG s) k vs ρ
theorem te(cl:Fn→List MV→M MV)(g:Nat)(f:Fn)(s:Stmt)(k:Ev→M MV)(ρ:Ev):dc cl g f s k [] ρ=k ρ:=rfl
def jb(cl:Fn→List MV→M MV)(g:Nat)(f:Fn)(s:Stmt)(v:MV)(ρ:Ev)(k:Ev→M MV):M MV:=bnd (opt ((oA (Nn s) v).bind fun ps=>bb f.scope ps ρ)) fun ρ'=>(eU T cl g).ex f.scope (CG s) ρ' k
theorem dq(cl:Fn→List MV→M MV)(g:Nat)(f:Fn)(s:Stmt)(k:Ev→M MV)(v:MV)(vs:List MV)(ρ:Ev):dc cl g f s k (v::vs) ρ=jb cl g f s v ρ (dc cl g f s k vs):=rfl
def KF:Fn:=fnOf "_law_is_dead"
def Gc(a b c d e:MV)(x:Option MV):Ev:=[("looks",some a),("sets",some b),("place",some c),("flag",some d),("live",some e),("later",x)]
def Eu(cl:Fn→List MV→M MV)(ρ:Ev):M MV:=fC T (eU T cl 19) KF.scope (KF.body.drop 1) ρ fun _=>ret .none
theorem NP(cl:Fn→List MV→M MV)(a b c d e:MV)(H:Hp):an T cl (fnOf "_law_is_dead") [a,b,c,d,e] H=bnd (ee [bu .Add (ret c) (ret (.int 1)),cU "len" [ret a]]) (fun vs=>dc cl 19 KF (eJ KF.body 0) (Eu cl) vs (Gc a b c d e none)) H:=by kernel_rfl
theorem My(cl:Fn→List MV→M MV)(a b c d e v:MV)(x:Option MV)(K:Ev→M MV)(H:Hp):jb cl 19 KF (eJ KF.body 0) v (Gc a b c d e x) K H=ifT (aO .In (ret d) (aq (ret a) (ret v))) (ret (.bool false)) (ifT (aO .In (ret d) (aq (ret b) (ret v))) (ret (.bool true)) (K (Gc a b c d e (some v)))) H:=by kernel_rfl
theorem Ml(cl:Fn→List MV→M MV)(a b c d e:MV)(x:Option MV)(H:Hp):Eu cl (Gc a b c d e x) H=lh (aO .NotIn (ret d) (ret e)) H:=by kernel_rfl
theorem Lf(H:Hp):((List.range 128).flatMap fun m=>(List.range 7).map fun j=>aO .In (ret (.str (bc j))) (ret (.lst (fL m))) H)=(List.range 128).flatMap fun m=>(List.range 7).map fun j=>some (m.testBit j,H):=by kernel_rfl
theorem KA{m j:Nat}(hm:m < 128)(hj:j < 7)(H:Hp):aO .In (ret (.str (bc j))) (ret (.lst (fL m))) H=some (m.testBit j,H):=iJ (Lf H) m (List.mem_range.mpr hm) j (List.mem_range.mpr hj)
theorem E2{m j:Nat}(hm:m < 128)(hj:j < 7)(H:Hp):aO .NotIn (ret (.str (bc j))) (ret (.lst (fL m))) H=some (!(m.testBit j),H):=by
 have h:=KA hm hj H
 have e1:aO .In (ret (.str (bc j))) (ret (.lst (fL m))) H=(match Ad H (.str (bc j)) (.lst (fL m)) with
  |none=>none
  |some x=>some (x,H)):=rfl
 have e2:aO .NotIn (ret (.str (bc j))) (ret (.lst (fL m))) H=(match (Ad H (.str (bc j)) (.lst (fL m))).map (!·) with
  |none=>none
  |some x=>some (x,H)):=rfl
 rw[e1] at h
 rw[e2]
 cases q:Ad H (.str (bc j)) (.lst (fL m)) with
 |none=>rw[q] at h;cases h
 |some x=>
  rw[q] at h
  simp only[Option.some.injEq,Prod.mk.injEq,and_true] at h
  rw[h];rfl
theorem pD{α:Type}{f:α→MV}{l:List α}(hl:l.length≤100000){p:Nat}(hp:p < l.length)(H:Hp):aq (ret (.lst (l.map f))) (ret (.int (p:Int))) H=some (f (l[p]),H):=by
 have h1:bZ (l.map f)=true:=bN (by simpa using hl)
 show(match getItem _ (.lst (l.map f)) (.int (p:Int)) with
  |none=>none
  |some v=>some (v,_))=_
 simp only[getItem,D6,h1,decide_eq_true (show(0:Int)≤p by omega),Int.toNat_natCast,Bool.and_self,cond_true,List.getElem?_map,List.getElem?_eq_getElem hp,Option.map_some]
theorem HW{α:Type}{f:α→Nat}{l:List α}(hl:l.length≤100000){p:Nat}(hp:p < l.length){j:Nat}(hj:j < 7)(hm:f (l[p]) < 128)(H:Hp):aO .In (ret (.str (bc j))) (aq (ret (.lst (l.map fun r=>.lst (fL (f r))))) (ret (.int (p:Int)))) H=some ((f (l[p])).testBit j,H):=by
 have:=KA hm hj H
 rw[bS,aa,ad] at this ⊢
 dsimp only at this ⊢
 rw[aa,ad] at this
 rw[aa,pD hl hp]
 exact this
def gE:Nat→Nat→List MV
 |_,0=>[]
 |q,m+1=>.int (q:Int)::gE (q+1) m
theorem Cd:∀ (m q:Nat),gE q m=(List.range m).map fun(k:Nat)=>.int ((q:Int)+(k:Int))
 |0,_=>rfl
 |m+1,q=>by
  rw[List.range_succ_eq_map,List.map_cons,List.map_map,gE,Cd m (q+1)]
  exact congr (congrArg List.cons (congrArg MV.int (by omega))) (List.map_congr_left fun k _=>congrArg MV.int (by omega))
theorem rO{q n:Nat}:di (q:Int) (n:Int)=gE q (n - q):=by
 rw[Cd]
 unfold di
 rw[show((n:Int) - (q:Int)).toNat=n - q by omega]
theorem GS{n:Nat}:di 0 (n:Int)=gE 0 n:=rO (q:=0)
theorem ki{n:Nat}(h:n≤1000):small (n:Int)=true:=by
 unfold small
 rw[decide_eq_true (by omega),decide_eq_true (by omega)];rfl
theorem M0{r:Rw}(g:r.Good):r.st < 128:=by
 have:=Gq g
 simp only[List.mem_cons,List.not_mem_nil,or_false] at this
 omega
def fz(rs:List Rw):MV:=.lst (rs.map fun r=>.lst (fL r.n.lk))
def oU(rs:List Rw):MV:=.lst (rs.map fun r=>.lst (fL r.st))
theorem JA{r:Rw}(g:r.Good){L j:Nat}(hj:j < 7):(r.bef L).testBit j=(r.n.lk.testBit j||(!(r.st.testBit j)&&L.testBit j)):=by
 unfold Rw.bef
 rw[Nat.testBit_or,Nat.testBit_and,Nat.testBit_xor,Au hj,Bool.true_xor,Bool.or_comm,Bool.and_comm]
theorem xR{rs:List Rw}(g:∀ r∈rs,r.Good)(hn:rs.length≤6){L:Nat}(hL:L < 128){j:Nat}(hj:j < 7)(cl:Fn→List MV→M MV)(c:MV)(H:Hp):∀ (m q:Nat) (x:Option MV),q+m=rs.length→dc cl 19 KF (eJ KF.body 0) (Eu cl) (gE q m) (Gc (fz rs) (oU rs) c (.str (bc j)) (.lst (fL L)) x) H=some (.bool (!((pY (rs.drop q) L).testBit j)),H)
 |0,q,x,e=>by
  rw[gE,te,Ml,lh,aa,E2 hL hj]
  dsimp only
  rw[List.drop_of_length_le (by omega)]
  rfl
 |m+1,q,x,e=>by
  have hq:q < rs.length:=by omega
  have gq:=g _ (List.getElem_mem hq)
  rw[gE,dq,My,cF,aa]
  unfold fz oU
  rw[HW (by omega) hq hj gq.ok.lk]
  dsimp only
  rw[List.drop_eq_getElem_cons hq]
  show _=some (MV.bool (!((rs[q].bef (pY (rs.drop (q+1)) L)).testBit j)),H)
  rw[JA gq hj]
  cases rs[q].n.lk.testBit j with
  |true=>rfl
  |false=>
   rw[cond_false,cF,aa,HW (f:=Rw.st) (by omega) hq hj (M0 gq)]
   dsimp only
   cases rs[q].st.testBit j with
   |true=>rfl
   |false=>
    rw[cond_false]
    exact xR g hn hL hj cl c H m (q+1) _ (by omega)
theorem p6{l:List MV}(hl:l.length≤100000)(H:Hp):cU "len" [ret (.lst l)] H=some (.int (l.length:Int),H):=by
 have h:cU "len" [ret (.lst l)] H=(match (bif bZ l then some (MV.int l.length) else none) with
  |none=>none
  |some v=>some (v,H)):=by kernel_rfl
 rw[h,bN hl];rfl
theorem Mq{rs:List Rw}(g:∀ r∈rs,r.Good)(hn:rs.length≤6){L:Nat}(hL:L < 128){j:Nat}(hj:j < 7)(cl:Fn→List MV→M MV){p:Nat}(hp:p < rs.length)(H:Hp):an T cl (fnOf "_law_is_dead") [fz rs,oU rs,.int (p:Int),.str (bc j),.lst (fL L)] H=some (.bool ((127^^^pY (rs.drop (p+1)) L).testBit j),H):=by
 rw[NP,aa]
 have e1:ee [bu .Add (ret (.int (p:Int))) (ret (.int 1)),cU "len" [ret (fz rs)]] H=some (gE (p+1) (rs.length - (p+1)),H):=by
  have el:cU "len" [ret (fz rs)] H=some (.int (rs.length:Int),H):=by
   unfold fz
   rw[p6 (by simp;omega),List.length_map]
  have ea:bu .Add (ret (.int (p:Int))) (ret (.int 1)) H=some (.int ((p+1:Nat):Int),H):=rfl
  unfold ee
  rw[aa,aJ,aa,ea]
  dsimp only
  rw[aa,aJ,aa,el]
  dsimp only
  rw[aa,bC]
  dsimp only
  rw[ad]
  dsimp only
  rw[ad]
  dsimp only
  have er:dN [.int ((p+1:Nat):Int),.int (rs.length:Int)]=some (gE (p+1) (rs.length - (p+1))):=by
   show(bif small ((p+1:Nat):Int)&&small (rs.length:Int) then some (di ((p+1:Nat):Int) (rs.length:Int)) else none)=_
   rw[ki (by omega),ki (by omega),rO];rfl
  rw[er];rfl
 rw[e1]
 dsimp only
 rw[xR g hn hL hj cl _ H _ _ _ (by omega),Nat.testBit_xor,Au hj,Bool.true_xor]
theorem mC{H:Hp}{f:MV→M (Option MV)}{p:Nat→Bool}{g:Nat→MV}:∀ {ks:List Nat},(∀ k∈ks,f (g k) H=some (bif p k then some (g k) else none,H))→bQ f (ks.map g) H=some ((ks.filter p).map g,H)
 |[],_=>rfl
 |k::ks,h=>by
  show bnd (f (g k)) (fun o=>bnd (bQ f (ks.map g)) fun ys=>ret (o.toList++ys)) H=_
  rw[aa,h k List.mem_cons_self]
  dsimp only
  rw[aa,mC fun j hj=>h j (List.mem_cons_of_mem _ hj)]
  simp only[List.filter_cons]
  cases p k<;>rfl
def Lx(cl:Fn→List MV→M MV)(names looks sets place live:MV):M MV:=bw (eP (ret names)) fun c=>bn (xu (bnd (ai cl "_law_is_dead" [ret looks,ret sets,ret place,ret c,ret live]) cI) (ret true)) (ret c)
theorem JF{rs:List Rw}(g:∀ r∈rs,r.Good)(hn:rs.length≤6){L:Nat}(hL:L < 128){c:Nat}(hc:1≤c){p:Nat}(hp:p < rs.length)(H:Hp):Lx (ab T c) (.lst gK) (fz rs) (oU rs) (.int (p:Int)) (.lst (fL L)) H=some (ch rs L p,H):=by
 obtain⟨c,rfl⟩:∃ d,c=d+1:=⟨c - 1,by omega⟩
 unfold Lx bw
 have e0:eP (ret (.lst gK)) H=some (gK,H):=by kernel_rfl
 rw[aa,e0]
 dsimp only
 unfold gK
 rw[aa,mC (p:=fun j=>(127^^^pY (rs.drop (p+1)) L).testBit j) fun j hj=>?_]
 ·rfl
 ·have hj:=List.mem_range.mp hj
  have e1:ai (ab T (c+1)) "_law_is_dead" [ret (fz rs),ret (oU rs),ret (.int (p:Int)),ret (.str (bc j)),ret (.lst (fL L))] H=some (.bool ((127^^^pY (rs.drop (p+1)) L).testBit j),H):=Mq g hn hL hj (ab T c) hp H
  rw[dR,aa,mv,aa,aa,e1]
  dsimp only
  cases (127^^^pY (rs.drop (p+1)) L).testBit j<;>rfl
theorem eX{l:List Int}{z:Int}:sU l z=true↔z∈l:=by
 unfold sU
 rw[List.any_eq_true]
 exact⟨fun⟨x,hx,e⟩=>by rw[←eq_of_beq e];exact hx,fun h=>⟨z,h,beq_self_eq_true z⟩⟩
theorem wc{a b:List Int}(h:i8 a b=true)(z:Int):z∈a↔z∈b:=by
 unfold i8 at h
 rw[Bool.and_eq_true,List.all_eq_true,List.all_eq_true] at h
 exact⟨fun q=>eX.mp (h.1 z q),fun q=>eX.mp (h.2 z q)⟩
theorem mK{a b:List Int}(h:i8 a b=true)(f:Int→Int)(z:Int):z∈a.map f↔z∈b.map f:=by
 simp only[List.mem_map]
 exact⟨fun⟨x,hx,e⟩=>⟨x,(wc h x).mp hx,e⟩,fun⟨x,hx,e⟩=>⟨x,(wc h x).mpr hx,e⟩⟩
theorem qv{cos:List CO}:∀ {l:List Int},(l.all fun z=>decide (0≤z))=true→l.map (gN cos)=l
 |[],_=>rfl
 |z::l,h=>by
  rw[List.all_cons,Bool.and_eq_true] at h
  rw[List.map_cons,qv h.2]
  unfold gN
  rw[if_pos (of_decide_eq_true h.1)]
theorem Mr(i z:Nat):(((ny i z).1.all fun z=>decide (0≤z))&&((ny i z).2.all fun z=>decide (0≤z)))=true:=by
 unfold ny
 simp only[Bool.cond_eq_ite]
 repeat' split
 all_goals decide
theorem Je:(Og.all fun i=>((MS i []).all fun z=>decide (0≤z))&&((MT i []).all fun z=>decide (0≤z)))=true:=by decide+kernel
theorem im{p q:Nat→Bool}(h:∀ k,p k=q k):bW p=bW q:=by rw[funext h]
theorem Bz{l:List Nat}{k:Nat}:(k:Int)∈l.map Int.ofNat↔k∈l:=by
 rw[List.mem_map]
 exact⟨fun⟨x,hx,e⟩=>by have:x=k:=Int.ofNat.inj e;exact this▸hx,fun h=>⟨k,h,rfl⟩⟩
theorem tN{l:List Int}(h:(l.all fun z=>decide (0≤z))=true){k:Nat}:(k:Int)∈l↔k∈l.map Int.toNat:=by
 rw[List.mem_map]
 refine⟨fun hk=>⟨k,hk,by simp⟩,fun⟨x,hx,e⟩=>?_⟩
 have:=of_decide_eq_true (List.all_eq_true.mp h x hx)
 have:(k:Int)=x:=by omega
 rw[this];exact hx
theorem Fo:n6 (fun i os=>os.isEmpty||((OW i os==O7 i (os.map SO.kd))&&(OS i os==O4 i (os.map SO.kd))))=true:=by decide+kernel
def tY(cos:List CO)(aw:AW):MV:=.tup [bW fun(k:Nat)=>sU (aw.rd.map (gN cos)) (k:Int),bW fun(k:Nat)=>sU (aw.st.map (gN cos)) (k:Int),.bool aw.ld,.bool aw.sd]
theorem FH{cl:Fn→List MV→M MV}{row:MV}{H:Hp}{r w:Nat}{l s:Bool}(h1:cl (fnOf "used_masks") [row] H=some (.tup [.int (r:Int),.int (w:Int)],H))(h2:cl (fnOf "memory_uses") [row] H=some (.tup [.bool l,.bool s],H))(h3:∀ m:Nat,cl (fnOf "bits_of") [.int (m:Int)] H=some (bW m.testBit,H)):zY cl row H=some (.tup [bW r.testBit,bW w.testBit,.bool l,.bool s],H):=by
 unfold zY
 rw[xK,aa,cM,h1]
 dsimp only
 rw[jK,jK,vt]
 rw[xK,aa,cM,h2]
 dsimp only
 rw[jK,jK,vt]
 rw[u6,aa,aJ,aa,cM,h3]
 dsimp only
 rw[aa,aJ,aa,cM,h3]
 rfl
theorem Jj{r:Rw}(g:r.Good){v:AV}{aw:AW}(e:uK r.n r.os=some (v,aw))(H:Hp):ab T 6 (fnOf "uses") [r.val] H=some (tY r.cos aw,H):=by
 have hu:=g.ux
 rw[e] at hu
 simp only[Ip,Bool.and_eq_true,beq_iff_eq] at hu
 obtain⟨⟨⟨u1,u2⟩,u3⟩,u4⟩:=hu
 have hv:r.val=bt (.str (jg r.i)) (.tup (r.cos.map CO.val)):=by unfold Rw.val;rw[g.nm]
 have hf:=g.ok.fit
 have sh:=m8 IW g
 unfold Ku at sh
 rw[Bool.or_eq_true] at sh
 rcases sh with sh|sh
 ·rw[Bool.and_eq_true] at sh
  have hi:=cb sh.1
  have ho:r.os=[]:=List.isEmpty_iff.mp sh.2
  have hc:r.cos=[]:=by
   have:=pL hf
   rw[ho] at this
   exact List.length_eq_zero_iff.mp this
  rw[hv,hc]
  have t:=bg (Mc H) r.i hi
  show ab T 6 (fnOf "uses") [bt (.str (jg r.i)) (.tup [])] H=_
  rw[t]
  have nn:=List.all_eq_true.mp Je r.i hi
  rw[Bool.and_eq_true] at nn
  unfold tY
  rw[u3,u4,ho]
  have b1:Cf (MS r.i [])=bW fun(k:Nat)=>sU (aw.rd.map (gN [])) (k:Int):=im (p:=fun(k:Nat)=>sU (MS r.i []) (k:Int)) fun k=>by
   rw[Bool.eq_iff_iff,eX,eX,mK u1,ho,qv nn.1]
  have b2:Cf (MT r.i [])=bW fun(k:Nat)=>sU (aw.st.map (gN [])) (k:Int):=im (p:=fun(k:Nat)=>sU (MT r.i []) (k:Int)) fun k=>by
   rw[Bool.eq_iff_iff,eX,eX,mK u2,ho,qv nn.2]
  rw[b1,b2]
 ·simp only[Bool.and_eq_true] at sh
  obtain⟨⟨⟨⟨s1,s2⟩,s3⟩,s4⟩,s5⟩:=sh
  have hi:=cb s1
  have hk:=Cn s3
  have hne:r.os.isEmpty=false:=by simpa using s2
  have F:RF r.i (jg r.i) (.tup (r.cos.map CO.val)):={
   w:=fun H=>by rw[B5 hf];have h:=bg (OI (rH r.cos) H) _ hk;exact h
   r:=fun H=>by rw[B5 hf];have h:=bg (OA (rH r.cos) H) _ hk;exact h
   n:=by
    have:=List.all_eq_true.mp Jl r.i hi
    simpa using this
   x:=bg FB _ hi }
  have hs:ab T 4 (fnOf "is_string") [bt (.str (jg r.i)) (.tup (r.cos.map CO.val))] H=some (.bool false,H):=by rw[B5 hf];have h:=bg (NR (rH r.cos) H) _ hk;exact h
  have him:=LP g hi H
  rw[hv] at him
  unfold vA at him
  have hu:=IM (m1:=KG (ny r.i (H9 r.os)).1) (m2:=KG (ny r.i (H9 r.os)).2) F H hf s4 rfl hs him
  have hm:ab T 5 (fnOf "memory_uses") [bt (.str (jg r.i)) (.tup (r.cos.map CO.val))] H=some (.tup [.bool aw.ld,.bool aw.sd],H):=by
   have:=m8 Fo g
   simp only[hne,Bool.false_or,Bool.and_eq_true,beq_iff_eq] at this
   rw[B5 hf,u3,u4,this.1,this.2]
   have h:=bg (Lb (rH r.cos) H) _ hk;exact h
  have hus:ab T 5 (fnOf "used_masks") [bt (.str (jg r.i)) (.tup (r.cos.map CO.val))] H=om (ab T 4) (bt (.str (jg r.i)) (.tup (r.cos.map CO.val))) (r.cos.map CO.val) H:=by
   have hl:r.cos.length≤3:=by rw[pL hf];exact Nat.le_of_ble_eq_true s5
   have hl0:r.cos≠[]:=fun h=>by
    have:=pL hf
    rw[h] at this
    rw[List.isEmpty_eq_false_iff] at hne
    exact hne (List.length_eq_zero_iff.mp this.symm)
   show an T (ab T 4) _ _ H=_
   match q:r.cos,hl,hl0 with
   |[a],_,_=>exact IF _ _ _ H
   |[a,b],_,_=>exact Kk _ _ _ _ H
   |[a,b,d],_,_=>exact Il _ _ _ _ _ H
   |[],_,h=>exact absurd rfl h
   |_::_::_::_::_,h,_=>simp at h
  show an T (ab T 5) _ _ H=_
  rw[hv,Lh,FH (hus.trans hu) hm fun m=>IQ _ m H]
  unfold tY
  have nn:=Mr r.i (H9 r.os)
  rw[Bool.and_eq_true] at nn
  have b1:bW (KG (ny r.i (H9 r.os)).1|||mk (Kr r.i 0 r.cos r.os)).testBit=bW fun(k:Nat)=>sU (aw.rd.map (gN r.cos)) (k:Int):=im fun k=>by
   rw[Bool.eq_iff_iff,Nat.testBit_or,Bool.or_eq_true,eX,mK u1]
   unfold MS KG
   rw[jC,jC,List.map_append,List.mem_append,Fs 0 hf (fun j=>by rw[Nat.mul_zero,Nat.zero_add]),qv nn.1,Bz,tN nn.1]
  have b2:bW (KG (ny r.i (H9 r.os)).2|||mk (KN r.i 0 r.cos r.os)).testBit=bW fun(k:Nat)=>sU (aw.st.map (gN r.cos)) (k:Int):=im fun k=>by
   rw[Bool.eq_iff_iff,Nat.testBit_or,Bool.or_eq_true,eX,mK u2]
   unfold MT KG
   rw[jC,jC,List.map_append,List.mem_append,Ge 0 hf (fun j=>by rw[Nat.mul_zero,Nat.zero_add]),qv nn.2,Bz,tN nn.2]
  rw[b1,b2]
def iH(cl:Fn→List MV→M MV)(a_row a_world:MV):M MV:=
 bnd (ai cl "_law_copy" [ret a_world]) fun trial_1=>
 dU (ai cl "_law_do" [ret trial_1,bk cl (ret a_row) "told" []]) (
 bnd (bw (ee [ret (.int 32)]) (fun c4=>bn (xu (aO .In (ret c4) (aq (ret trial_1) (ret (.str "read")))) (ret true)) (ret c4))) fun read_3=>
 bnd (bw (ee [ret (.int 32)]) (fun c6=>bn (xu (aO .In (ret c6) (aq (ret trial_1) (ret (.str "set")))) (ret true)) (ret c6))) fun changed_5=>
 lh (aO .Eq (ai cl "uses" [ret a_row]) (kZ [ret read_3,ret changed_5,aq (ret trial_1) (ret (.str "load")),aq (ret trial_1) (ret (.str "store"))])))
theorem uw(cl:Fn→List MV→M MV)(a_row a_world:MV)(H:Hp):an T cl (fnOf "_law_is_used_right") [a_row,a_world] H=iH cl a_row a_world H:=by kernel_rfl
theorem w9:∀ l:List Int,qB (l.map .int)=some l
 |[]=>rfl
 |x::l=>by
  show(qB (l.map MV.int)).map (x::·)=_
  rw[w9 l];rfl
theorem JU{H:Hp}{a:Nat}{l:List Int}(h:H[a]?=some (bj l))(z:Int):dA .In (.int z) (.ref a) H=some (sU l z,H):=by
 have e:dA .In (.int z) (.ref a) H=(match (match H[a]? with
   |some (.lst vs)=>Jz (.int z) vs
   |_=>none) with
  |none=>none
  |some x=>some (x,H)):=rfl
 rw[e,h]
 show(match ((qB (l.map .int)).map fun l=>l.contains z) with
  |none=>none
  |some x=>some (x,H))=_
 rw[w9]
 show some (l.contains z,H)=_
 have:l.contains z=sU l z:=by
  rw[Bool.eq_iff_iff,eX,List.contains_iff_mem]
 rw[this]
theorem tM{H:Hp}{a:Nat}{l:List Int}(h:H[a]?=some (bj l)){X:M MV}(hX:X H=some (.ref a,H)):bw (ee [ret (.int 32)]) (fun c=>bn (xu (aO .In (ret c) X) (ret true)) (ret c)) H=some (bW fun(k:Nat)=>sU l (k:Int),H):=by
 unfold bw
 rw[aa,Kq]
 dsimp only
 rw[aa,jH (p:=fun(k:Nat)=>sU l (k:Int)) fun k hk=>?_]
 ·rfl
 ·rw[dR,aa,mv,aa,bS,aa,ad]
  dsimp only
  rw[aa,hX]
  dsimp only
  rw[JU h]
  dsimp only
  cases sU l (k:Int)<;>rfl
theorem Ju{H:Hp}(p q:Nat→Bool)(a b:Bool):dA .Eq (.tup [bW p,bW q,.bool a,.bool b]) (.tup [bW p,bW q,.bool a,.bool b]) H=some (true,H):=by
 have hb:∀ p:Nat→Bool,cD H 7 (bW p)=some (.list (((List.range 32).filter p).map fun(k:Nat)=>PyData.int (k:Int))):=fun p=>by
  unfold bW
  rw[gL,cZ (f:=cD H 6) (g:=fun(k:Nat)=>MV.int (k:Int)) (gd:=fun(k:Nat)=>PyData.int (k:Int)) fun x hx=>rfl];rfl
 have h8:cD H 8 (.tup [bW p,bW q,.bool a,.bool b])=some (.tuple [.list (((List.range 32).filter p).map fun(k:Nat)=>PyData.int (k:Int)),.list (((List.range 32).filter q).map fun(k:Nat)=>PyData.int (k:Int)),.bool a,.bool b]):=by
  show Option.map PyData.tuple (jf (cD H 7) _)=_
  simp only[jf,hb]
  rfl
 have hs:vP 64 (.tuple [.list (((List.range 32).filter p).map fun(k:Nat)=>PyData.int (k:Int)),.list (((List.range 32).filter q).map fun(k:Nat)=>PyData.int (k:Int)),.bool a,.bool b]):=by
  refine mU (n:=2) (fh fun x hx=>?_) (by decide)
  simp only[List.mem_cons,List.not_mem_nil,or_false] at hx
  rcases hx with rfl|rfl|rfl|rfl
  ·exact eI fun y hy=>by obtain⟨z,_,rfl⟩:=List.mem_map.mp hy;exact eZ _ _
  ·exact eI fun y hy=>by obtain⟨z,_,rfl⟩:=List.mem_map.mp hy;exact eZ _ _
  ·exact vT _ _
  ·exact vT _ _
 have:=mB h8 h8 hs
 show(match (Ic H (.tup [bW p,bW q,.bool a,.bool b]) (.tup [bW p,bW q,.bool a,.bool b])) with
  |none=>none
  |some x=>some (x,H))=_
 rw[this]
theorem sD{r:Rw}(g:r.Good){H:Hp}{p:Pt}{w:W}(hh:dB H p w){k q:Nat}(hk:k≤50000)(hw:qX w k q):∃ h',ab T 7 (fnOf "_law_is_used_right") [r.val,.ref p.w] H=some (.bool true,h')∧eS [] H h':=by
 have ew:ab T 7 (fnOf "_law_is_used_right") [r.val,.ref p.w] H=iH (ab T 6) r.val (.ref p.w) H:=uw (ab T 6) _ _ H
 have hn:=vw (w:=w) hh.1.t
 have hwc:qX (jk w) k 0:=⟨hw.lr,hw.br,hw.lm,hw.bm,hw.f,Nat.zero_le _,Nat.zero_le _⟩
 obtain⟨v,aw,G1,G2,w1,w2,hrun,e1,-,-,-,-,-,-,er,es,el,et⟩:=AD (zC g.ok.n) g.ok.fit g.ok.ar g.ok.fx (c:=5) (by decide) (t:=0) hn.1 hn.1 hwc hwc hk (by decide) rfl rfl (fun _ _ _=>rfl) (Nat.and_zero _)
 rw[hn.2] at e1
 have hp:=uU (w:=w1) (bD hn.1 G1)
 generalize hH1:H++iE H.length p.t w=H1 at *
 generalize hH2:ao (H1++G1) (cH H.length p.t) w1=H2 at *
 have c1:ai (ab T 6) "_law_copy" [ret (.ref p.w)] H=some (.ref (H.length+3),H1):=by
  rw[cM]
  show an T (ab T 5) (fnOf "_law_copy") [.ref p.w] H=_
  rw[EM,ug _ hh (by rw[hw.lr];decide) (Nat.le_trans hw.lm (by omega)),hH1]
 have c2:ai (ab T 6) "_law_do" [ret (.ref (H.length+3)),bk (ab T 6) (ret r.val) "told" []] H1=some (.none,H2):=by
  rw[dC,aa,aJ,aa,ad]
  dsimp only
  rw[aa,aJ,aa,vY g.ok (by decide)]
  dsimp only
  rw[aa,bC]
  exact e1
 refine⟨H2,?_,?_⟩
 ·rw[ew]
  unfold iH
  rw[aa,c1]
  dsimp only
  rw[gS,aa,c2]
  dsimp only
  have cr:=tM hp.aD (X:=aq (ret (.ref (H.length+3))) (ret (.str "read"))) hp.grd
  have cs:=tM hp.aS (X:=aq (ret (.ref (H.length+3))) (ret (.str "set"))) hp.gst
  rw[aa,cr]
  dsimp only
  rw[aa,cs]
  dsimp only
  have cu:ai (ab T 6) "uses" [ret r.val] H2=some (tY r.cos aw,H2):=Jj g hrun H2
  have ct:kZ [ret (bW fun(k:Nat)=>sU w1.rd (k:Int)),ret (bW fun(k:Nat)=>sU w1.st (k:Int)),aq (ret (.ref (H.length+3))) (ret (.str "load")),aq (ret (.ref (H.length+3))) (ret (.str "store"))] H2=some (tY r.cos aw,H2):=by
   have gl:aq (ret (.ref (H.length+3))) (ret (.str "load")) H2=some (.bool w1.load,H2):=hp.gld
   have gs:aq (ret (.ref (H.length+3))) (ret (.str "store")) H2=some (.bool w1.store,H2):=hp.gsd
   rw[u6,aa,aJ,aa,ad]
   dsimp only
   rw[aa,aJ,aa,ad]
   dsimp only
   rw[aa,aJ,aa,gl]
   dsimp only
   rw[aa,aJ,aa,gs]
   rw[er,es,el,et]
   rfl
  rw[lh,aa,bS,aa,cu]
  dsimp only
  rw[aa,ct]
  dsimp only
  unfold tY
  rw[Ju]
  rfl
 ·have:eS (cH H.length p.t).prts H H2:=by
   rw[←hH2,←hH1]
   exact((gF H _).mono (by simp)).trans (((gF _ G1).mono (by simp)).trans nQ)
  exact this.mono fun x hx=>Or.inr (by
   simp only[Pt.prts,cH,List.mem_cons,List.not_mem_nil,or_false] at hx
   omega)
def pv:Fn:=fnOf "law"
structure LV where
 sc:MV
 ba:MV
 na:MV
 bi:MV
 li:MV
 ro:MV
 wo:MV
 to:MV
 fo:MV
 lo:MV
 se:MV
 du:MV
 pl:MV
def eR(V:LV)(line place flag other:Option MV):Ev:=[("script",some V.sc),("bag",some V.ba),("names",some V.na),("bits",some V.bi),("live",some V.li),("rows",some V.ro),("world",some V.wo),("told",some V.to),("found",some V.fo),("line",line),("looks",some V.lo),("sets",some V.se),("place",place),("flag",flag),("due",some V.du),("plain_end",some V.pl),("other",other)]
def GZ(cl:Fn→List MV→M MV)(ρ:Ev):M MV:=fC T (eU T cl 19) pv.scope (pv.body.drop 14) ρ fun _=>ret .none
def Bh(cl:Fn→List MV→M MV)(ρ:Ev):M MV:=fC T (eU T cl 19) pv.scope (pv.body.drop 15) ρ fun _=>ret .none
def Mb:Stmt:=eJ pv.body 13
def uZ:Stmt:=eJ pv.body 14
def sF:Stmt:=eJ (CG uZ) 3
def sL:Stmt:=eJ (CG uZ) 4
def By(cl:Fn→List MV→M MV)(K:Ev→M MV)(ρ:Ev):M MV:=fC T (eU T cl 18) pv.scope ((CG uZ).drop 4) ρ K
def HZ(cl:Fn→List MV→M MV)(K:Ev→M MV)(ρ:Ev):M MV:=fC T (eU T cl 18) pv.scope ((CG uZ).drop 5) ρ K
section
variable(cl:Fn→List MV→M MV)(V:LV)(line place flag other:Option MV)(K:Ev→M MV)(v:MV)(H:Hp)
theorem N7:jb cl 19 pv Mb v (eR V line place flag other) K H=dU (ai cl "_law_do" [ret V.pl,ret v]) (K (eR V (some v) place flag other)) H:=by kernel_rfl
theorem Oy:GZ cl (eR V line place flag other) H=bnd (ee [cU "len" [ret V.ro]]) (fun vs=>dc cl 19 pv uZ (Bh cl) vs (eR V line place flag other)) H:=by kernel_rfl
theorem OD(ρ:Ev):Bh cl ρ H=some (.bool true,H):=by kernel_rfl
theorem MX:jb cl 19 pv uZ v (eR V line place flag other) K H=ifT (Ig (bnd (ai cl "_law_is_used_right" [aq (ret V.ro) (ret v),ret V.wo]) cI)) (ret (.bool false)) (dU (ai cl "_law_do" [ret V.wo,aq (ret V.to) (ret v)]) (bnd (ai cl "_law_copy" [ret V.wo]) fun o=>bnd (eP (aq (ret V.du) (ret v))) fun vs=>dc cl 18 pv sF (By cl K) vs (eR V line (some v) flag (some o)))) H:=by kernel_rfl
theorem Ov(o:MV):jb cl 18 pv sF v (eR V line place flag (some o)) K H=v6 (bu .Sub (ret (.int 1)) (aq (aq (ret o) (ret (.str "f"))) (ret v))) (aq (ret o) (ret (.str "f"))) (ret v) (K (eR V line place (some v) (some o))) H:=by kernel_rfl
theorem Oq(p o:MV):By cl K (eR V line (some p) flag (some o)) H=bnd (eP (D0 (ret V.to) (A7 (bu .Add (ret p) (ret (.int 1)))) (ret none))) (fun vs=>dc cl 18 pv sL (HZ cl K) vs (eR V line (some p) flag (some o))) H:=by kernel_rfl
theorem OU(o:MV):jb cl 18 pv sL v (eR V line place flag (some o)) K H=dU (ai cl "_law_do" [ret o,ret v]) (K (eR V (some v) place flag (some o))) H:=by kernel_rfl
theorem OF(o:MV):HZ cl K (eR V line place flag (some o)) H=ifT (aO .NotEq (ai cl "_law_end" [ret o,ret V.li]) (ai cl "_law_end" [ret V.pl,ret V.li])) (ret (.bool false)) (K (eR V line place flag (some o))) H:=by kernel_rfl
end
def Bx(cl:Fn→List MV→M MV)(rows:MV):M MV:=bw (eP (ret rows)) fun c=>bn (ret true) (bk cl (ret c) "told" [])
def zB(cl:Fn→List MV→M MV)(told:MV):M MV:=bw (eP (ret told)) fun c=>bn (ret true) (ai cl "_law_looks" [aq (ret c) (ret (.int 0))])
def KR(cl:Fn→List MV→M MV)(told world:MV):M MV:=bw (eP (ret told)) fun c=>bn (ret true) (ai cl "_law_sets" [ret c,aq (ret world) (ret (.str "t"))])
def KE(cl:Fn→List MV→M MV)(rows names looks sets live:MV):M MV:=bw (ee [cU "len" [ret rows]]) fun c=>bn (ret true) (Lx cl names looks sets c live)
def A6(cl:Fn→List MV→M MV)(sc ba na bi li ro wo:MV):M MV:=
 bnd (Bx cl ro) fun to=>bnd (ai cl "dead_flags" [ret ro,ret li]) fun fo=>bnd (zB cl to) fun lo=>bnd (KR cl to wo) fun se=>
 bnd (KE cl ro na lo se li) fun du=>ifT (oD [aO .NotEq (ret fo) (ret du),aO .NotEq (Bx cl ro) (ret to)]) (ret (.bool false)) (
 bnd (ai cl "_law_copy" [ret wo]) fun pl=>bnd (eP (ret to)) fun vs=>dc cl 19 pv Mb (GZ cl) vs (eR ⟨sc,ba,na,bi,li,ro,wo,to,fo,lo,se,du,pl⟩ none none none none))
def FT(names bits:MV):M MV:=bw (ee [ret (.int 7)]) fun k=>bn (xu (aO .Eq (bu .Mod (bu .FloorDiv (ret bits) (bu .Pow (ret (.int 2)) (ret k))) (ret (.int 2))) (ret (.int 1))) (ret true)) (aq (ret names) (ret k))
def KX(cl:Fn→List MV→M MV)(sc:MV):M MV:=
 bnd (ai cl "_law_bag" [ret sc]) fun ba=>bnd (ai cl "_law_names" []) fun na=>
 bnd (aq (bP [ai cl "_law_take" [ret ba,ret (.int 128)],ret (.int 127),ret (.int 0)]) (ai cl "_law_take" [ret ba,ret (.int 3)])) fun bi=>
 bnd (FT na bi) fun li=>bnd (bw (ee [bu .Add (ret (.int 1)) (ai cl "_law_take" [ret ba,ret (.int 6)])]) fun c=>bn (ret true) (ai cl "_law_row" [ret ba])) fun ro=>
 bnd (ai cl "_law_world" [ret ba]) fun wo=>A6 cl sc ba na bi li ro wo
theorem M4(cl:Fn→List MV→M MV)(sc:MV)(H:Hp):an T cl (fnOf "law") [sc] H=KX cl sc H:=by kernel_rfl
theorem eS.nil{S:List Nat}{a b:Hp}(h:eS [] a b):eS S a b:=⟨h.len,fun i hi _=>h.eq i hi (by simp)⟩
theorem yG{cl:Fn→List MV→M MV}(hc:cl=ab T 7){g:Nat}{s:Stmt}{env:Option MV→Ev}{p:Pt}(ht:∀ (v:MV) (x:Option MV) (K:Ev→M MV) (H:Hp),jb cl g pv s v (env x) K H=dU (ai cl "_law_do" [ret (.ref p.w),ret v]) (K (env (some v))) H)(K:Ev→M MV):∀ {rs:List Rw},(∀ r∈rs,r.Ok)→∀ {k q:Nat} {x:Option MV} {H:Hp} {w:W},k+8 * rs.length≤50000→q+20 * rs.length≤50000→dB H p w→qX w k q→∃ w' h' x',dc cl g pv s K (rs.map Rw.told) (env x) H=K (env x') h'∧dB h' p w'∧eS p.prts H h'∧qX w' (k+8 * rs.length) (q+20 * rs.length)∧w'.core=lC rs w.core
 |[],_,k,q,x,H,w,_,_,hh,hw=>⟨w,H,x,rfl,hh,eS.refl _ _,hw,rfl⟩
 |r::rs,ho,k,q,x,H,w,hk,hq,hh,hw=>by
  simp only[List.length_cons] at hk hq ⊢
  obtain⟨w1,h1,e1,a1,b1,c1,d1⟩:=Cg (ho r List.mem_cons_self) (by omega) (by omega) hh hw
  obtain⟨w2,h2,x2,e2,a2,b2,c2,d2⟩:=yG hc ht K (rs:=rs) (fun r hr=>ho r (List.mem_cons_of_mem _ hr)) (x:=some r.told) (k:=k+8) (q:=q+20) (by omega) (by omega) a1 c1
  refine⟨w2,h2,x2,?_,a2,b1.trans b2,?_,?_⟩
  ·rw[List.map_cons,dq,ht,gS,aa]
   have:ai cl "_law_do" [ret (.ref p.w),ret r.told] H=some (.none,h1):=by rw[hc];exact e1
   rw[this]
   exact e2
  ·rw[show k+8 * (rs.length+1)=k+8+8 * rs.length by omega,show q+20 * (rs.length+1)=q+20+20 * rs.length by omega]
   exact c2
  ·rw[d2,d1];rfl
def Fl.flip(f:Fl):Nat→Fl
 |0=>{ f with cf:=1 - f.cf }
 |1=>{ f with pf:=1 - f.pf }
 |2=>{ f with af:=1 - f.af }
 |3=>{ f with zf:=1 - f.zf }
 |4=>{ f with sf:=1 - f.sf }
 |5=>{ f with of:=1 - f.of }
 |_=>{ f with df:=1 - f.df }
theorem BI{f:Fl}{i j:Nat}(hi:i < 7)(hj:j < 7)(h:j≠i):(f.flip i).at j=f.at j:=by
 match i,hi with
 |0,_|1,_|2,_|3,_|4,_|5,_|6,_=>
  match j,hj with
  |0,_|1,_|2,_|3,_|4,_|5,_|6,_=>first|rfl|exact absurd rfl h
theorem JI{f:Fl}(h:∀ j,0≤f.at j∧f.at j≤1){i:Nat}(hi:i < 7):∀ j,0≤(f.flip i).at j∧(f.flip i).at j≤1:=by
 refine Ba _ (fun x=>0≤x∧x≤1) fun j hj=>?_
 by_cases e:j=i
 ·subst e
  have:=h j
  match j,hj with
  |0,_|1,_|2,_|3,_|4,_|5,_|6,_=>
   simp only[Fl.flip,Fl.at] at this ⊢
   omega
 ·rw[BI hi hj e];exact h j
theorem E9{f:Fl}{i:Nat}(hi:i < 7):put (bc i) (.int (1 - f.at i)) f.toL=(f.flip i).toL:=by
 match i,hi with
 |0,_|1,_|2,_|3,_|4,_|5,_|6,_=>kernel_rfl
theorem Nl{H:Hp}{p:Pt}{w:W}(h:dB H p w){f:Fl}:H.set p.f (.dcs f.toL)=ao H p { w with f:=f }:=by
 have e:=Nm (w:=w) h.1 f
 rw[h.2] at e
 exact e
theorem Fa{cl:Fn→List MV→M MV}{V:LV}{line place x:Option MV}{p:Pt}{K:Ev→M MV}{H:Hp}{w:W}(hh:dB H p w){i:Nat}(hi:i < 7):jb cl 18 pv sF (.str (bc i)) (eR V line place x (some (.ref p.w))) K H=K (eR V line place (some (.str (bc i))) (some (.ref p.w))) (ao H p { w with f:=w.f.flip i }):=by
 rw[Ov]
 have e1:aq (ret (.ref p.w)) (ret (.str "f")) H=some (.ref p.f,H):=hh.gf
 have e2:bu .Sub (ret (.int 1)) (aq (aq (ret (.ref p.w)) (ret (.str "f"))) (ret (.str (bc i)))) H=some (.int (1 - w.f.at i),H):=by
  rw[bI,aa,ad]
  dsimp only
  rw[aa,b9,aa,e1]
  dsimp only
  rw[aa,ad]
  dsimp only
  rw[Ed hh hi]
  rfl
 rw[kI,aa,e2]
 dsimp only
 rw[dE,aa,e1]
 dsimp only
 rw[aa,ad]
 dsimp only
 have e3:setItem (.ref p.f) (.str (bc i)) (.int (1 - w.f.at i)) H=some ((),ao H p { w with f:=w.f.flip i }):=by
  simp only[setItem,hh.aF]
  rw[show Nat.ble w.f.toL.length 100000=true from rfl,cond_true,E9 hi,Nl hh]
 rw[aa,e3]
theorem Eo{cl:Fn→List MV→M MV}{V:LV}{line place:Option MV}{p:Pt}{K:Ev→M MV}:∀ {js:List Nat},(∀ j∈js,j < 7)→∀ {x:Option MV} {H:Hp} {w:W} {k q:Nat},dB H p w→qX w k q→∃ w' h' x',dc cl 18 pv sF K (js.map fun j=>.str (bc j)) (eR V line place x (some (.ref p.w))) H=K (eR V line place x' (some (.ref p.w))) h'∧dB h' p w'∧eS p.prts H h'∧qX w' k q∧w'.r=w.r∧w'.m=w.m∧∀ j < 7,j∉js→w'.f.at j=w.f.at j
 |[],_,x,H,w,k,q,hh,hw=>⟨w,H,x,rfl,hh,eS.refl _ _,hw,rfl,rfl,fun _ _ _=>rfl⟩
 |i::js,hj,x,H,w,k,q,hh,hw=>by
  have hi:=hj i List.mem_cons_self
  have hw1:qX { w with f:=w.f.flip i } k q:=⟨hw.lr,hw.br,hw.lm,hw.bm,JI hw.f hi,hw.rd,hw.st⟩
  obtain⟨w2,h2,x2,e2,a2,b2,c2,r2,m2,f2⟩:=Eo (cl:=cl) (V:=V) (line:=line) (place:=place) (K:=K) (js:=js) (fun j h=>hj j (List.mem_cons_of_mem _ h)) (x:=some (.str (bc i))) (uU (w:={ w with f:=w.f.flip i }) hh.1) hw1
  refine⟨w2,h2,x2,?_,a2,nQ.trans b2,c2,r2,m2,fun j h7 hn=>?_⟩
  ·rw[List.map_cons,dq,Fa hh hi]
   exact e2
  ·simp only[List.mem_cons,not_or] at hn
   rw[f2 j h7 hn.2]
   exact BI hi h7 hn.1
theorem qL:∀ (a b:List Rw) (c:C),lC (a++b) c=lC b (lC a c)
 |[],_,_=>rfl
 |r::a,b,c=>qL a b (Bk r c)
theorem GI{vs:List MV}(hl:vs.length≤1000){p:Nat}(H:Hp):eP (D0 (ret (.lst vs)) (A7 (bu .Add (ret (.int (p:Int))) (ret (.int 1)))) (ret none)) H=some (vs.drop (p+1),H):=by
 have hz:bZ vs=true:=bN (by omega)
 have e1:A7 (bu .Add (ret (.int (p:Int))) (ret (.int 1))) H=some (some ((p+1:Nat):Int),H):=rfl
 have e2:dd (.lst vs) (some ((p+1:Nat):Int)) none=some (.lst (vs.drop (p+1))):=by
  show(bif bZ vs then some (MV.lst (cut vs (some ((p+1:Nat):Int)) none)) else none)=_
  rw[hz,cond_true]
  unfold cut W.kms_lo W.kms_hi
  dsimp only
  rw[if_neg (by omega),Int.toNat_natCast]
  congr 2
  by_cases h:p+1≤vs.length
  ·rw[Nat.min_eq_left h,List.take_of_length_le (by simp)]
  ·rw[Nat.min_eq_right (by omega),List.drop_of_length_le (Nat.le_refl _),List.drop_of_length_le (by omega),List.take_nil]
 unfold eP
 rw[aa,BZ,aa,ad]
 dsimp only
 rw[aa,e1]
 dsimp only
 rw[aa,ad]
 dsimp only
 rw[e2]
 show(bif bZ (vs.drop (p+1)) then ret (vs.drop (p+1)) else fail) H=_
 rw[bN (by simp;omega)];rfl
theorem mT{vs:List MV}(hl:vs.length≤1000){X:M MV}{H:Hp}(e:X H=some (.lst vs,H)):eP X H=some (vs,H):=by
 unfold eP
 rw[aa,e]
 show(bif bZ vs then ret vs else fail) H=_
 rw[bN (by omega)];rfl
theorem Lw(m:Nat):(fL m).length≤7:=by
 unfold fL
 rw[List.length_map]
 exact Nat.le_trans (List.length_filter_le _ _) (by simp)
structure On(V:LV)(rs:List Rw)(L:Nat)(pw pp:Pt)(c0:C)(we:W):Prop where
 g:∀ r∈rs,r.Good
 n:rs.length≤6
 l:L < 128
 ro:V.ro=.lst (rs.map Rw.val)
 wo:V.wo=.ref pw.w
 to:V.to=.lst (rs.map Rw.told)
 li:V.li=.lst (fL L)
 du:V.du=.lst ((List.range rs.length).map (ch rs L))
 pl:V.pl=.ref pp.w
 pt:pp.t=pw.t
 dj:∀ x∈pp.prts,x∉pw.prts
 c:Ia c0 0
 en:we.core=lC rs c0
 wm:we.m.length≤60
structure At(H:Hp)(V:LV)(rs:List Rw)(pw pp:Pt)(c0:C)(we w:W)(p:Nat):Prop where
 hw:dB H pw w
 he:dB H pp we
 ok:qX w (8 * p) (20 * p)
 co:w.core=lC (rs.take p) c0
theorem vi{H:Hp}{p:Pt}{w:W}(h:dB H p w):(∀ x∈p.prts,x < H.length)∧p.t < H.length:=by
 refine⟨fun x hx=>?_,(List.getElem?_eq_some_iff.mp h.1.t).1⟩
 have h1:=h.1.lw;have h2:=h.1.lr;have h3:=h.1.lm;have h4:=h.1.lf;have h5:=h.1.ld;have h6:=h.1.ls
 simp only[Pt.prts,List.mem_cons,List.not_mem_nil,or_false] at hx
 omega
theorem K9{H:Hp}{p p':Pt}{w w':W}(hh:dB H p w)(hh':dB H p' w'){L:Nat}(hm:w.m.length≤60)(hm':w'.m.length≤60)(er:w.r=w'.r)(em:w.m=w'.m)(ef:MM L w.f w'.f):aO .NotEq (ai (ab T 7) "_law_end" [ret (.ref p.w),ret (.lst (fL L))]) (ai (ab T 7) "_law_end" [ret (.ref p'.w),ret (.lst (fL L))]) H=some (false,H):=by
 have hj:∀ j∈(List.range 7).filter fun j=>L.testBit j,j < 7:=fun j hj=>List.mem_range.mp (List.mem_filter.mp hj).1
 have hl:((List.range 7).filter fun j=>L.testBit j).length≤1000:=Nat.le_trans (List.length_filter_le _ _) (by simp)
 have aQ:∀ {q:Pt} {v:W},dB H q v→v.m.length≤60→ai (ab T 7) "_law_end" [ret (.ref q.w),ret (.lst (fL L))] H=some (uy q v ((List.range 7).filter fun j=>L.testBit j),H):=fun {q v} hq hv=>by
  show an T (ab T 6) (fnOf "_law_end") [.ref q.w,.lst (fL L)] H=_
  rw[Mp]
  exact It _ hq hv hj hl
 rw[bS,aa,aQ hh hm]
 dsimp only
 rw[aa,aQ hh' hm']
 dsimp only
 exact EW hh hh' er em fun j hm=>ef j (hj j hm) (by
  rw[pz]
  exact(List.mem_filter.mp hm).2)
theorem JH{V:LV}{rs:List Rw}{L:Nat}{pw pp:Pt}{c0:C}{we:W}(o:On V rs L pw pp c0 we){p:Nat}(hp:p < rs.length){H:Hp}{w:W}(a:At H V rs pw pp c0 we w p)(line place flag other:Option MV)(K:Ev→M MV):∃ h' w' line' flag' other',jb (ab T 7) 19 pv uZ (.int (p:Int)) (eR V line place flag other) K H=K (eR V line' (some (.int (p:Int))) flag' other') h'∧At h' V rs pw pp c0 we w' (p+1):=by
 have hn:=o.n
 have gp:=o.g _ (List.getElem_mem hp)
 have hok:∀ r∈rs.drop (p+1),r.Ok:=fun r hr=>(o.g r (List.mem_of_mem_drop hr)).ok
 have ntw:pp.t∉pw.prts:=by rw[o.pt];exact a.hw.1.nt
 -- used right
 obtain⟨h1,e1,k1⟩:=sD gp a.hw (k:=8 * p) (q:=20 * p) (by omega) a.ok
 have w1:=a.hw.keep k1 (by simp) (by simp)
 have x1:=a.he.keep k1 (by simp) (by simp)
 -- do
 obtain⟨w2,h2,e2,a2,k2,ok2,c2⟩:=Cg gp.ok (k:=8 * p) (q:=20 * p) (by omega) (by omega) w1 a.ok
 have x2:=x1.keep k2 o.dj ntw
 -- copy
 have hn3:=vw (w:=w2) a2.1.t
 have e3:ai (ab T 7) "_law_copy" [ret V.wo] h2=some (.ref (cH h2.length pw.t).w,h2++iE h2.length pw.t w2):=by
  rw[o.wo,cM]
  show an T (ab T 6) (fnOf "_law_copy") [.ref pw.w] h2=_
  rw[EM,ug _ a2 (by rw[ok2.lr];decide) (Nat.le_trans ok2.lm (by omega))]
  rfl
 have len2:=(vi a2)
 have lenp:=(vi x2)
 have ge:∀ x∈(cH h2.length pw.t).prts,h2.length≤x:=fun x hx=>by
  simp only[Pt.prts,cH,List.mem_cons,List.not_mem_nil,or_false] at hx
  omega
 generalize hH3:h2++iE h2.length pw.t w2=H3 at *
 have k3:eS [] h2 H3:=by rw[←hH3];exact gF _ _
 have ok3:qX (jk w2) (8 * p+8) 0:=⟨ok2.lr,ok2.br,ok2.lm,ok2.bm,ok2.f,Nat.zero_le _,Nat.zero_le _⟩
 -- Eo
 have hjs:∀ j∈(List.range 7).filter fun j=>(127^^^pY (rs.drop (p+1)) L).testBit j,j < 7:=fun j hj=>List.mem_range.mp (List.mem_filter.mp hj).1
 obtain⟨w4,h4,x4,e4,a4,k4,ok4,r4,m4,f4⟩:=Eo (cl:=ab T 7) (V:=V) (line:=line) (place:=some (.int (p:Int))) (K:=By (ab T 7) K) hjs (x:=flag) hn3 ok3
 -- the rest
 have hl4:(rs.drop (p+1)).length=rs.length - (p+1):=List.length_drop
 obtain⟨w5,h5,x5,e5,a5,k5,ok5,c5⟩:=yG (cl:=ab T 7) rfl (g:=18) (s:=sL) (env:=fun x=>eR V x (some (.int (p:Int))) x4 (some (.ref (cH h2.length pw.t).w))) (p:=cH h2.length pw.t) (fun v x K H=>OU _ V x _ _ K v H _) (HZ (ab T 7) K) (rs:=rs.drop (p+1)) hok (k:=8 * p+8) (q:=0) (x:=line) (by omega) (by omega) a4 ok4
 -- all that is kept
 have k25:eS (cH h2.length pw.t).prts h2 h5:=(k3.nil.trans k4).trans k5
 have big:∀ x,x < h2.length→x∉(cH h2.length pw.t).prts:=fun x hx hm=>absurd (ge x hm) (by omega)
 have a6:dB h5 pw w2:=a2.keep k25 (fun x hx=>big x (len2.1 x hx)) (big _ len2.2)
 have x6:dB h5 pp we:=x2.keep k25 (fun x hx=>big x (lenp.1 x hx)) (big _ lenp.2)
 -- the ends
 have e2c:w2.core=lC (rs.take (p+1)) c0:=by
  rw[c2,a.co,List.take_succ_eq_append_getElem hp,qL];rfl
 have hend:lC (rs.drop (p+1)) w2.core=we.core:=by
  rw[e2c,←qL,List.take_append_drop,o.en]
 have hb:=vI hok o.l
 have agr:MM (pY (rs.drop (p+1)) L) w4.core.f w2.core.f:=fun j hj hb=>f4 j hj fun hm=>by
  have:=(List.mem_filter.mp hm).2
  rw[pz] at hb
  rw[Nat.testBit_xor,hb,Au hj] at this
  cases this
 obtain⟨er,em,ef⟩:=wA hok (L:=L) o.l (k:=8 * p+8) (by omega) ok4.core ok2.core (c1:=w4.core) (c2:=w2.core) (by show w4.r=w2.r;rw[r4];rfl) (by show w4.m=w2.m;rw[m4];rfl) agr
 rw[hend,←c5] at er em ef
 have ene:=K9 a5 x6 (L:=L) (Nat.le_trans ok5.lm (by omega)) o.wm er em ef
 refine⟨h5,w2,x5,x4,some (.ref (cH h2.length pw.t).w),?_,⟨a6,x6,?_,e2c⟩⟩
 ·rw[MX]
  have i1:aq (ret V.ro) (ret (.int (p:Int))) H=some ((rs[p]).val,H):=by rw[o.ro];exact pD (by omega) hp H
  have i2:aq (ret V.to) (ret (.int (p:Int))) h1=some ((rs[p]).told,h1):=by rw[o.to];exact pD (by omega) hp h1
  have i3:aq (ret V.du) (ret (.int (p:Int))) H3=some (ch rs L p,H3):=by
   rw[o.du,pD (by simp;omega) (by simpa using hp) H3]
   simp
  have u1:Ig (bnd (ai (ab T 7) "_law_is_used_right" [aq (ret V.ro) (ret (.int (p:Int))),ret V.wo]) cI) H=some (false,h1):=by
   have:ai (ab T 7) "_law_is_used_right" [aq (ret V.ro) (ret (.int (p:Int))),ret V.wo] H=some (.bool true,h1):=by
    rw[dC,aa,aJ,aa,i1]
    dsimp only
    rw[aa,aJ,aa,ad]
    dsimp only
    rw[aa,bC]
    dsimp only
    rw[ad]
    dsimp only
    rw[ad]
    dsimp only
    rw[o.wo]
    exact e1
   rw[Jp,aa,aa,this]
   rfl
  rw[cF,aa,u1]
  dsimp only
  rw[cond_false,gS,aa]
  have u2:ai (ab T 7) "_law_do" [ret V.wo,aq (ret V.to) (ret (.int (p:Int)))] h1=some (.none,h2):=by
   rw[dC,aa,aJ,aa,ad]
   dsimp only
   rw[aa,aJ,aa,i2]
   dsimp only
   rw[aa,bC]
   dsimp only
   rw[ad]
   dsimp only
   rw[ad]
   dsimp only
   rw[o.wo]
   exact e2
  rw[u2]
  dsimp only
  rw[aa,e3]
  dsimp only
  rw[aa,mT (vs:=fL (127^^^pY (rs.drop (p+1)) L)) (Nat.le_trans (Lw _) (by decide)) i3]
  dsimp only
  have e4:dc (ab T 7) 18 pv sF (By (ab T 7) K) (fL (127^^^pY (rs.drop (p+1)) L)) (eR V line (some (.int (p:Int))) flag (some (.ref (cH h2.length pw.t).w))) H3=_:=e4
  rw[e4,Oq,aa,o.to,GI (by simp;omega)]
  dsimp only
  rw[←List.map_drop]
  rw[e5,OF,cF,aa,o.li,o.pl,ene]
  rfl
 ·rw[show 8 * (p+1)=8 * p+8 by omega,show 20 * (p+1)=20 * p+20 by omega]
  exact ok2
theorem ta{V:LV}{rs:List Rw}{L:Nat}{pw pp:Pt}{c0:C}{we:W}(o:On V rs L pw pp c0 we):∀ (m p:Nat),p+m=rs.length→∀ {H:Hp} {w:W},At H V rs pw pp c0 we w p→∀ (line place flag other:Option MV),∃ h',dc (ab T 7) 19 pv uZ (Bh (ab T 7)) (gE p m) (eR V line place flag other) H=some (.bool true,h')
 |0,p,_,H,w,_,line,place,flag,other=>⟨H,by rw[gE,te,OD]⟩
 |m+1,p,e,H,w,a,line,place,flag,other=>by
  obtain⟨h',w',l',f',o',e1,a1⟩:=JH o (show p < rs.length by omega) a line place flag other (dc (ab T 7) 19 pv uZ (Bh (ab T 7)) (gE (p+1) m))
  obtain⟨h2,e2⟩:=ta o m (p+1) (by omega) a1 l' (some (.int (p:Int))) f' o'
  exact⟨h2,by rw[gE,dq,e1,e2]⟩
theorem tu{α:Type}{H:Hp}{f:MV→M (Option MV)}{a b:α→MV}:∀ {l:List α},(∀ x∈l,f (a x) H=some (some (b x),H))→bQ f (l.map a) H=some (l.map b,H)
 |[],_=>rfl
 |x::l,h=>by
  show bnd (f (a x)) (fun o=>bnd (bQ f (l.map a)) fun ys=>ret (o.toList++ys)) H=_
  rw[aa,h x List.mem_cons_self]
  dsimp only
  rw[aa,tu fun y hy=>h y (List.mem_cons_of_mem _ hy)]
  rfl
theorem lI{α:Type}{H:Hp}{I:M (List MV)}{f:MV→M (Option MV)}{a b:α→MV}{l:List α}(hI:I H=some (l.map a,H))(h:∀ x∈l,f (a x) H=some (some (b x),H)):bw I f H=some (.lst (l.map b),H):=by
 unfold bw
 rw[aa,hI]
 dsimp only
 rw[aa,tu h]
 rfl
theorem qc{A:M MV}{v:MV}{H h:Hp}(e:A H=some (v,h)):bn (ret true) A H=some (some v,h):=by
 rw[dR,aa,ad]
 dsimp only
 rw[cond_true,aa,e]
 rfl
section
variable{rs:List Rw}(g:∀ r∈rs,r.Good)(hn:rs.length≤6)
include g hn
theorem tK(H:Hp):Bx (ab T 7) (.lst (rs.map Rw.val)) H=some (.lst (rs.map Rw.told),H):=
 lI (mT (by simp;omega) rfl) fun r hr=>qc (vY (g r hr).ok (by decide) H)
theorem zX(H:Hp):∃ G,zB (ab T 7) (.lst (rs.map Rw.told)) H=some (fz rs,H++G):=by
 have cl:∀ (l:List Rw),(∀ r∈l,r.Good)→∀ H:Hp,∃ G,bQ (fun c=>bn (ret true) (ai (ab T 7) "_law_looks" [aq (ret c) (ret (.int 0))])) (l.map Rw.told) H=some (l.map fun r=>.lst (fL r.n.lk),H++G):=by
  intro l
  induction l with
  |nil=>exact fun _ H=>⟨[],by rw[List.append_nil];rfl⟩
  |cons r l ih=>
   intro gl H
   have gr:=gl r List.mem_cons_self
   obtain⟨G1,e1⟩:=FD gr.all H
   obtain⟨G2,e2⟩:=ih (fun x hx=>gl x (List.mem_cons_of_mem _ hx)) (H++G1)
   refine⟨G1++G2,?_⟩
   have e3:ai (ab T 7) "_law_looks" [aq (ret r.told) (ret (.int 0))] H=some (.lst (fL r.n.lk),H++G1):=by
    have i0:aq (ret r.told) (ret (.int 0)) H=some (.str r.n.nm,H):=by unfold Rw.told CS;kernel_rfl
    rw[dC,aa,aJ,aa,i0]
    dsimp only
    rw[aa,bC]
    dsimp only
    rw[ad]
    dsimp only
    rw[gr.nm,gr.lk]
    exact lift (by decide) e1
   show bnd (bn (ret true) (ai (ab T 7) "_law_looks" [aq (ret r.told) (ret (.int 0))])) (fun o=>bnd (bQ (fun c=>bn (ret true) (ai (ab T 7) "_law_looks" [aq (ret c) (ret (.int 0))])) (l.map Rw.told)) fun ys=>ret (o.toList++ys)) H=_
   rw[aa,qc e3]
   dsimp only
   rw[aa,e2]
   rw[←List.append_assoc]
   rfl
 obtain⟨G,e⟩:=cl rs g H
 refine⟨G,?_⟩
 unfold zB bw
 rw[aa,mT (vs:=rs.map Rw.told) (by simp;omega) rfl]
 dsimp only
 rw[aa,e]
 rfl
theorem Cr{H:Hp}{p:Pt}{w:W}(hh:dB H p w):KR (ab T 7) (.lst (rs.map Rw.told)) (.ref p.w) H=some (oU rs,H):=
 lI (mT (by simp;omega) rfl) fun r hr=>qc (by
  have e1:aq (ret (.ref p.w)) (ret (.str "t")) H=some (.ref p.t,H):=hh.gt
  rw[dC,aa,aJ,aa,ad]
  dsimp only
  rw[aa,aJ,aa,e1]
  dsimp only
  rw[aa,bC]
  dsimp only
  rw[ad]
  dsimp only
  rw[ad]
  dsimp only
  exact lift (by decide) (JV (g r hr) hh.1.t))
theorem Fu{L:Nat}(hL:L < 128)(H:Hp):KE (ab T 7) (.lst (rs.map Rw.val)) (.lst gK) (fz rs) (oU rs) (.lst (fL L)) H=some (.lst ((List.range rs.length).map (ch rs L)),H):=by
 refine lI (a:=fun(k:Nat)=>.int (k:Int)) (l:=List.range rs.length) ?_ fun k hk=>qc (JF g hn hL (by decide) (List.mem_range.mp hk) H)
 unfold ee
 rw[aa,aJ,aa,p6 (by simp;omega)]
 dsimp only
 rw[aa,bC]
 dsimp only
 rw[ad]
 dsimp only
 rw[List.length_map]
 have:dN [.int (rs.length:Int)]=some ((List.range rs.length).map fun(k:Nat)=>.int (k:Int)):=by
  show(bif small (rs.length:Int) then some (di 0 (rs.length:Int)) else none)=_
  rw[ki (by omega),cond_true]
  unfold di
  congr 1
  rw[show((rs.length:Int) - 0).toNat=rs.length by omega]
  exact List.map_congr_left fun k _=>congrArg MV.int (by omega)
 rw[this];rfl
end
theorem dp(n:Nat){s:Str}(h:PyData.strOk s=true):vP n (.str s):=IC n (by simp only[PyData.canLay0];exact h)
theorem NL:(kY.all fun n=>PyData.strOk n.nm)=true:=by decide+kernel
theorem M6:(yY.all fun x=>PyData.strOk x.2.1&&PyData.strOk x.2.2.1&&PyData.strOk x.2.2.2.1&&PyData.strOk x.2.2.2.2)=true:=by decide+kernel
theorem ml(n z:Nat):PyData.strOk (cq n z)=true:=by
 unfold cq
 split
 ·rename_i x a b c d e
  have:=List.all_eq_true.mp M6 _ (List.mem_of_getElem? e)
  simp only[Bool.and_eq_true] at this
  obtain⟨⟨⟨h1,h2⟩,h3⟩,h4⟩:=this
  cases z==64
  ·cases z==32
   ·cases z==16
    ·exact h4
    ·exact h3
   ·exact h2
  ·exact h1
 ·decide+kernel
def Nc:CO→PyData
 |.reg n z=>.tuple [.str "reg",.str (cq n z)]
 |.ah=>.tuple [.str "reg",.str "ah"]
 |.mem b x d z=>.tuple [.str "mem",.str (cq b 64),.str (OH x),.int (L5 x),.int d,.int z,.str "",.str ""]
 |.imm v=>.tuple [.str "imm",.int v,.str ""]
theorem N6(H:Hp)(n:Nat)(co:CO):cD H (n+2) co.told=some (Nc co):=by cases co<;>rfl
theorem MG(co:CO):vP 1 (Nc co):=by
 have s:∀ s∈(["reg","ah","mem","imm",""]:List Str),PyData.strOk s=true:=by decide+kernel
 cases co with
 |reg n z=>
  refine fh fun x hx=>?_
  simp only[List.mem_cons,List.not_mem_nil,or_false] at hx
  rcases hx with rfl|rfl
  ·exact dp _ (s _ (by simp))
  ·exact dp _ (ml _ _)
 |ah=>
  refine fh fun x hx=>?_
  simp only[List.mem_cons,List.not_mem_nil,or_false] at hx
  rcases hx with rfl|rfl
  ·exact dp _ (s _ (by simp))
  ·exact dp _ (s _ (by simp))
 |mem b y d z=>
  refine fh fun x hx=>?_
  simp only[List.mem_cons,List.not_mem_nil,or_false] at hx
  rcases hx with rfl|rfl|rfl|rfl|rfl|rfl|rfl|rfl
  ·exact dp _ (s _ (by simp))
  ·exact dp _ (ml _ _)
  ·cases y with
   |none=>exact dp _ (s _ (by simp[OH]))
   |some y=>exact dp _ (ml _ _)
  ·exact eZ _ _
  ·exact eZ _ _
  ·exact eZ _ _
  ·exact dp _ (s _ (by simp))
  ·exact dp _ (s _ (by simp))
 |imm v=>
  refine fh fun x hx=>?_
  simp only[List.mem_cons,List.not_mem_nil,or_false] at hx
  rcases hx with rfl|rfl|rfl
  ·exact dp _ (s _ (by simp))
  ·exact eZ _ _
  ·exact dp _ (s _ (by simp))
def Eg(r:Rw):PyData:=.tuple [.str r.n.nm,.str "",.tuple (r.cos.map Nc)]
theorem MI(H:Hp)(n:Nat)(r:Rw):cD H (n+4) r.told=some (Eg r):=by
 have h:cD H (n+3) (.tup (r.cos.map CO.told))=some (.tuple (r.cos.map Nc)):=by
  rw[wu,cZ (gd:=Nc) fun x _=>N6 H n x];rfl
 unfold Rw.told CS
 rw[wu]
 simp only[jf,h]
 rfl
theorem J2{r:Rw}(h:r.Ok):vP 3 (Eg r):=by
 refine fh fun x hx=>?_
 simp only[List.mem_cons,List.not_mem_nil,or_false] at hx
 rcases hx with rfl|rfl|rfl
 ·exact dp _ (List.all_eq_true.mp NL r.n (List.mem_of_getElem? h.n))
 ·exact dp _ (by decide+kernel)
 ·exact fh fun y hy=>by
   obtain⟨c,_,rfl⟩:=List.mem_map.mp hy
   exact MG c
theorem JD{rs:List Rw}(g:∀ r∈rs,r.Good)(H:Hp):dA .NotEq (.lst (rs.map Rw.told)) (.lst (rs.map Rw.told)) H=some (false,H):=by
 have h8:cD H 8 (.lst (rs.map Rw.told))=some (.list (rs.map Eg)):=by
  rw[gL,cZ (gd:=Eg) fun x _=>MI H 3 x];rfl
 have hs:vP 64 (.list (rs.map Eg)):=mU (n:=4) (eI fun x hx=>by
  obtain⟨r,hr,rfl⟩:=List.mem_map.mp hx
  exact J2 (g r hr).ok) (by decide)
 show(match (Ic H (.lst (rs.map Rw.told)) (.lst (rs.map Rw.told))).map (!·) with
  |none=>none
  |some x=>some (x,H))=_
 rw[mB h8 h8 hs];rfl
def fD(m:Nat):PyData:=.list (((List.range 7).filter fun j=>m.testBit j).map fun j=>.str (bc j))
theorem EQ(j:Nat):PyData.strOk (bc j)=true:=by
 unfold bc
 split<;>decide+kernel
theorem JE{rs:List Rw}{L:Nat}{H:Hp}{a:Nat}(h:H[a]?=some (.lst ((List.range rs.length).map (ch rs L)))):dA .NotEq (.ref a) (.lst ((List.range rs.length).map (ch rs L))) H=some (false,H):=by
 have h7:∀ x∈List.range rs.length,cD H 7 (ch rs L x)=some (fD (127^^^pY (rs.drop (x+1)) L)):=fun x _=>by
  unfold ch fL
  rw[gL,cZ (f:=cD H 6) (g:=fun j=>MV.str (bc j)) (gd:=fun j=>PyData.str (bc j)) fun x _=>rfl];rfl
 have hx:cD H 8 (.ref a)=some (.list ((List.range rs.length).map fun x=>fD (127^^^pY (rs.drop (x+1)) L))):=by
  rw[yb h,cZ h7];rfl
 have hy:cD H 8 (.lst ((List.range rs.length).map (ch rs L)))=some (.list ((List.range rs.length).map fun x=>fD (127^^^pY (rs.drop (x+1)) L))):=by
  rw[gL,cZ h7];rfl
 have hs:vP 64 (.list ((List.range rs.length).map fun x=>fD (127^^^pY (rs.drop (x+1)) L))):=mU (n:=2) (eI fun x hx=>by
  obtain⟨k,_,rfl⟩:=List.mem_map.mp hx
  exact eI fun y hy=>by
   obtain⟨j,_,rfl⟩:=List.mem_map.mp hy
   exact dp _ (EQ j)) (by decide)
 show(match (Ic H (.ref a) (.lst ((List.range rs.length).map (ch rs L)))).map (!·) with
  |none=>none
  |some x=>some (x,H))=_
 rw[mB hx hy hs];rfl
theorem JX{rs:List Rw}(g:∀ r∈rs,r.Good)(h0:rs≠[])(hn:rs.length≤6){L:Nat}(hL:L < 128){H:Hp}{p:Pt}{w:W}(hh:dB H p w)(hw:qX w 0 0)(sc ba bi:MV):∃ H',A6 (ab T 7) sc ba (.lst gK) bi (.lst (fL L)) (.lst (rs.map Rw.val)) (.ref p.w) H=some (.bool true,H'):=by
 have e1:=tK g hn H
 have e2:ai (ab T 7) "dead_flags" [ret (.lst (rs.map Rw.val)),ret (.lst (fL L))] H=some (.ref H.length,H++[.lst ((List.range rs.length).map (ch rs L))]):=Kf g h0 hn hL H
 have hd:=hh.app [.lst ((List.range rs.length).map (ch rs L))]
 have hd2:(H++[MO.lst ((List.range rs.length).map (ch rs L))])[H.length]?=some (.lst ((List.range rs.length).map (ch rs L))):=by simp
 generalize H++[.lst ((List.range rs.length).map (ch rs L))]=H1 at *
 obtain⟨G,e3⟩:=zX g hn H1
 have hg:=hd.app G
 have hg2:(H1++G)[H.length]?=some (.lst ((List.range rs.length).map (ch rs L))):=by rw[List.getElem?_append_left (List.getElem?_eq_some_iff.mp hd2).1];exact hd2
 generalize H1++G=H2 at *
 have e4:=Cr g hn hg
 have e5:=Fu g hn hL H2
 have e6:oD [aO .NotEq (ret (.ref H.length)) (ret (.lst ((List.range rs.length).map (ch rs L)))),aO .NotEq (Bx (ab T 7) (.lst (rs.map Rw.val))) (ret (.lst (rs.map Rw.told)))] H2=some (false,H2):=by
  rw[iX,aa,bS,aa,ad]
  dsimp only
  rw[aa,ad]
  dsimp only
  rw[JE hg2]
  dsimp only
  rw[cond_false,iX,aa,bS,aa,tK g hn H2]
  dsimp only
  rw[aa,ad]
  dsimp only
  rw[JD g H2]
  rfl
 -- the copy
 have hc:=vw (w:=w) hg.1.t
 have e7:ai (ab T 7) "_law_copy" [ret (.ref p.w)] H2=some (.ref (cH H2.length p.t).w,H2++iE H2.length p.t w):=by
  rw[cM]
  show an T (ab T 6) (fnOf "_law_copy") [.ref p.w] H2=_
  rw[EM,ug _ hg (by rw[hw.lr];decide) (Nat.le_trans hw.lm (by decide))]
  rfl
 have k3:eS [] H2 (H2++iE H2.length p.t w):=gF _ _
 have hw3:=hg.keep k3 (by simp) (by simp)
 have ge:∀ x∈(cH H2.length p.t).prts,H2.length≤x:=fun x hx=>by
  simp only[Pt.prts,cH,List.mem_cons,List.not_mem_nil,or_false] at hx
  omega
 have lt:=vi hg
 generalize H2++iE H2.length p.t w=H3 at *
 have okc:qX (jk w) 0 0:=⟨hw.lr,hw.br,hw.lm,hw.bm,hw.f,Nat.zero_le _,Nat.zero_le _⟩
 let V:LV:=⟨sc,ba,.lst gK,bi,.lst (fL L),.lst (rs.map Rw.val),.ref p.w,.lst (rs.map Rw.told),.ref H.length,fz rs,oU rs,.lst ((List.range rs.length).map (ch rs L)),.ref (cH H2.length p.t).w⟩
 have hok:∀ r∈rs,r.Ok:=fun r hr=>(g r hr).ok
 obtain⟨we,h4,x4,e8,a4,k4,ok4,c4⟩:=yG (cl:=ab T 7) rfl (g:=19) (s:=Mb) (env:=fun x=>eR V x none none none) (p:=cH H2.length p.t) (fun v x K H=>N7 _ V x none none none K v H) (GZ (ab T 7)) (rs:=rs) hok (k:=0) (q:=0) (x:=none) (by omega) (by omega) hc okc
 have hw4:=hw3.keep k4 (fun x hx hm=>absurd (ge x hm) (by have:=lt.1 x hx;omega)) (fun hm=>absurd (ge _ hm) (by have:=lt.2;omega))
 have lo:On V rs L p (cH H2.length p.t) w.core we:={
  g:=g
  n:=hn
  l:=hL
  ro:=rfl
  wo:=rfl
  to:=rfl
  li:=rfl
  du:=rfl
  pl:=rfl
  pt:=rfl
  dj:=fun x hx hm=>absurd (ge x hx) (by have:=lt.1 x hm;omega)
  c:=hw.core
  en:=c4
  wm:=Nat.le_trans ok4.lm (by omega) }
 obtain⟨h5,e9⟩:=ta lo rs.length 0 (Nat.zero_add _) (H:=h4) (w:=w) ⟨hw4,a4,hw,rfl⟩ x4 none none none
 refine⟨h5,?_⟩
 unfold A6
 rw[aa,e1]
 dsimp only
 rw[aa,e2]
 dsimp only
 rw[aa,e3]
 dsimp only
 rw[aa,e4]
 dsimp only
 rw[aa,e5]
 dsimp only
 rw[cF,aa,e6]
 dsimp only
 rw[cond_false,aa,e7]
 dsimp only
 rw[aa,mT (vs:=rs.map Rw.told) (by simp;omega) rfl]
 dsimp only
 refine e8.trans ?_
 rw[Oy,aa]
 have e10:ee [cU "len" [ret V.ro]] h4=some (gE 0 rs.length,h4):=by
  unfold ee
  rw[aa,aJ,aa,p6 (by simp;omega)]
  dsimp only
  rw[aa,bC]
  dsimp only
  rw[ad]
  dsimp only
  rw[List.length_map]
  have:dN [.int (rs.length:Int)]=some (gE 0 rs.length):=by
   show(bif small (rs.length:Int) then some (di 0 (rs.length:Int)) else none)=_
   rw[ki (by omega),GS];rfl
  rw[this];rfl
 rw[e10]
 exact e9
def KL:Fn:=fnOf "_law_bag"
def yZ(sc n:MV)(x:Option MV):Ev:=[("script",some sc),("number",some n),("cell",x)]
def pK(cl:Fn→List MV→M MV)(ρ:Ev):M MV:=fC T (eU T cl 19) KL.scope (KL.body.drop 2) ρ fun _=>ret .none
def JO(k:Int):M MV:=bu .Pow (ret (.int 2)) (ret (.int k))
def vN:Fn:=fnOf "_law_world"
def n7(ba:MV)(nu:Option MV)(ws wo:MV)(wh bi pl na:Option MV):Ev:=[("bag",some ba),("number",nu),("worths",some ws),("world",some wo),("worth",wh),("bits",bi),("place",pl),("name",na)]
def Ee(cl:Fn→List MV→M MV)(ρ:Ev):M MV:=fC T (eU T cl 19) vN.scope (vN.body.drop 3) ρ fun _=>ret .none
def HE(cl:Fn→List MV→M MV)(ρ:Ev):M MV:=fC T (eU T cl 19) vN.scope (vN.body.drop 5) ρ fun _=>ret .none
def yP(ws v:MV):M MV:=bu .Mod (bu .Add (bu .Mult (aq (ret ws) (bu .Mod (ret v) (ret (.int 3)))) (bu .Add (bu .Mult (ret (.int 2)) (ret v)) (ret (.int 1)))) (bu .Mult (ret v) (ret (.int 19088743)))) (JO 64)
def Kw(cl:Fn→List MV→M MV)(ba wh:MV):M MV:=aq (bP [ret wh,bu .Mod (ret wh) (JO 16),bu .Sub (JO 64) (ret (.int 1)),JO 63,ret (.int 0)]) (ai cl "_law_take" [ret ba,ret (.int 5)])
def yp(cl:Fn→List MV→M MV):M MV:=qU [(ret (.str "t"),ai cl "_law_places" []),(ret (.str "r"),r9 []),(ret (.str "m"),Ot []),(ret (.str "f"),qU []),(ret (.str "read"),r9 []),(ret (.str "set"),r9 []),(ret (.str "load"),ret (.bool false)),(ret (.str "store"),ret (.bool false))]
section
variable(cl:Fn→List MV→M MV)(K:Ev→M MV)(v:MV)(H:Hp)
theorem NG(sc:MV):an T cl (fnOf "_law_bag") [sc] H=bnd (eP (D0 (ret sc) (ret none) (A7 (ret (.int 24))))) (fun vs=>dc cl 19 KL (eJ KL.body 1) (pK cl) vs (yZ sc (.int 7) none)) H:=by kernel_rfl
theorem Lq(sc n:MV)(x:Option MV):jb cl 19 KL (eJ KL.body 1) v (yZ sc n x) K H=bnd (bu .Add (bu .Mult (ret n) (ret (.int 1000033))) (bu .Mod (ret v) (bu .Pow (ret (.int 10)) (ret (.int 120))))) (fun n'=>K (yZ sc n' (some v))) H:=by kernel_rfl
theorem K3(sc n:MV)(x:Option MV):pK cl (yZ sc n x) H=ifT (aO .Lt (ret n) (bu .Pow (ret (.int 10)) (ret (.int 50)))) (bnd (bu .Pow (ret n) (ret (.int 5))) fun n'=>r9 [ret n']) (r9 [ret n]) H:=by kernel_rfl
theorem Ir(ba:MV):an T cl (fnOf "_law_world") [ba] H=bnd (bw (ee [ret (.int 3)]) fun c=>bn (ret true) (ai cl "_law_take" [ret ba,JO 64])) (fun ws=>bnd (yp cl) fun wo=>bnd (ee [ret (.int 10)]) fun vs=>dc cl 19 vN (eJ vN.body 2) (Ee cl) vs (n7 ba none ws wo none none none none)) H:=by kernel_rfl
variable(ba ws wo:MV)(nu wh bi pl na:Option MV)
theorem N4:jb cl 19 vN (eJ vN.body 2) v (n7 ba nu ws wo wh bi pl na) K H=bnd (yP ws v) (fun wh=>dU (bk cl (aq (ret wo) (ret (.str "r"))) "append" [Kw cl ba wh]) (K (n7 ba (some v) ws wo (some wh) bi pl na))) H:=by kernel_rfl
theorem OJ:Ee cl (n7 ba nu ws wo wh bi pl na) H=bnd (ai cl "_law_take" [ret ba,ret (.int 128)]) (fun bi=>bnd (Mw "enumerate" [ai cl "_law_names" []]) fun vs=>dc cl 19 vN (eJ vN.body 4) (HE cl) vs (n7 ba nu ws wo wh (some bi) pl na)) H:=by kernel_rfl
theorem NF(bi a b:MV):jb cl 19 vN (eJ vN.body 4) (.tup [a,b]) (n7 ba nu ws wo wh (some bi) pl na) K H=v6 (bu .Mod (bu .FloorDiv (ret bi) (bu .Pow (ret (.int 2)) (ret a))) (ret (.int 2))) (aq (ret wo) (ret (.str "f"))) (ret b) (K (n7 ba nu ws wo wh (some bi) (some a) (some b))) H:=by kernel_rfl
theorem Oo:HE cl (n7 ba nu ws wo wh bi pl na) H=some (wo,H):=by kernel_rfl
end
theorem tQ{c:Nat}(hc:1≤c)(H:Hp):ai (ab T c) "_law_names" [] H=some (.lst gK,H):=lift hc (by kernel_rfl:ab T 1 (fnOf "_law_names") [] H=some (.lst gK,H))
def Li:MO:=.dcs [("t",.ref 1),("r",.ref 2),("m",.ref 3),("f",.ref 4),("read",.ref 5),("set",.ref 6),("load",.bool false),("store",.bool false)]
def WH(n:Int)(xs:List MV)(fs:List (Str×MV)):Hp:=[.lst [.int n],.dcs bO,.lst xs,.dci [],.dcs fs,.lst [],.lst [],Li]
theorem zI(n:Int):ab T 1 (fnOf "_law_places") [] [.lst [.int n]]=some (.ref 1,[.lst [.int n],.dcs bO]):=by kernel_rfl
theorem yM(cl:Fn→List MV→M MV)(n:Int)(h:cl (fnOf "_law_places") [] [.lst [.int n]]=some (.ref 1,[.lst [.int n],.dcs bO])):yp cl [.lst [.int n]]=some (.ref 7,WH n [] []):=by
 have e:ai cl "_law_places" [] [.lst [.int n]]=some (.ref 1,[.lst [.int n],.dcs bO]):=h
 unfold yp qU
 rw[aa]
 simp only[L2,aa,ad,e]
 rfl
theorem EG:Bs 10=true:=by decide+kernel
def z8:Int:=10 ^ 120
theorem qV:0 < z8:=by decide+kernel
theorem Ki:z8≤2 ^ 400:=by decide+kernel
theorem Kc:sm z8=true:=by decide+kernel
theorem Pd(H:Hp):bu .Pow (ret (.int 10)) (ret (.int 120)) H=some (.int z8,H):=by
 rw[bI,aa,ad]
 dsimp only
 rw[aa,ad]
 dsimp only
 rw[tF EG (by decide) (by decide)]
 rfl
set_option exponentiation.threshold 3000 in
theorem GD {n c:Int} {k:Nat} (hk:k≤24) (h0:0≤n) (h1:n≤2 ^ (420+20 * k)):0≤n * 1000033+c.fmod z8∧n * 1000033+c.fmod z8≤2 ^ (420+20 * (k+1)):=by
 have a1:=Int.fmod_nonneg_of_pos c qV
 have a2:=Int.fmod_lt_of_pos c qV
 have a3:=Ki
 have a4:(2:Int) ^ 400≤2 ^ (420+20 * k):=iL (by omega)
 have a5:(2:Int) ^ (420+20 * (k+1))=2 ^ (420+20 * k) * 1048576:=by
  rw[show 420+20 * (k+1)=420+20 * k+20 by omega,Int.pow_add];rfl
 rw[a5]
 generalize (2:Int) ^ (420+20 * k)=B at *
 generalize (2:Int) ^ 400=D at *
 omega
theorem M8{a:Int}{k:Nat}(h0:0≤a)(hk:k≤2000)(h:a≤2 ^ k):sm a=true:=rI ⟨by have:(0:Int) < 2 ^ 2000:=Int.pow_pos (by decide);omega,Int.le_trans h (iL hk)⟩
theorem xi{cl:Fn→List MV→M MV}{K:Ev→M MV}{sc:MV}{H:Hp}:∀ (is:List Int) (k:Nat) (n:Int) (x:Option MV),is.length+k≤24→0≤n→n≤2 ^ (420+20 * k)→∃ n' x',dc cl 19 KL (eJ KL.body 1) K (is.map .int) (yZ sc (.int n) x) H=K (yZ sc (.int n') x') H∧0≤n'∧n'≤2 ^ 900
 |[],k,n,x,hk,h0,h1=>⟨n,x,rfl,h0,Int.le_trans h1 (iL (by simp at hk;omega))⟩
 |c::is,k,n,x,hk,h0,h1=>by
  simp only[List.length_cons] at hk
  obtain⟨s0,s1⟩:=GD (c:=c) (k:=k) (by omega) h0 h1
  obtain⟨n',x',e,r0,r1⟩:=xi (cl:=cl) (K:=K) (sc:=sc) (H:=H) is (k+1) _ (some (.int c)) (by omega) s0 s1
  refine⟨n',x',?_,r0,r1⟩
  rw[List.map_cons,dq,Lq]
  have e1:bu .Mult (ret (.int n)) (ret (.int 1000033)) H=some (.int (n * 1000033),H):=by
   rw[bI,aa,ad]
   dsimp only
   rw[aa,ad]
   dsimp only
   rw[Hi (M8 h0 (by omega) h1) (by decide+kernel)]
   rfl
  have e2:bu .Mod (ret (.int c)) (bu .Pow (ret (.int 10)) (ret (.int 120))) H=some (.int (c.fmod z8),H):=by
   rw[bI,aa,ad]
   dsimp only
   rw[aa,Pd]
   dsimp only
   rw[tE Kc (by have:=qV;omega)]
   rfl
  rw[aa,bI,aa,e1]
  dsimp only
  rw[aa,e2]
  dsimp only
  rw[HJ,kT]
  exact e
set_option exponentiation.threshold 3000 in
theorem LD {c:Nat} (hc:1≤c) {is:List Int} (hl:is.length≤63):∃ n:Int,ai (ab T c) "_law_bag" [ret (.raw (is.map .int))] []=some (.ref 0,[.lst [.int n]]):=by
 obtain⟨c,rfl⟩:∃ d,c=d+1:=⟨c - 1,by omega⟩
 obtain⟨n,x,e,h0,h1⟩:=xi (cl:=ab T c) (K:=pK (ab T c)) (sc:=.raw (is.map .int)) (H:=[]) (is.take 24) 0 7 none (by simp;omega) (by decide) (by decide+kernel)
 have ei:eP (D0 (ret (.raw (is.map .int))) (ret none) (A7 (ret (.int 24)))) []=some ((is.take 24).map .int,[]):=by
  have e2:dd (.raw (is.map MV.int)) none (some 24)=some (.lst ((is.take 24).map .int)):=by
   show(bif bZ (is.map MV.int) then some (MV.lst (cut (is.map MV.int) none (some 24))) else none)=_
   rw[bN (by simp;omega),cond_true]
   unfold cut W.kms_lo W.kms_hi
   dsimp only
   rw[if_neg (by decide),List.drop_zero,Nat.sub_zero,←List.map_take]
   congr 3
   simp only[List.length_map]
   by_cases h:is.length≤24
   ·rw[List.take_of_length_le (by omega),List.take_of_length_le h]
   ·rw[Nat.min_eq_left (by omega)];rfl
  unfold eP
  rw[aa,BZ,aa,ad]
  dsimp only
  rw[aa,ad]
  dsimp only
  have e3:A7 (ret (.int 24)) []=some (some (24:Int),[]):=rfl
  rw[aa,e3]
  dsimp only
  rw[e2]
  show(bif bZ ((is.take 24).map MV.int) then ret ((is.take 24).map MV.int) else fail) []=_
  rw[bN (by simp;omega)];rfl
 have new:∀ m:Int,r9 [ret (.int m)] []=some (.ref 0,[.lst [.int m]]):=fun m=>rfl
 have p50:bu .Pow (ret (.int 10)) (ret (.int 50)) []=some (.int (10 ^ 50),[]):=by
  rw[bI,aa,ad]
  dsimp only
  rw[aa,ad]
  dsimp only
  rw[tF EG (by decide) (by decide)]
  rfl
 have fin:∃ m:Int,pK (ab T c) (yZ (.raw (is.map .int)) (.int n) x) []=some (.ref 0,[.lst [.int m]]):=by
  rw[K3,cF,aa,bS,aa,ad]
  dsimp only
  rw[aa,p50]
  dsimp only
  rw[OB]
  dsimp only
  cases decide (n < 10 ^ 50) with
  |false=>exact⟨n,new n⟩
  |true=>
   refine⟨n ^ 5,?_⟩
   have hs:Bs n=true:=by
    unfold Bs
    have:n.natAbs≤2 ^ 900:=by
     have:(n.natAbs:Int)≤((2 ^ 900:Nat):Int):=by rw[Int.natCast_pow];omega
     exact Int.ofNat_le.mp this
    exact Nat.blt_eq.mpr (Nat.lt_of_le_of_lt this (by decide+kernel))
   rw[cond_true,aa,bI,aa,ad]
   dsimp only
   rw[aa,ad]
   dsimp only
   rw[tF hs (by decide) (by decide)]
   exact new _
 obtain⟨m,em⟩:=fin
 refine⟨m,?_⟩
 rw[cM]
 show an T (ab T c) (fnOf "_law_bag") [.raw (is.map .int)] []=_
 rw[NG,aa,ei]
 dsimp only
 rw[e,em]
theorem Kh{L:Nat}(H:Hp):FT (.lst gK) (.int (L:Int)) H=some (.lst (fL L),H):=by
 unfold FT bw
 have e0:ee [ret (.int 7)] H=some ((List.range 7).map fun(k:Nat)=>.int (k:Int),H):=by kernel_rfl
 rw[aa,e0]
 dsimp only
 rw[aa,hW (p:=L.testBit) (g:=fun k=>.str (bc k)) fun k hk=>?_]
 ·rfl
 ·have hk7:=List.mem_range.mp hk
  have e1:bu .Pow (ret (.int 2)) (ret (.int (k:Int))) H=some (.int ((2 ^ k:Nat):Int),H):=by
   rw[bI,aa,ad]
   dsimp only
   rw[aa,ad]
   dsimp only
   rw[tF EU (by omega) (by omega),Int.toNat_natCast,Int.natCast_pow]
   rfl
  have hsm:sm ((2 ^ k:Nat):Int)=true:=lv (Nat.pow_le_pow_right (by decide) (by omega))
  have hp:(0:Int) < ((2 ^ k:Nat):Int):=by
   have:0 < 2 ^ k:=Nat.pow_pos (by decide)
   omega
  have e2:bu .FloorDiv (ret (.int (L:Int))) (bu .Pow (ret (.int 2)) (ret (.int (k:Int)))) H=some (.int ((L / 2 ^ k:Nat):Int),H):=by
   rw[bI,aa,ad]
   dsimp only
   rw[aa,e1]
   dsimp only
   rw[BO hsm (by omega),Int.fdiv_eq_ediv_of_nonneg _ (by omega)]
   rfl
  have e3:bu .Mod (bu .FloorDiv (ret (.int (L:Int))) (bu .Pow (ret (.int 2)) (ret (.int (k:Int))))) (ret (.int 2)) H=some (.int ((L / 2 ^ k % 2:Nat):Int),H):=by
   rw[bI,aa,e2]
   dsimp only
   rw[aa,ad]
   dsimp only
   rw[tE (by decide+kernel) (by decide),Int.fmod_eq_emod_of_nonneg _ (by decide)]
   rfl
  have e4:(((L / 2 ^ k % 2:Nat):Int)==1)=L.testBit k:=by
   rw[Nat.testBit_eq_decide_div_mod_eq,Bool.eq_iff_iff,beq_iff_eq,decide_eq_true_eq]
   exact⟨fun h=>Int.ofNat.inj h,fun h=>congrArg Int.ofNat h⟩
  have e5:aO .Eq (bu .Mod (bu .FloorDiv (ret (.int (L:Int))) (bu .Pow (ret (.int 2)) (ret (.int (k:Int))))) (ret (.int 2))) (ret (.int 1)) H=some (L.testBit k,H):=by
   rw[bS,aa,e3]
   dsimp only
   rw[aa,ad]
   dsimp only
   rw[D9,e4]
  have e6:aq (ret (.lst gK)) (ret (.int (k:Int))) H=some (.str (bc k),H):=bg (B8 H) k hk
  rw[dR,aa,mv,aa,e5]
  dsimp only
  cases L.testBit k with
  |false=>rfl
  |true=>
   show(match some (true,H) with
    |none=>none
    |some (a,h')=>(bif a then bnd (aq (ret (.lst gK)) (ret (.int (k:Int)))) fun y=>ret (some y) else ret none:M (Option MV)) h')=_
   dsimp only
   rw[cond_true,aa,e6];rfl
theorem EN:aE (aq (bP [ai (ab T 7) "_law_take" [ret (.ref 0),ret (.int 128)],ret (.int 127),ret (.int 0)]) (ai (ab T 7) "_law_take" [ret (.ref 0),ret (.int 3)])) (fun v=>∃ L:Nat,v=.int (L:Int)∧L < 128):=by
 refine aE.bnd (P:=fun v=>∃ a:Nat,a < 128∧v=.lst [.int (a:Int),.int 127,.int 0]) ?_ fun l hl=>?_
 ·refine aE.bnd (P:=fun vs=>∃ a:Nat,a < 128∧vs=[.int (a:Int),.int 127,.int 0]) ((bM (by decide) 128 (by decide)).cons fun v hv=>?_) fun vs hvs=>?_
  ·obtain⟨a,rfl,ha⟩:=hv
   exact aE.pure (a:=[.int 127,.int 0]) (fun H=>rfl) ⟨a,ha,rfl⟩
  ·obtain⟨a,ha,rfl⟩:=hvs
   exact aE.pure (fun H=>rfl) ⟨a,ha,rfl⟩
 ·obtain⟨a,ha,rfl⟩:=hl
  refine aE.bnd (bM (by decide) 3 (by decide)) fun i hi=>?_
  obtain⟨i,rfl,hi⟩:=hi
  match i,hi with
  |0,_=>exact aE.pure (fun H=>rfl) ⟨a,rfl,ha⟩
  |1,_=>exact aE.pure (fun H=>rfl) ⟨127,rfl,by decide⟩
  |2,_=>exact aE.pure (fun H=>rfl) ⟨0,rfl,by decide⟩
def Mx(m:Nat)(ys:List MV):Prop:=∃ rs:List Rw,(∀ r∈rs,r.Good)∧rs.length=m∧ys=rs.map Rw.val
theorem tV:∀ vs:List MV,aE (bQ (fun c=>bn (ret true) (ai (ab T 7) "_law_row" [ret (.ref 0)])) vs) (Mx vs.length)
 |[]=>aE.ret ⟨[],by simp,rfl,rfl⟩
 |v::vs=>by
  refine aE.bnd (P:=fun o=>∃ r:Rw,r.Good∧o=some r.val) ?_ fun o ho=>?_
  ·refine aE.bnd (P:=fun b=>b=true) (aE.ret rfl) fun b hb=>?_
   subst hb
   exact aE.bnd (Gl (by decide)) fun y hy=>aE.ret (by
    obtain⟨r,g,rfl⟩:=hy
    exact⟨r,g,rfl⟩)
  ·obtain⟨r,g,rfl⟩:=ho
   refine aE.bnd (tV vs) fun ys hys=>?_
   obtain⟨rs,gs,hl,rfl⟩:=hys
   exact aE.ret ⟨r::rs,fun x hx=>by
    rcases List.mem_cons.mp hx with rfl|hx
    ·exact g
    ·exact gs x hx,by simp[hl],rfl⟩
theorem En:aE (bw (ee [bu .Add (ret (.int 1)) (ai (ab T 7) "_law_take" [ret (.ref 0),ret (.int 6)])]) fun c=>bn (ret true) (ai (ab T 7) "_law_row" [ret (.ref 0)])) (fun v=>∃ rs:List Rw,(∀ r∈rs,r.Good)∧rs≠[]∧rs.length≤6∧v=.lst (rs.map Rw.val)):=by
 refine aE.bnd (P:=fun vs=>1≤vs.length∧vs.length≤6) ?_ fun vs hvs=>?_
 ·refine aE.bnd (P:=fun vs=>∃ i:Nat,i < 6∧vs=[.int (1+(i:Int))]) (aE.cons (P:=fun v=>∃ i:Nat,i < 6∧v=.int (1+(i:Int))) (aE.bnd (aE.ret (P:=fun v=>v=.int 1) rfl) fun a ha=>aE.bnd (bM (by decide) 6 (by decide)) fun b hb=>?_) fun v hv=>aE.nil ?_) fun vs hvs=>?_
  ·subst ha
   obtain⟨i,rfl,hi⟩:=hb
   exact aE.pure (fun H=>rfl) ⟨i,hi,rfl⟩
  ·obtain⟨i,hi,rfl⟩:=hv
   exact⟨i,hi,rfl⟩
  ·obtain⟨i,hi,rfl⟩:=hvs
   match i,hi with
   |0,_|1,_|2,_|3,_|4,_|5,_=>exact aE.pure (fun H=>rfl) (by decide)
 ·refine aE.bnd (tV vs) fun ys hys=>?_
  obtain⟨rs,g,hl,rfl⟩:=hys
  exact aE.ret ⟨rs,g,fun h=>by rw[h] at hl;simp at hl;omega,by omega,rfl⟩
def sp:Nat:=18446744073709551616
theorem NX(H:Hp):JO 64 H=some (.int (sp:Nat),H):=by kernel_rfl
theorem L9:aE (ai (ab T 6) "_law_take" [ret (.ref 0),JO 64]) (GT sp):=fun n R=>by
 have h:=vQ (c:=6) (by decide) sp (by decide) (lv (by decide)) n R
 obtain⟨v,n',e,p⟩:=h
 refine⟨v,n',?_,p⟩
 rw[dC,aa,aJ,aa,ad]
 dsimp only
 rw[aa,aJ,aa,NX]
 exact e
def Os(m:Nat)(ys:List MV):Prop:=∃ as:List Nat,(∀ a∈as,a < sp)∧as.length=m∧ys=as.map fun(a:Nat)=>.int (a:Int)
theorem Fk{A:M MV}{P:MV→Prop}{Q:Option MV→Prop}(h:aE A P)(k:∀ y,P y→Q (some y)):aE (bn (ret true) A) Q:=fun n R=>by
 obtain⟨v,n',e,p⟩:=h n R
 exact⟨some v,n',qc e,k v p⟩
theorem B0:∀ vs:List MV,aE (bQ (fun c=>bn (ret true) (ai (ab T 6) "_law_take" [ret (.ref 0),JO 64])) vs) (Os vs.length)
 |[]=>aE.ret ⟨[],by simp,rfl,rfl⟩
 |v::vs=>by
  refine aE.bnd (P:=fun o=>∃ a:Nat,a < sp∧o=some (.int (a:Int))) ?_ fun o ho=>?_
  ·exact Fk L9 fun y hy=>by
    obtain⟨i,rfl,hi⟩:=hy
    exact⟨i,hi,rfl⟩
  ·obtain⟨a,ha,rfl⟩:=ho
   refine aE.bnd (B0 vs) fun ys hys=>?_
   obtain⟨as,h1,h2,rfl⟩:=hys
   exact aE.ret ⟨a::as,fun x hx=>by
    rcases List.mem_cons.mp hx with rfl|hx
    ·exact ha
    ·exact h1 x hx,by simp[h2],rfl⟩
theorem LI:aE (bw (ee [ret (.int 3)]) fun c=>bn (ret true) (ai (ab T 6) "_law_take" [ret (.ref 0),JO 64])) (fun v=>∃ a b d:Nat,a < sp∧b < sp∧d < sp∧v=.lst [.int (a:Int),.int (b:Int),.int (d:Int)]):=by
 refine aE.bnd (P:=fun vs=>vs=[.int 0,.int 1,.int 2]) (aE.pure (fun H=>by kernel_rfl) rfl) fun vs hvs=>?_
 subst hvs
 refine aE.bnd (B0 _) fun ys hys=>?_
 obtain⟨as,h1,h2,rfl⟩:=hys
 match as,h2,h1 with
 |[a,b,d],_,h1=>exact aE.ret ⟨a,b,d,h1 a (by simp),h1 b (by simp),h1 d (by simp),rfl⟩
def ND(a b d k:Nat):Nat:=match k % 3 with
 |0=>a
 |1=>b
 |_=>d
theorem JM(a b d:Nat)(H:Hp):((List.range 10).map fun(k:Nat)=>aq (ret (.lst [.int (a:Int),.int (b:Int),.int (d:Int)])) (bu .Mod (ret (.int (k:Int))) (ret (.int 3))) H)=(List.range 10).map fun k=>some (.int (ND a b d k:Nat),H):=by kernel_rfl
theorem JN(H:Hp):((List.range 10).map fun(k:Nat)=>bu .Add (bu .Mult (ret (.int 2)) (ret (.int (k:Int)))) (ret (.int 1)) H)=(List.range 10).map fun k=>some (.int ((2 * k+1:Nat):Int),H):=by kernel_rfl
theorem Ij(H:Hp):((List.range 10).map fun(k:Nat)=>bu .Mult (ret (.int (k:Int))) (ret (.int 19088743)) H)=(List.range 10).map fun k=>some (.int ((k * 19088743:Nat):Int),H):=by kernel_rfl
theorem Lj{a b d:Nat}(ha:a < sp)(hb:b < sp)(hd:d < sp)(k:Nat):ND a b d k < sp:=by
 unfold ND
 split
 ·exact ha
 ·exact hb
 ·exact hd
theorem E3{a b d:Nat}(ha:a < sp)(hb:b < sp)(hd:d < sp){k:Nat}(hk:k < 10)(H:Hp):∃ x:Nat,x < sp∧yP (.lst [.int (a:Int),.int (b:Int),.int (d:Int)]) (.int (k:Int)) H=some (.int (x:Int),H):=by
 have hk':=List.mem_range.mpr hk
 have hs:=Lj ha hb hd k
 have e1:=bg (JM a b d H) k hk'
 have e2:=bg (JN H) k hk'
 have e3:=bg (Ij H) k hk'
 refine⟨(ND a b d k * (2 * k+1)+k * 19088743) % sp,Nat.mod_lt _ (by decide),?_⟩
 have m1:bu .Mult (aq (ret (.lst [.int (a:Int),.int (b:Int),.int (d:Int)])) (bu .Mod (ret (.int (k:Int))) (ret (.int 3)))) (bu .Add (bu .Mult (ret (.int 2)) (ret (.int (k:Int)))) (ret (.int 1))) H=some (.int ((ND a b d k * (2 * k+1):Nat):Int),H):=by
  rw[bI,aa,e1]
  dsimp only
  rw[aa,e2]
  dsimp only
  rw[Hi (lv (Nat.le_of_lt hs)) (lv (Nat.le_trans (show 2 * k+1≤100 by omega) (by decide)))]
  rw[Int.natCast_mul]
  rfl
 unfold yP
 rw[bI,aa,bI,aa,m1]
 dsimp only
 rw[aa,e3]
 dsimp only
 rw[HJ,kT]
 dsimp only
 rw[aa,NX]
 dsimp only
 rw[tE (lv (by decide)) (by decide),←Int.natCast_add,Int.fmod_eq_emod_of_nonneg _ (by decide)]
 rfl
theorem HF{x:Nat}(hx:x < sp):aE (Kw (ab T 6) (.ref 0) (.int (x:Int))) (fun v=>∃ z:Int,v=.int z∧0≤z∧z≤18446744073709551615):=by
 refine(cz (c:=6) (n:=5) (vs:=[.int (x:Int),.int ((x:Int).fmod 65536),.int 18446744073709551615,.int 9223372036854775808,.int 0]) (fun H=>by kernel_rfl) (bM (by decide) 5 (by decide)) rfl (by decide)).mono fun v hv=>?_
 simp only[List.mem_cons,List.not_mem_nil,or_false] at hv
 rcases hv with rfl|rfl|rfl|rfl|rfl
 ·exact⟨_,rfl,by omega,by unfold sp at hx;omega⟩
 ·have:=Int.fmod_nonneg_of_pos (x:Int) (b:=65536) (by decide)
  have:=Int.fmod_lt_of_pos (x:Int) (b:=65536) (by decide)
  exact⟨_,rfl,by omega,by omega⟩
 ·exact⟨_,rfl,by decide,by decide⟩
 ·exact⟨_,rfl,by decide,by decide⟩
 ·exact⟨_,rfl,by decide,by decide⟩
theorem Nd{n:Int}{xs:List MV}(hl:xs.length≤100000){X:M MV}{P:MV→Prop}(hX:aE X P)(cl:Fn→List MV→M MV)(K:M MV):∃ z n',P z∧dU (bk cl (aq (ret (.ref 7)) (ret (.str "r"))) "append" [X]) K (WH n xs [])=K (WH n' (xs++[z]) []):=by
 obtain⟨z,n',e,p⟩:=hX n [.dcs bO,.lst xs,.dci [],.dcs [],.lst [],.lst [],Li]
 have e:X (WH n xs [])=some (z,WH n' xs []):=e
 refine⟨z,n',p,?_⟩
 have i1:aq (ret (.ref 7)) (ret (.str "r")) (WH n xs [])=some (.ref 2,WH n xs []):=by kernel_rfl
 have i2:dI (.ref 2) "append" (WH n xs [])=some (1,WH n xs []):=by kernel_rfl
 have i3:bx 1 (.ref 2) "append" [z] (WH n' xs [])=some (.none,WH n' (xs++[z]) []):=by
  show(bif (1:Nat)==1&&("append":Str)=="append"&&bZ xs then some (MV.none,(WH n' xs []).set 2 (.lst (xs++[z]))) else none)=_
  rw[bN hl];rfl
 have i4:bk cl (aq (ret (.ref 7)) (ret (.str "r"))) "append" [X] (WH n xs [])=some (.none,WH n' (xs++[z]) []):=by
  rw[nW,aa,i1]
  dsimp only
  rw[aa,i2]
  dsimp only
  rw[aa,aJ,aa,e]
  dsimp only
  rw[aa,bC]
  dsimp only
  rw[ad]
  exact i3
 rw[gS,aa,i4]
theorem tz{a b d:Nat}(ha:a < sp)(hb:b < sp)(hd:d < sp)(K:Ev→M MV):∀ (m q:Nat) (n:Int) (xs:List Int) (nu wh bi pl na:Option MV),q+m=10→xs.length=q→(∀ x∈xs,0≤x∧x≤18446744073709551615)→∃ (n':Int) (ys:List Int) (nu' wh':Option MV),dc (ab T 6) 19 vN (eJ vN.body 2) K (gE q m) (n7 (.ref 0) nu (.lst [.int (a:Int),.int (b:Int),.int (d:Int)]) (.ref 7) wh bi pl na) (WH n (xs.map .int) [])=K (n7 (.ref 0) nu' (.lst [.int (a:Int),.int (b:Int),.int (d:Int)]) (.ref 7) wh' bi pl na) (WH n' (ys.map .int) [])∧ys.length=10∧∀ x∈ys,0≤x∧x≤18446744073709551615
 |0,q,n,xs,nu,wh,bi,pl,na,e,hl,hx=>⟨n,xs,nu,wh,rfl,by omega,hx⟩
 |m+1,q,n,xs,nu,wh,bi,pl,na,e,hl,hx=>by
  obtain⟨x,hx1,e1⟩:=E3 ha hb hd (show q < 10 by omega) (WH n (xs.map .int) [])
  obtain⟨z,n1,⟨z,rfl,z0,z1⟩,e2⟩:=Nd (n:=n) (xs:=xs.map .int) (by simp;omega) (HF hx1) (ab T 6) (dc (ab T 6) 19 vN (eJ vN.body 2) K (gE (q+1) m) (n7 (.ref 0) (some (.int (q:Int))) (.lst [.int (a:Int),.int (b:Int),.int (d:Int)]) (.ref 7) (some (.int (x:Int))) bi pl na))
  obtain⟨n2,ys,nu2,wh2,e3,l3,b3⟩:=tz ha hb hd K m (q+1) n1 (xs++[z]) (some (.int (q:Int))) (some (.int (x:Int))) bi pl na (by omega) (by simp[hl]) fun y hy=>by
   rcases List.mem_append.mp hy with hy|hy
   ·exact hx y hy
   ·rw[List.mem_singleton.mp hy];exact⟨z0,z1⟩
  refine⟨n2,ys,nu2,wh2,?_,l3,b3⟩
  rw[gE,dq,N4,aa,e1]
  dsimp only
  rw[e2,←e3,List.map_append]
  rfl
def o8(B j:Nat):List (Str×MV):=(List.range j).map fun i=>(bc i,.int ((B / 2 ^ i % 2:Nat):Int))
theorem J8(B:Nat):((List.range 7).map fun k=>put (bc k) (.int ((B / 2 ^ k % 2:Nat):Int)) (o8 B k))=(List.range 7).map fun k=>o8 B (k+1):=by kernel_rfl
def Nu:Nat→Nat→List MV
 |_,0=>[]
 |q,m+1=>.tup [.int (q:Int),.str (bc q)]::Nu (q+1) m
theorem MF{B k:Nat}(hk:k < 7)(H:Hp):bu .Mod (bu .FloorDiv (ret (.int (B:Int))) (bu .Pow (ret (.int 2)) (ret (.int (k:Int))))) (ret (.int 2)) H=some (.int ((B / 2 ^ k % 2:Nat):Int),H):=by
 have e1:bu .Pow (ret (.int 2)) (ret (.int (k:Int))) H=some (.int ((2 ^ k:Nat):Int),H):=by
  rw[bI,aa,ad]
  dsimp only
  rw[aa,ad]
  dsimp only
  rw[tF EU (by omega) (by omega),Int.toNat_natCast,Int.natCast_pow]
  rfl
 have hsm:sm ((2 ^ k:Nat):Int)=true:=lv (Nat.pow_le_pow_right (by decide) (by omega))
 have hp:(0:Int) < ((2 ^ k:Nat):Int):=by
  have:0 < 2 ^ k:=Nat.pow_pos (by decide)
  omega
 have e2:bu .FloorDiv (ret (.int (B:Int))) (bu .Pow (ret (.int 2)) (ret (.int (k:Int)))) H=some (.int ((B / 2 ^ k:Nat):Int),H):=by
  rw[bI,aa,ad]
  dsimp only
  rw[aa,e1]
  dsimp only
  rw[BO hsm (by omega),Int.fdiv_eq_ediv_of_nonneg _ (by omega)]
  rfl
 rw[bI,aa,e2]
 dsimp only
 rw[aa,ad]
 dsimp only
 rw[tE (by decide+kernel) (by decide),Int.fmod_eq_emod_of_nonneg _ (by decide)]
 rfl
theorem qh{B:Nat}{n:Int}{xs:List MV}{ws:MV}(K:Ev→M MV):∀ (m q:Nat) (nu wh pl na:Option MV),q+m=7→∃ pl' na',dc (ab T 6) 19 vN (eJ vN.body 4) K (Nu q m) (n7 (.ref 0) nu ws (.ref 7) wh (some (.int (B:Int))) pl na) (WH n xs (o8 B q))=K (n7 (.ref 0) nu ws (.ref 7) wh (some (.int (B:Int))) pl' na') (WH n xs (o8 B 7))
 |0,q,nu,wh,pl,na,e=>⟨pl,na,by rw[show q=7 by omega];rfl⟩
 |m+1,q,nu,wh,pl,na,e=>by
  obtain⟨pl',na',e1⟩:=qh (B:=B) (n:=n) (xs:=xs) (ws:=ws) K m (q+1) nu wh (some (.int (q:Int))) (some (.str (bc q))) (by omega)
  refine⟨pl',na',?_⟩
  rw[Nu,dq,NF,kI,aa,MF (by omega)]
  dsimp only
  have i1:∀ fs,aq (ret (.ref 7)) (ret (.str "f")) (WH n xs fs)=some (.ref 4,WH n xs fs):=fun fs=>by kernel_rfl
  rw[dE,aa,i1]
  dsimp only
  rw[aa,ad]
  dsimp only
  have i2:setItem (.ref 4) (.str (bc q)) (.int ((B / 2 ^ q % 2:Nat):Int)) (WH n xs (o8 B q))=some ((),WH n xs (o8 B (q+1))):=by
   have hl:Nat.ble (o8 B q).length 100000=true:=Nat.ble_eq_true_of_le (by unfold o8;simp;omega)
   show(bif Nat.ble (o8 B q).length 100000 then some ((),(WH n xs (o8 B q)).set 4 (.dcs (put (bc q) (.int ((B / 2 ^ q % 2:Nat):Int)) (o8 B q)))) else none)=_
   rw[hl,cond_true,bg (J8 B) q (List.mem_range.mpr (by omega))]
   rfl
  rw[aa,i2]
  exact e1
def p0:Pt:=⟨7,1,2,3,4,5,6⟩
def Of(B:Nat):Fl:=⟨((B / 2 ^ 0 % 2:Nat):Int),((B / 2 ^ 1 % 2:Nat):Int),((B / 2 ^ 2 % 2:Nat):Int),((B / 2 ^ 3 % 2:Nat):Int),((B / 2 ^ 4 % 2:Nat):Int),((B / 2 ^ 5 % 2:Nat):Int),((B / 2 ^ 6 % 2:Nat):Int)⟩
theorem LH(B:Nat):o8 B 7=(Of B).toL:=by kernel_rfl
theorem CB(n:Int)(xs:List Int)(f:Fl):dB (WH n (xs.map .int) f.toL) p0 ⟨xs,[],f,[],[],false,false⟩:=by
 refine⟨⟨by simp[WH,p0],by simp[WH,p0],by simp[WH,p0],by simp[WH,p0],by simp[WH,p0],by simp[WH,p0],rfl,by decide,by decide⟩,?_⟩
 apply List.ext_getElem?
 intro i
 rw[cy]
 match i with
 |0=>rfl
 |1=>rfl
 |2=>rfl
 |3=>rfl
 |4=>rfl
 |5=>rfl
 |6=>rfl
 |7=>rfl
 |i+8=>rfl
theorem Hx(n:Int):∃ h' w,ai (ab T 7) "_law_world" [ret (.ref 0)] [.lst [.int n]]=some (.ref 7,h')∧dB h' p0 w∧qX w 0 0:=by
 obtain⟨v,n1,e1,a,b,d,ha,hb,hd,rfl⟩:=LI n []
 have e2:=yM (ab T 6) n1 (lift (by decide) (zI n1))
 obtain⟨n2,ys,nu,wh,e3,ly,by'⟩:=tz ha hb hd (Ee (ab T 6)) 10 0 n1 [] none none none none none rfl rfl (by simp)
 obtain⟨v4,n3,e4,B,rfl,hB⟩:=bM (c:=6) (by decide) 128 (by decide) n2 [.dcs bO,.lst (ys.map .int),.dci [],.dcs [],.lst [],.lst [],Li]
 have e4:ai (ab T 6) "_law_take" [ret (.ref 0),ret (.int 128)] (WH n2 (ys.map .int) [])=some (.int (B:Int),WH n3 (ys.map .int) []):=e4
 obtain⟨pl,na,e5⟩:=qh (B:=B) (n:=n3) (xs:=ys.map .int) (ws:=.lst [.int (a:Int),.int (b:Int),.int (d:Int)]) (HE (ab T 6)) 7 0 nu wh none none rfl
 refine⟨WH n3 (ys.map .int) (Of B).toL,⟨ys,[],Of B,[],[],false,false⟩,?_,CB _ _ _,⟨ly,by',Nat.le_refl _,by simp,?_,Nat.le_refl _,Nat.le_refl _⟩⟩
 ·rw[cM]
  show an T (ab T 6) (fnOf "_law_world") [.ref 0] _=_
  rw[Ir,aa,e1]
  dsimp only
  rw[aa,e2]
  dsimp only
  have e6:∀ H,ee [ret (.int 10)] H=some (gE 0 10,H):=fun H=>by kernel_rfl
  rw[aa,e6]
  dsimp only
  refine e3.trans ?_
  rw[OJ,aa,e4]
  dsimp only
  have e7:∀ H,Mw "enumerate" [ai (ab T 6) "_law_names" []] H=some (Nu 0 7,H):=fun H=>by
   unfold Mw
   rw[aa,aJ,aa,tQ (by decide)]
   dsimp only
   rw[aa,bC]
   exact(by kernel_rfl:opt (dr "enumerate" [.lst gK]) H=some (Nu 0 7,H))
  rw[aa,e7]
  dsimp only
  refine e5.trans ?_
  rw[Oo,LH]
 ·refine Ba _ (fun x=>0≤x∧x≤1) fun j hj=>?_
  match j,hj with
  |0,_|1,_|2,_|3,_|4,_|5,_|6,_=>
   simp only[Of,Fl.at]
   omega
theorem law_true:∀ is:List Int,is.length≤63→∃ H',ab T 8 (fnOf "law") [.raw (is.map .int)] []=some (.bool true,H'):=fun is hl=>by
 obtain⟨n,e1⟩:=LD (c:=7) (by decide) hl
 obtain⟨v,n2,e3,L,rfl,hL⟩:=EN n []
 obtain⟨v,n3,e5,rs,g,h0,hn,rfl⟩:=En n2 []
 obtain⟨h',w,e6,hh,hw⟩:=Hx n3
 obtain⟨H',e7⟩:=JX g h0 hn hL hh hw (.raw (is.map .int)) (.ref 0) (.int (L:Int))
 refine⟨H',?_⟩
 show an T (ab T 7) (fnOf "law") [.raw (is.map .int)] []=_
 rw[M4]
 unfold KX
 rw[aa,e1]
 dsimp only
 rw[aa,tQ (by decide)]
 dsimp only
 rw[aa,e3]
 dsimp only
 rw[aa,Kh]
 dsimp only
 rw[aa,e5]
 dsimp only
 rw[aa,e6]
 exact e7
end
end Mine
namespace Mine.holds
def tw12657093848384798476:=0
def tw16617498834693519143:=0
def tw4853776891905718434:=0
def tw16315053957116525436:=0
def tw4422276619278600727:=0
def tw13860560629476652642:=0
def tw2682973687022302978:=0
def tw16568243084613897719:=0
def tw11759793716441912868:=0
def tw3259964661353284909:=0
def tw13980644296350529377:=0
def tw8754180013910929173:=0
def tw3964553439336064567:=0
def tw7454310139219270035:=0
def tw5606170894147618297:=0
def tw18232564904221570389:=0
def tw14374762386000251392:=0
def tw14741727360182536119:=0
def tw10846422607668537096:=0
def tw14905004743268000777:=0
def tw11379536335273661636:=0
def tw2936799095737714382:=0
def tw8564859838321607590:=0
def tw2108140421711172253:=0
def tw5698002777990276889:=0
def tw8551410553514715252:=0
def tw7255143783654795107:=0
def tw9321796208036801940:=0
def tw4998001990490953706:=0
def tw11408340709373832527:=0
def tw9101416567709711282:=0
def tw14537686803440442423:=0
def tw185807328385624810:=0
def tw11612728935029869629:=0
def tw7873036012977236159:=0
def tw6735552807121987811:=0
def tw8571184235532366510:=0
def tw17516818768086975123:=0
def tw15464432741802594518:=0
def tw6606875086121380550:=0
def tw3092724735428445279:=0
def tw6489310206099298910:=0
def tw9160933379109621080:=0
def tw5046306585264764695:=0
def tw4989695622661515502:=0
def tw13651502964188933756:=0
def tw12467034654032377186:=0
def tw4475622257904601326:=0
def tw4197124852483764760:=0
def tw685634667276709000:=0
def tw3279077582325829838:=0
def tw10954607271099289585:=0
def tw9878063783549791415:=0
def tw7145057240379410032:=0
def tw6817751937963910627:=0
def tw4772410448533662562:=0
def tw11568272619759294016:=0
def tw4957349377997413466:=0
def tw4624323801304008105:=0
def tw4532548537324856634:=0
def tw7459122314025714673:=0
def tw2370105137638165564:=0
def tw14456359579513077766:=0
def tw1477864382951527211:=0
def tw12584058235822683084:=0
def tw1672651397029140864:=0
def tw15663057623668237757:=0
def tw4485590747672999114:=0
def tw9866653766423218390:=0
def tw4947440936152756249:=0
def tw4320952357017371039:=0
def tw1688397885654501378:=0
def tw3930379177928381544:=0
def tw2796529661445839640:=0
def tw14638587884836417943:=0
def tw10705761992013847755:=0
def tw98196739984318054:=0
def tw3579648750931130658:=0
def tw6987649320729488474:=0
def tw12322914241283428633:=0
def tw16339685495627315695:=0
def tw9870243511197969610:=0
def tw17585196194217108160:=0
def tw18306687941130998258:=0
def tw3912065897935574273:=0
def tw14751579383510745608:=0
def tw14571696787620697854:=0
def tw17294395744611713098:=0
def tw14521024918404927360:=0
def tw12629177860411813126:=0
def tw17410980318550716163:=0
def tw12762722769849151566:=0
def tw6396523623945614605:=0
def tw8102643725754146565:=0
def tw3913789827741900086:=0
def tw5857794014393010482:=0
def tw5350216910946226995:=0
def tw17450472940649059298:=0
def tw14404905868111484630:=0
def tw8684541073956307770:=0
def tw9408521175777228426:=0
def tw18374689057720224539:=0
def tw10292701021901942622:=0
def tw13899955331829678731:=0
def tw12542415522573167287:=0
def tw16509688237979914955:=0
def tw12008902284401382014:=0
def tw2003794701753356343:=0
def tw4247038368700228457:=0
def tw17148229171239856432:=0
def tw16075053759526825020:=0
def tw4252685499439207924:=0
def tw244612440521699123:=0
def tw11378972443561828832:=0
def tw6816380694822836728:=0
def tw12056596633878991817:=0
def tw17647985033660283594:=0
def tw10817008591213730988:=0
def tw2322420239649074934:=0
def tw2511256036297951264:=0
def tw6871585250140865760:=0
def tw13676757877788619591:=0
def tw3198498235788789335:=0
def tw10677865647760817919:=0
def tw9327718836232418737:=0
def tw854715265852234644:=0
def tw10637851664137882224:=0
def tw16275521931939539341:=0
def tw438103235379743935:=0
def tw16986704738630991174:=0
def tw913316888116418275:=0
def tw4700713122064472571:=0
def tw1745271027643805418:=0
def tw4381757428849502282:=0
def tw9072656965561520583:=0
def tw8365977135183407358:=0
def tw11866763835798034582:=0
def tw10679687220464918932:=0
def tw9344402058402941293:=0
def tw11341941285841758863:=0
def tw14271935136423247726:=0
def tw7221694943082674061:=0
def tw9250495785965993271:=0
def tw11502601298335438083:=0
def tw10494946348260405530:=0
def tw2766847245526771718:=0
def tw6027180799015181879:=0
def tw17305823854243098232:=0
def tw13219762378693318442:=0
def tw1180276462324527112:=0
def tw13942211991455542721:=0
def tw16338696359196860668:=0
def tw14400433609042604536:=0
def tw5082999880386992228:=0
def tw9712817358965380444:=0
def tw9569093901706499007:=0
def tw17076291190057227869:=0
def tw14947864908287233490:=0
def tw10840139340582571922:=0
def tw4079574721724423606:=0
def tw3349518531870832243:=0
def tw8115153917610635543:=0
def tw4565384855192621650:=0
def tw1342200453600437244:=0
def tw7766415108573184305:=0
def tw9518972631687950247:=0
def tw13563289320671947111:=0
def tw2752272122444995253:=0
def tw4137399402427148948:=0
def tw2835070418663256649:=0
def tw16887932952891968693:=0
def tw18303498370074786342:=0
def tw15733542881966949079:=0
def tw3050561863661609479:=0
def tw3765845486045053717:=0
def tw17180457848445815676:=0
def tw14040500308302212198:=0
def tw15326264675407861456:=0
def tw16725066886706607050:=0
def tw820486334897136409:=0
def tw8163853742193369449:=0
def tw7791430327242384495:=0
def tw17549760099613038055:=0
def tw9284948610034456067:=0
def tw1952244555380585659:=0
def tw4796666493748621973:=0
def tw8336353537208430648:=0
def tw11451811409901075189:=0
def tw17720347871205013225:=0
def tw12354433232887552844:=0
def tw7998808928282977731:=0
def tw8267156744941353195:=0
def tw4952593789767209597:=0
def tw4137054072099604216:=0
def tw2277698456845511444:=0
def tw15696899695109872037:=0
def tw7058599786907716777:=0
def tw8440079175239025714:=0
def tw9462340624215136286:=0
def tw12091882185175152326:=0
def tw17040301576142915119:=0
def tw10009309266167291388:=0
def tw2697976716319701033:=0
def tw5959074840488112208:=0
def tw8067858942452583622:=0
def tw7877780744568003191:=0
def tw2167384251425162797:=0
def tw16497969686579978388:=0
def tw14747351113905286367:=0
def tw12461706298059298081:=0
def tw7365562674294520451:=0
def tw7885888744534978006:=0
def tw17591727778206626035:=0
def tw15216533652830951187:=0
def tw151567797773009622:=0
def tw954759294903293345:=0
def tw4695128735345963622:=0
def tw12095597400677081514:=0
def tw6305404595935261976:=0
def tw11472876989420892731:=0
def tw16697607604324151607:=0
def tw14856189802965030758:=0
def tw15296638952792297585:=0
def tw4374827463496512255:=0
def tw1032644102275906610:=0
def tw10726778698580467152:=0
def tw16034146489351607153:=0
def tw5531990279233569197:=0
def tw17087466662150396210:=0
def tw14012504350828624960:=0
def tw8454650750101055009:=0
def tw16461013251600362008:=0
def tw14777700561071354170:=0
def tw7398177500901678427:=0
def tw5145322182839607373:=0
def tw16281141667863336784:=0
def tw5583946556138506119:=0
def tw13306226422529918579:=0
def tw4408763645494598628:=0
def tw7580357766596436714:=0
def tw4659233104850659043:=0
def tw3969078344035082030:=0
def tw5768289875352899849:=0
def tw8827755016177155863:=0
def tw150268843892594924:=0
def tw303617358959260456:=0
def tw13564983018704479910:=0
def tw13108245259352980691:=0
def tw4287545629961986380:=0
def tw3081346186701454755:=0
def tw8253004272172430988:=0
def tw1438057683635843531:=0
def tw2395783193375807797:=0
def tw10066566674380323332:=0
def tw4921510776622977656:=0
def tw17955251653903534588:=0
def tw4648945120126745877:=0
def tw12870647732520690006:=0
def tw2720468260678641542:=0
def tw17629714610472425511:=0
def tw15349486494167490861:=0
def tw16569799976186059295:=0
def tw6654929391614583909:=0
def tw9367411864662104596:=0
def tw2562329033357795767:=0
def tw1389151227800987198:=0
def tw9645710685874896286:=0
def tw15383290158734973844:=0
def tw11210861575573996130:=0
def tw10684964147190113176:=0
def tw17533166617710000329:=0
def tw7840918076549728228:=0
def tw6270666701200070447:=0
def tw12343754954083223990:=0
def tw138917058343750897:=0
def tw4043779546988386903:=0
def tw7405762614669717487:=0
def tw5588498093969417903:=0
def tw1466284255255076664:=0
def tw10595842591828190984:=0
def tw7118747031804142146:=0
def tw11899092608841805274:=0
def tw14432740918813763817:=0
def tw1686462557126633389:=0
def tw10280545108713110612:=0
def tw13130249910395747862:=0
def tw8393340031374782525:=0
def tw3339025504875072537:=0
def tw2422663375537807432:=0
def tw8006095370074002437:=0
def tw8709608639225018423:=0
def tw7074641181814816541:=0
def tw9636209304261665903:=0
def tw14869886272290788767:=0
def tw3083665863380995925:=0
def tw13602253286356535353:=0
def tw341249449185904685:=0
def tw13060694101666355058:=0
def tw4837283352154931363:=0
def tw1316056555746827224:=0
def tw12135579543755162760:=0
def tw12528141070781557109:=0
def tw13069951337775981229:=0
def tw4157549862880800291:=0
def tw12883100574787851859:=0
def tw18202751451028033538:=0
def tw5857869478962280401:=0
def tw2045681113551912190:=0
def tw10634055019105834221:=0
def tw8868040359437915812:=0
def tw17642598502550569490:=0
def tw3393808461323943489:=0
def tw17988741175759917587:=0
def tw13606626462787063055:=0
def tw7753079526450916859:=0
def tw17094759248423572775:=0
def tw2823412116039181319:=0
def tw9541374612494854641:=0
def tw17631178891982236634:=0
def tw2781561513384061212:=0
def tw5932082505621288647:=0
def tw1446027475299390936:=0
def tw8575535491628544125:=0
def tw14394845925615563878:=0
def tw14263331781698699780:=0
def tw11394987932868277362:=0
def tw14642846902033847964:=0
def tw4753448620645791293:=0
def tw10238092577321643331:=0
def tw4397353207691548035:=0
def tw5300967816669126424:=0
def tw8186637812631136355:=0
def tw6234259597661685125:=0
def tw9309047703646887916:=0
def tw8324913547053779211:=0
def tw143733397751180983:=0
def tw17765825090018352961:=0
def tw759334954848157859:=0
def tw12370703938092414502:=0
def tw3378624336152846145:=0
def tw8930301468638573109:=0
def tw187104208977503339:=0
def tw14015465597193498493:=0
def tw4302478151189881795:=0
def tw15773771547523477324:=0
def tw5981487413272766262:=0
def tw960582308587345451:=0
def tw16438637452659292861:=0
def tw5747684920607356772:=0
def tw4290641577518128536:=0
def tw11619669790576578751:=0
def tw3521771025164786240:=0
def tw6159885450047824267:=0
def tw2156681307112010326:=0
def tw3381435865837020940:=0
def tw16939745714101447976:=0
def tw17751544043737166181:=0
def tw16878984735049331645:=0
def tw16796854770986717008:=0
def tw15573729904360925794:=0
def tw8260078842695283502:=0
def tw10953125311028157021:=0
def tw13338651292558784369:=0
def tw9039863090174473464:=0
def tw14083959995102712966:=0
def tw14145908162538725807:=0
def tw10255086910947774711:=0
def tw8168356752963748851:=0
def tw5295917329084666069:=0
def tw5099458221760260784:=0
def tw1357696155403014326:=0
def tw16920389981729717209:=0
def tw14247145606103189434:=0
def tw8239031253751857358:=0
def tw4698078265318845332:=0
def tw1311399786705062619:=0
def tw13995109926203733070:=0
def tw4071159065629566091:=0
def tw10894570999934473159:=0
def tw8903297777125119442:=0
def tw8087273147054526846:=0
def tw3864012138097595758:=0
def tw4636335402390110268:=0
def tw17698789649397450121:=0
def tw8413133151647880539:=0
def tw4132201380793018340:=0
def tw15750308709622187472:=0
def tw14781169843320478655:=0
def tw5948040445239067262:=0
def tw17551835440721493442:=0
def tw2451063411067222376:=0
def tw15027879205694222834:=0
def tw11021402016762074336:=0
def tw10540872416556608339:=0
def tw16239030619513480838:=0
def tw451927054276905756:=0
def tw63030109126827207:=0
def tw17144610094948777349:=0
def tw1639197193820686003:=0
def tw15654153127513851752:=0
def tw1092734292537931370:=0
def tw3914980098763439061:=0
def tw7991519602905016326:=0
def tw8276148420849259419:=0
def tw7688646387024053547:=0
def tw13208604148985916543:=0
def tw17597196502641442581:=0
def tw12507159582228453378:=0
def tw15566814792845459997:=0
def tw9019350299112921562:=0
def tw7072470231402172264:=0
def tw16492970923048177823:=0
def tw8086972369959518483:=0
def tw10853043219271619230:=0
def tw6549915499844065949:=0
def tw4717937361131159733:=0
def tw457036756085613805:=0
def tw707885073954110949:=0
def tw16049930973857864354:=0
def tw6848487089051665640:=0
def tw9486143321106344294:=0
def tw820627826665183454:=0
def tw17856180979147524769:=0
def tw6339512806697972703:=0
def tw18348608232412713582:=0
def tw5020977762268055686:=0
def tw1833173380454153921:=0
def tw4046193847619289583:=0
def tw13002855754428957212:=0
def tw7503737395920286060:=0
def tw12774209864397607762:=0
def tw8217837808669207805:=0
def tw12468101337765408714:=0
def tw15987345220168432620:=0
def tw8501281891715751146:=0
def tw7944191787301449481:=0
def tw3626213265524300766:=0
def tw15493915963290111440:=0
def tw1714096750540956960:=0
def tw16179787414501680475:=0
def tw9572162887998638646:=0
def tw96072713605637463:=0
def tw15762835226273150572:=0
def tw9143120035062812437:=0
def tw1118671588950128205:=0
def tw9732041140710341944:=0
def tw4480811336153992742:=0
def tw1577146010547175755:=0
def tw10061326939861387809:=0
def tw2448847960820234738:=0
def tw16740147826971877517:=0
def tw10071743356415266081:=0
def tw277530749850312333:=0
def tw12808162357026388105:=0
def tw1272921112123746405:=0
def tw8181182030571590737:=0
def tw13334661261001831826:=0
def tw16818068004342704306:=0
def tw1631988821682387397:=0
def tw9766128667603022514:=0
def tw10491065262344570346:=0
def tw13934561362821362623:=0
def tw6986334047273505590:=0
def tw12039203186867382747:=0
def tw1095465085569150570:=0
def tw8801499457356032720:=0
def tw9352973159707700526:=0
def tw4954732016240277505:=0
def tw4065146272016792997:=0
def tw6357344898813262543:=0
def tw17500814259130102135:=0
def tw15228004617427520810:=0
def tw3579776383272448420:=0
def tw14691085348537605332:=0
def tw5565848844497943877:=0
def tw14149781006570564392:=0
def tw17510143785770761814:=0
def tw1085116229181452980:=0
def tw2180479604254433311:=0
def tw3184581556216392744:=0
def tw9523873602847724419:=0
def tw1746326671092713903:=0
def tw13356387430892511905:=0
def tw15815842588268232306:=0
def tw2170955613840884034:=0
def tw18263738317455877889:=0
def tw14375228850674640113:=0
def tw12698916279152862973:=0
def tw7033360832409044607:=0
def tw4057953776094532316:=0
def tw7122917452565745793:=0
def tw15395134090581100920:=0
def tw4876135695594978501:=0
def tw1882270145967814011:=0
def tw15737458098272848843:=0
def tw15679414594044027071:=0
def tw15043986215568586124:=0
def tw2298022174073133013:=0
def tw15136828946037461428:=0
def tw17177450906650391178:=0
def tw13895526781322697374:=0
def tw15044018224587446200:=0
def tw14786066558164337950:=0
def tw17822619038779606285:=0
def tw6166532556598395850:=0
def tw11319453509113102234:=0
def tw18228655803557992608:=0
def tw14062913937729191461:=0
def tw2335221107431800076:=0
def tw10645105620128953169:=0
def tw1621136399060944247:=0
def tw15305512045591798990:=0
def tw15421342739227911939:=0
def tw16260029586006496120:=0
def tw12084871131945615253:=0
def tw1382383790286775375:=0
def tw5964785641998049897:=0
def tw11237496202790982473:=0
def tw12632932662738783937:=0
def tw14205006904943715905:=0
def tw5112738896828158680:=0
def tw11037822914523747621:=0
def tw2160012875989923789:=0
def tw8351548024695214574:=0
def tw8995863869359571168:=0
def tw6786515118028813453:=0
def tw14607219995997415800:=0
def tw6071243091437056723:=0
def tw2972900019843275892:=0
def tw2946744036017948005:=0
def tw9140063382869304120:=0
def tw10447927361281507451:=0
def tw10705619171732726748:=0
def tw14387954076880322906:=0
def tw4286360187039589740:=0
def tw16760418933842767799:=0
def tw16955119412671694080:=0
def tw3093010850272755244:=0
def tw8326223695736924558:=0
def tw12840991994722114650:=0
def tw5016061194280584464:=0
def tw2084331650109322480:=0
def tw2963349702327202441:=0
def tw4905061745869718969:=0
def tw13370180491053348:=0
def tw11623250428353690138:=0
def tw17858152450515298520:=0
def tw13341946137322399123:=0
def tw14085268106739128817:=0
def tw2041457743892144894:=0
def tw11311999394344832113:=0
def tw2331653303103277471:=0
def tw7047203234742669986:=0
def tw10973056549479156102:=0
def tw249549322783861432:=0
def tw4583756282420477746:=0
def tw12788872388335264594:=0
def tw12004910477815969792:=0
def tw6118206324766035986:=0
def tw11818566221774970091:=0
def tw8277820557490507997:=0
def tw4018041982718015684:=0
def tw9259533211598610082:=0
def tw3906943341852370832:=0
def tw17779774989671706653:=0
def tw11223116819087169764:=0
def tw5990180441110522300:=0
def tw14666957617077880877:=0
def tw9188266559522036927:=0
def tw10859938921441162988:=0
def tw2642592217982111355:=0
def tw17973240255108071979:=0
def tw11111472982789046935:=0
def tw1748184903109754316:=0
def tw16230653944312342443:=0
def tw17476224472650253806:=0
def tw12733908048491186811:=0
def tw3256209041318659551:=0
def tw12860233912970886203:=0
def tw7119377499074729706:=0
def tw7398792987819827216:=0
def tw5763553328388235881:=0
def tw11252122248351282842:=0
def tw2538446115941346844:=0
def tw8451429660923938374:=0
def tw7882509031788189477:=0
def tw4381346726385406224:=0
def tw12929723366055764138:=0
def tw15203487316939043196:=0
def tw4702539438339769474:=0
def tw2585008018627690749:=0
def tw5078402968320093544:=0
def tw16035096773351161327:=0
def tw576298715544257586:=0
def tw11284957654470035344:=0
def tw6099975724469302500:=0
def tw14263501765865891287:=0
def tw14012497318314112844:=0
def tw10981351503976158137:=0
def tw15737558441246748254:=0
def tw11040456503202229835:=0
def tw11569915684508697678:=0
def tw9260842090827677427:=0
def tw15580662879708500073:=0
def tw11723004889028688699:=0
def tw15477653585598255317:=0
def tw4021013208564600997:=0
def tw4399152324972305773:=0
def tw13373784697917265674:=0
def tw6424660084863691381:=0
def tw7942442253511216057:=0
def tw15962101105364567198:=0
def tw129196079805174044:=0
def tw5887078386916838634:=0
def tw17096001632197288867:=0
def tw8764645870556796587:=0
def tw8087799500789234286:=0
def tw6674158366018852832:=0
def tw2395109189467087578:=0
def tw13758948915013449397:=0
def tw8844102623358338796:=0
def tw9179076619674111515:=0
def tw8035951141280138642:=0
def tw13222035019132090745:=0
def tw15483027778438257147:=0
def tw12158838097934144204:=0
def tw8789113547377566482:=0
def tw9930548314228155742:=0
def tw7258431392514884226:=0
def tw2406459529592591507:=0
def tw18020473825885896052:=0
def tw14453804969608289915:=0
def tw7399101569421298396:=0
def tw3522650409621224377:=0
def tw18193256452927958525:=0
def tw14050420534504865867:=0
def tw17301085495529702629:=0
def tw14146095236536434788:=0
def tw15942494369296127945:=0
def tw7350330377624401328:=0
def tw6307330118970589470:=0
def tw7129523546110730894:=0
def tw13526204058760582534:=0
def tw11647182259668861994:=0
def tw949623864930693503:=0
def tw9349497639472619588:=0
def tw16141144775947785660:=0
def tw8143335708233088440:=0
def tw11822188140940861840:=0
def tw5274472226630626454:=0
def tw5225467491883748592:=0
def tw10587580826675096554:=0
def tw17611067142513779687:=0
def tw6545324650690627985:=0
def tw5599412692616142259:=0
def tw13926404443759844560:=0
def tw12941468149822085856:=0
def tw15653146226815964750:=0
def tw9816476011544392670:=0
def tw7442186320969616419:=0
def tw8583004682187828996:=0
def tw4949047195023096438:=0
def tw9825822386377846996:=0
def tw17254660705983429885:=0
def tw16527965534346479843:=0
def tw8664812251140827045:=0
def tw6077952519532572301:=0
def tw5252246860307943348:=0
def tw13384883100587833847:=0
def tw15665992811038445102:=0
def tw18078616723997116376:=0
def tw7794074229983474189:=0
def tw14545006242359850397:=0
def tw18366657443248667141:=0
def tw15986765973559043216:=0
def tw9204624228502610083:=0
def tw7923702915469573346:=0
def tw17129278960223170533:=0
def tw6460966521098074893:=0
def tw6216033271563703469:=0
def tw6896159741398044905:=0
def tw3834328006691320696:=0
def tw5015485144833937494:=0
def tw10843207457187830352:=0
def tw8778671856527934898:=0
def tw16606521154662909651:=0
def tw5031978486770369989:=0
def tw8403075241119356948:=0
def tw15462992800728643659:=0
def tw5791938023122869331:=0
def tw7389893730484166007:=0
def tw18119562065370568691:=0
def tw10274680400919065884:=0
def tw915018914566706432:=0
def tw16124510186991490168:=0
def tw2976685253332725484:=0
def tw1876284267304334591:=0
def tw11968577826497805164:=0
def tw16898140867199733807:=0
def tw13945929957867325323:=0
def tw4990343992934813274:=0
def tw8105830805119860317:=0
def tw1562249421467397710:=0
def tw9232459349045140238:=0
def tw1213666046027356511:=0
def tw9114018109745100730:=0
def tw7366336091430424897:=0
def tw11450275943994455990:=0
def tw6417658556168297412:=0
def tw4837763867591130413:=0
def tw17714467908841036005:=0
def tw17417429595627488627:=0
def tw3811385743445658432:=0
def tw15814798929938293467:=0
def tw18137404814466565647:=0
def tw9784731065822230439:=0
def tw2669110664802000394:=0
def tw2207817973478938216:=0
def tw16532224993992427823:=0
def tw1692041494862269998:=0
def tw9370115536473471133:=0
def tw18224010420261798391:=0
def tw10698829266838348154:=0
def tw12563481999192008768:=0
def tw15433894429930974654:=0
def tw11937027079205856637:=0
def tw10269081998898121243:=0
def tw5471403574791894133:=0
def tw1552857426587298226:=0
def tw10178290135220734976:=0
def tw9925129770185513386:=0
def tw11750193621415288269:=0
def tw9157471666820141079:=0
def tw7652945832842590586:=0
def tw16189116650847989039:=0
def tw17274456146704370614:=0
end Mine.holds
set_option Elab.async true
set_option maxRecDepth 100000
set_option maxHeartbeats 8000000
open PySem PySem.W PyProof.Rows
theorem Mine.holds : PySem.Challenge.rw_nn0054_01.Holds := by
  w_on
  o_law
  k_head
  (case hw => w_witness2)
  intro w s₀ s₁ mg mb G Y fa o pm cd doc dV kV ho hd hcd hD hmg hg args vals as hpre hlay hrd hwl hlo
  have KX := kIn_of Y
  refine Ground.open G ?_
  intro T B D TE TW
  clear D
  wrow_args hpre hlay hrd hwl hlo
  first | refine callC_kw (enter_call ?_) | refine enter_call ?_ | refine callC_kw (enter_callW ?_) | refine enter_callW ?_
  rename_i hL ra w1 r0 hI hr hc1 hc2
  refine Mine.S.law_walk Mine.law_true KX T.g T.b T.nolimit T.builtins (by kernel_rfl) (by kernel_rfl) hmg hL hI (by omega) fun h tk hk => ?_
  refine GoodW.toG ⟨.inl ⟨.bool true, .bool true, [], rfl, fun _ => rfl, .bool true, (by first | kernel_rfl | with_unfolding_all rfl), fun _ => ⟨.nil, fun _ ha => nomatch ha⟩⟩, hk, rfl, hg⟩
theorem PySem.Challenge.cw_nn0054_01_holds : PySem.Challenge.rw_nn0054_01.Holds := by
  exact Mine.holds
