import PyProof.Rows.All
import Wide.All
import OpenK.AllK
import Wide.FinOn
import Lean
import PySem.Challenge.RW_nm0164_01
set_option Elab.async false
set_option maxRecDepth 100000
set_option linter.all false
set_option genSizeOf false
set_option genInjectivity false
section
open PySem
namespace Mine
theorem cF {G:Prop} (h:∀P:Prop,(G→P)→P):G:=h G id
inductive D where
 | none
 | bool (b:Bool)
 | int (i:Int)
 | str (s:Str)
 | byt (b:List UInt8)
 | list (xs:List D)
 | tup (xs:List D)
 | dict (kvs:List (Int×D))
 | obj (c:Str) (fs:List (Str×D))
inductive AV where
 | v (d:D)
 | r (n:Nat)
inductive LO where
 | list (xs:List D)
 | refs (ns:List Nat)
 | lrefs (ns:List Nat)
 | dict (kvs:List (Int×D))
 | byt (b:List UInt8)
 | obj (c:Str) (fs:List (Str×AV))
 | frz (d:D)
noncomputable abbrev Led:=List LO
noncomputable abbrev Loc:=List (Str×AV)
noncomputable def code (x:Str):Nat:=x.cps.toList.foldr (λc n=>c+2097152 * n) 0
noncomputable def lEq:List Nat→List Nat→Bool
 | [],l=>l.isEmpty
 | a::x,l=>match l with
   | []=>false
   | b::y=>Nat.beq a b&&lEq x y
noncomputable def eqS (a b:Str):Bool:=match Nat.beq (code a) (code b)with
 | true=>lEq a.cps.toList b.cps.toList
 | false=>false
noncomputable def get {α:Type}:List (Str×α)→Str→Option α
 | [],_=>none
 | p::l,x=>match eqS p.1 x with
   | true=>some p.2
   | false=>get l x
noncomputable def set {α:Type}:List (Str×α)→Str→α→List (Str×α)
 | [],x,a=>[(x,a)]
 | p::l,x,a=>match eqS p.1 x with
   | true=>(p.1,a)::l
   | false=>p::set l x a
noncomputable def has:List Str→Str→Bool
 | [],_=>false
 | y::l,x=>match eqS y x with
   | true=>true
   | false=>has l x
noncomputable def most:Nat:=1048576
noncomputable def fits (n:Nat):Bool:=Nat.ble n most
noncomputable def kR {α β:Type} (f:α→Option β):List α→Option (List β)
 | []=>some []
 | a::l=>(f a).bind λb=>(kR f l).bind λr=>some (b::r)
noncomputable def dU:List (Int×D)→Int→Option D
 | [],_=>none
 | p::l,k=>if p.1=k then some p.2 else dU l k
noncomputable def dz:List (Int×D)→Int→D→List (Int×D)
 | [],k,d=>[(k,d)]
 | p::l,k,d=>if p.1=k then (p.1,d)::l else p::dz l k d
noncomputable def iG:D→Option Str
 | .str s=>some s
 | _=>none
noncomputable def dk:D→Option Int
 | .int i=>some i
 | _=>none
noncomputable def nA:D→Option Bool
 | .bool b=>some b
 | _=>none
noncomputable def ck:D→Option (List D)
 | .list l=>some l
 | _=>none
noncomputable def sR:D→Option (List D)
 | .tup l=>some l
 | _=>none
noncomputable def one? {α:Type} (l:List α):Option α:=match l with
 | []=>none
 | a::r=>match r with
   | []=>some a
   | _::_=>none
noncomputable def ew:List Str→Nat
 | []=>0
 | x::l=>x.length+ew l
noncomputable def guard (b:Bool) (d:D):Option D:=match b with
 | true=>some d
 | false=>none
noncomputable def rR (sep:Str) (xs:List D):Option D:=(kR iG xs).bind λss=>guard (fits (ew ss+sep.length * ss.length)) (.str (Str.join sep ss))
noncomputable def ao (i:Int):Str:=Str.ofString (toString i)
noncomputable def small (i:Int):Bool:=Nat.blt i.natAbs 18446744073709551616
noncomputable def bo (s:Str):Nat→Str
 | 0=>Str.empty
 | n+1=>s++bo s n
noncomputable def cZ (xs:List D):Nat→List D
 | 0=>[]
 | n+1=>xs++cZ xs n
noncomputable def nat? (i:Int):Option Nat:=match i with
 | .ofNat n=>some n
 | .negSucc _=>none
noncomputable def asNat (d:D):Option Nat:=(dk d).bind nat?
noncomputable def rS (x y:D) (f:Int→Int→Option D):Option D:=(dk x).bind λa=>(dk y).bind λb=>f a b
noncomputable def binop (op:Operator) (x y:D):Option D:=match op with
 | .Add=>(match x with
   | .int a=>(dk y).bind λb=>some (.int (a+b))
   | .str a=>(iG y).bind λb=>guard (fits (a.length+b.length)) (.str (a++b))
   | .list a=>(ck y).bind λb=>guard (fits (a.length+b.length)) (.list (a++b))
   | .tup a=>(sR y).bind λb=>guard (!a.isEmpty&& !b.isEmpty&&fits (a.length+b.length)) (.tup (a++b))
   | _=>none)
 | .Sub=>rS x y λa b=>some (.int (a - b))
 | .Mult=>(match x with
   | .int a=>(dk y).bind λb=>guard (small a&&small b) (.int (a * b))
   | .str a=>(asNat y).bind λn=>guard (fits n&&fits (a.length * n)) (.str (bo a n))
   | .list a=>(asNat y).bind λn=>guard (fits n&&fits (a.length * n)) (.list (cZ a n))
   | _=>none)
 | .FloorDiv=>rS x y λa b=>if b=0 then none else guard (Nat.blt b.natAbs 1073741824) (.int (a.fdiv b))
 | .Mod=>rS x y λa b=>if b=0 then none else some (.int (a.fmod b))
 | .Pow=>rS x y λa b=>(nat? b).bind λn=>guard (small a&&Nat.ble n 1000) (.int (a ^ n))
 | .BitOr=>rS x y λa b=>some (.int (Builtin.bitOr a b))
 | .BitAnd=>rS x y λa b=>some (.int (Builtin.bitAnd a b))
 | .RShift=>rS x y λa b=>(nat? b).bind λn=>some (.int (a.fdiv (2 ^ n)))
 | _=>none
noncomputable def eqL (a b:List D):Option Bool:=match a with
 | []=>some b.isEmpty
 | _::_=>match b with
   | []=>some false
   | _::_=>none
noncomputable def eqD (x y:D):Option Bool:=match x with
 | .int a=>(dk y).bind λb=>some (decide (a=b))
 | .str a=>(iG y).bind λb=>some (eqS a b)
 | .list a=>(ck y).bind λb=>eqL a b
 | _=>none
noncomputable def isNone:D→Bool
 | .none=>true
 | _=>false
noncomputable def t5 (i:Int):List D→Option Bool
 | []=>some false
 | d::l=>(dk d).bind λj=>(t5 i l).bind λb=>some (decide (j=i) || b)
noncomputable def ke (x:Str):List D→Option Bool
 | []=>some false
 | d::l=>(iG d).bind λy=>(ke x l).bind λb=>some (eqS y x || b)
noncomputable def rU (c:Nat):List Nat→Bool
 | []=>false
 | d::l=>match Nat.beq d c with
   | true=>true
   | false=>rU c l
noncomputable def inD (x y:D):Option Bool:=match x with
 | .int i=>(match y with
   | .tup l=>t5 i l
   | .dict l=>some (dU l i).isSome
   | _=>none)
 | .str x=>(match y with
   | .list l=>ke x l
   | .str y=>(one? x.cps.toList).bind λc=>some (rU c y.cps.toList)
   | _=>none)
 | _=>none
noncomputable def zJ (x y:D) (f:Int→Int→Bool):Option Bool:=(dk x).bind λa=>(dk y).bind λb=>some (f a b)
noncomputable def tK (y:D) (b:Bool):Option Bool:=match y with
 | .none=>some b
 | _=>none
noncomputable def cmp (op:CmpOp) (x y:D):Option Bool:=match op with
 | .Eq=>eqD x y
 | .NotEq=>(eqD x y).map (!·)
 | .Lt=>zJ x y λa b=>decide (a<b)
 | .LtE=>zJ x y λa b=>decide (a≤b)
 | .Gt=>zJ x y λa b=>decide (a>b)
 | .GtE=>zJ x y λa b=>decide (a ≥ b)
 | .Is=>tK y (isNone x)
 | .IsNot=>tK y (!isNone x)
 | .In=>inD x y
 | .NotIn=>(inD x y).map (!·)
noncomputable def sI (c:Nat):D:= .str ⟨#[c]⟩
noncomputable def at? {α:Type} (l:List α) (i:Int):Option α:=(nat? i).bind λn=>match fits n with
 | true=>l[n]?
 | false=>none
noncomputable def item (x k:D):Option D:=match x with
 | .list l=>(dk k).bind (at? l)
 | .tup l=>(dk k).bind (at? l)
 | .str s=>(dk k).bind λi=>(at? s.cps.toList i).map sI
 | .dict l=>(dk k).bind (dU l)
 | _=>none
noncomputable def bound (i:Int) (n:Nat):Nat:=match i with
 | .ofNat m=>min m n
 | .negSucc m=>n - (m+1)
noncomputable def lower (n:Nat):D→Option Nat
 | .none=>some 0
 | .int i=>some (bound i n)
 | _=>none
noncomputable def upper (n:Nat):D→Option Nat
 | .none=>some n
 | .int i=>some (bound i n)
 | _=>none
noncomputable def cut (l:List D) (a b:D):Option (List D):=match fits l.length with
 | true=>(lower l.length a).bind λi=>(upper l.length b).bind λj=>some ((l.drop i).take (j - i))
 | false=>none
noncomputable def slice (d a b:D):Option D:=match d with
 | .list l=>(cut l a b).map .list
 | .tup l=>(asNat a).bind λn=>guard (isNone b&&Nat.ble 1 n&&fits l.length&&Nat.ble n l.length) (.tup (l.drop n))
 | _=>none
noncomputable def Fv:D→Option Nat
 | .list l=>(match fits l.length with | true=>some l.length | false=>none)
 | .tup l=>(match fits l.length with | true=>some l.length | false=>none)
 | .str s=>(match fits s.length with | true=>some s.length | false=>none)
 | _=>none
noncomputable def bools (l:List D):Option (List Bool):=kR nA l
noncomputable def anyB:List Bool→Bool
 | []=>false
 | b::l=>b || anyB l
noncomputable def allB:List Bool→Bool
 | []=>true
 | b::l=>b&&allB l
noncomputable def Dn (l:List D):Option Bool:=(bools l).map anyB
noncomputable def Dp (l:List D):Option Bool:=(bools l).map allB
noncomputable def oR (d:D):Option UInt8:=(asNat d).bind λn=>match Nat.blt n 256 with
 | true=>some (UInt8.ofNat n)
 | false=>none
inductive Blt where
 | len | str | int | ord | chr | any | all | tuple | bytes | range | zip | enumerate | bytearray
noncomputable def f9:List (Str×Blt):=[("len",.len),("str",.str),("int",.int),("ord",.ord),("chr",.chr),("any",.any),("all",.all),("tuple",.tuple),("bytes",.bytes),("range",.range),("zip",.zip),("enumerate",.enumerate),("bytearray",.bytearray)]
noncomputable def AZ:Blt→Value
 | .len=> .builtin "len"
 | .str=> .type "str"
 | .int=> .type "int"
 | .ord=> .builtin "ord"
 | .chr=> .builtin "chr"
 | .any=> .builtin "any"
 | .all=> .builtin "all"
 | .tuple=> .type "tuple"
 | .bytes=> .type "bytes"
 | .range=> .type "range"
 | .zip=> .type "zip"
 | .enumerate=> .type "enumerate"
 | .bytearray=> .type "bytearray"
noncomputable def f5 (f:Blt) (d:D):Option D:=match f with
 | .len=>(Fv d).bind λn=>some (.int (Int.ofNat n))
 | .str=>(dk d).bind λi=>guard (small i) (.str (ao i))
 | .int=>(nA d).bind λb=>some (.int (if b then 1 else 0))
 | .ord=>(iG d).bind λs=>(one? s.cps.toList).bind λc=>some (.int c)
 | .chr=>(asNat d).bind λn=>guard (Nat.blt n 128) (sI n)
 | .any=>(ck d).bind λl=>(Dn l).map .bool
 | .all=>(ck d).bind λl=>(Dp l).map .bool
 | .tuple=>(ck d).bind λl=>guard (fits l.length) (.tup l)
 | _=>none
noncomputable def yu:LO→Option D
 | .list xs=>some (.list xs)
 | .dict l=>some (.dict l)
 | .frz d=>some d
 | _=>none
noncomputable def view (led:Led):AV→Option D
 | .v d=>some d
 | .r n=>led[n]?.bind yu
noncomputable def put (led:Led) (n:Nat) (o:LO):Led:=List.set led n o
noncomputable def seenO:LO→Option D
 | .frz d=>some d
 | _=>none
noncomputable def seen (led:Led):AV→Option D
 | .v d=>some d
 | .r n=>led[n]?.bind seenO
noncomputable def lx (led:Led):List Nat→Option (List D)
 | []=>some []
 | n::ns=>(seen led (.r n)).bind λd=>(lx led ns).bind λr=>some (d::r)
noncomputable def ly (led:Led):List (Str×AV)→Option (List (Str×D))
 | []=>some []
 | x::fs=>(seen led x.2).bind λd=>(ly led fs).bind λr=>some ((x.1,d)::r)
noncomputable def Aj (f:AV→Led→Option (D×Led)):List AV→Led→Option Led
 | [],led=>some led
 | a::l,led=>(f a led).bind λp=>Aj f l p.2
noncomputable def tr (ns:List Nat):List AV:=ns.map .r
noncomputable def vals (fs:List (Str×AV)):List AV:=fs.map λx=>x.2
noncomputable def A9:LO→Option (List Nat)
 | .refs ns=>some ns
 | _=>none
noncomputable def wx:LO→Option (List Nat)
 | .lrefs ns=>some ns
 | _=>none
noncomputable def Ei:LO→Option (Str×List (Str×AV))
 | .obj c fs=>some (c,fs)
 | _=>none
noncomputable def frz:Nat→AV→Led→Option (D×Led)
 | 0,a,led=>(match a with
   | .v d=>some (d,led)
   | .r _=>none)
 | k+1,a,led=>(match a with
   | .v d=>some (d,led)
   | .r n=>led[n]?.bind λo=>match o with
     | .frz d=>some (d,led)
     | .list xs=>some (.list xs,put led n (.frz (.list xs)))
     | .dict l=>some (.dict l,put led n (.frz (.dict l)))
     | .refs ns=>(Aj (frz k) (tr ns) led).bind λl=>(l[n]?.bind A9).bind λns=>(lx l ns).bind λds=>some (.list ds,put l n (.frz (.list ds)))
     | .lrefs ns=>(Aj (frz k) (tr ns) led).bind λl=>(l[n]?.bind wx).bind λns=>(lx l ns).bind λds=>some (.list ds,put l n (.frz (.list ds)))
     | .obj _ fs=>(Aj (frz k) (vals fs) led).bind λl=>(l[n]?.bind Ei).bind λq=>(ly l q.2).bind λds=>some (.obj q.1 ds,put l n (.frz (.obj q.1 ds)))
     | .byt _=>none)
noncomputable def depth:Nat:=6
noncomputable def bH:List AV→Led→Option (List D×Led)
 | [],led=>some ([],led)
 | a::l,led=>(frz depth a led).bind λp=>(bH l p.2).bind λq=>some (p.1::q.1,q.2)
inductive It where
 | one (a:AV)
 | two (a b:AV)
noncomputable def zE:D→Option (List AV)
 | .list xs=>some (xs.map .v)
 | .tup xs=>some (xs.map .v)
 | .str s=>some (s.cps.toList.map λc=> .v (sI c))
 | .byt b=>some (b.map λc=> .v (.int (c.toNat:Int)))
 | _=>none
noncomputable def items (a:AV) (led:Led):Option (List AV×Led):=match a with
 | .v d=>(zE d).map λl=>(l,led)
 | .r n=>led[n]?.bind λo=>match o with
   | .list xs=>some (xs.map .v,put led n (.frz (.list xs)))
   | .frz d=>(ck d).bind λxs=>some (xs.map .v,led)
   | .refs ns=>some (ns.map .r,put led n (.lrefs ns))
   | .lrefs ns=>some (ns.map .r,led)
   | _=>none
noncomputable def cY:Nat→Nat→List AV
 | _,0=>[]
 | i,n+1=> .v (.int (i:Int))::cY (i+1) n
noncomputable def gC:List AV→List AV→List It
 | [],_=>[]
 | a::l,m=>match m with
   | []=>[]
   | b::m=> .two a b::gC l m
noncomputable def gw:Nat→List AV→List It
 | _,[]=>[]
 | i,a::l=> .two (.v (.int (i:Int))) a::gw (i+1) l
inductive Fl where
 | next | cont | ret (a:AV)
noncomputable def nkEq (a b:NameKind):Bool:=match a with
 | .local=>(match b with | .local=>true | _=>false)
 | .cell=>(match b with | .cell=>true | _=>false)
 | .free=>(match b with | .free=>true | _=>false)
 | .globalImplicit=>(match b with | .globalImplicit=>true | _=>false)
 | _=>false
noncomputable def bw (sc:Scope) (x:Str) (k:NameKind):Bool:=match get sc.names x with
 | some k'=>nkEq k' k
 | none=>false
noncomputable def iF (sc:Scope) (x:Str):Bool:=bw sc x .local || bw sc x .cell
noncomputable def cv (sc:Scope) (loc:Loc) (x:Str):Bool:=match get loc x with
 | some _=>false
 | none=>bw sc x .globalImplicit
noncomputable def dot (c m:Str):Str:=c++Str.ofString "."++m
inductive Kd where
 | str | list | dict | byt | obj (c:Str)
noncomputable def zA:D→Option Kd
 | .str _=>some .str
 | .list _=>some .list
 | .dict _=>some .dict
 | .obj c _=>some (.obj c)
 | _=>none
noncomputable def zz:LO→Option Kd
 | .list _=>some .list
 | .refs _=>some .list
 | .lrefs _=>some .list
 | .dict _=>some .dict
 | .byt _=>some .byt
 | .obj c _=>some (.obj c)
 | .frz d=>zA d
noncomputable def kJ (led:Led):AV→Option Kd
 | .v d=>zA d
 | .r n=>led[n]?.bind zz
noncomputable def A8 (x:Str):D→Option AV
 | .obj _ fs=>(get fs x).map .v
 | _=>none
noncomputable def attrO (x:Str):LO→Option AV
 | .obj _ fs=>get fs x
 | .frz d=>A8 x d
 | _=>none
noncomputable def g5 (led:Led) (x:Str):AV→Option AV
 | .v d=>A8 x d
 | .r n=>led[n]?.bind (attrO x)
inductive Md where
 | join | append | extend | get | gc | gb
noncomputable def Fq (k:Kd) (m:Str):Option Md:=match k with
 | .str=>(match eqS m "join" with | true=>some .join | false=>none)
 | .list=>(match eqS m "append" with | true=>some .append | false=>match eqS m "extend" with | true=>some .extend | false=>none)
 | .dict=>(match eqS m "get" with | true=>some .get | false=>none)
 | .byt=>(match eqS m "append" with | true=>some .gc | false=>match eqS m "extend" with | true=>some .gb | false=>none)
 | .obj _=>none
noncomputable def bY:AV→Option D
 | .v d=>some d
 | .r _=>none
noncomputable def bX:AV→Option Int
 | .v d=>dk d
 | .r _=>none
noncomputable def gr:AV→Option Bool
 | .v d=>nA d
 | .r _=>none
noncomputable def Ej:LO→Option (List UInt8)
 | .byt b=>some b
 | _=>none
noncomputable def qt:D→Option (List (Int×D))
 | .dict l=>some l
 | _=>none
noncomputable def oS (led:Led) (a:AV):Option (Nat×List UInt8):=match a with
 | .v _=>none
 | .r n=>(led[n]?.bind Ej).map λb=>(n,b)
noncomputable def iA (led:Led) (md:Md) (o:AV) (vs:List AV):Option (AV×Led):=match md with
 | .join=>(bY o).bind λd=>(iG d).bind λsep=>(one? vs).bind λa=>(view led a).bind λx=>(ck x).bind λxs=>(rR sep xs).map λd=>(.v d,led)
 | .get=>(match vs with
   | []=>none
   | k::r=>(one? r).bind λz=>(bY z).bind λz=>(view led o).bind λd=>(qt d).bind λl=>(view led k).bind λkd=>(dk kd).bind λi=>some (.v ((dU l i).getD z),led))
 | .gc=>(oS led o).bind λnb=>(one? vs).bind λa=>(bY a).bind λd=>(oR d).bind λc=>(match fits nb.2.length with
   | true=>some (.v .none,put led nb.1 (.byt (nb.2++[c])))
   | false=>none)
 | .gb=>(oS led o).bind λnb=>(one? vs).bind λa=>(view led a).bind λd=>(ck d).bind λys=>(kR oR ys).bind λcs=>(match fits (nb.2.length+cs.length)with
   | true=>some (.v .none,put led nb.1 (.byt (nb.2++cs)))
   | false=>none)
 | _=>none
noncomputable def zd (k:Int):List (Int×D)→Bool
 | []=>true
 | p::l=>!(decide (p.1=k))&&zd k l
noncomputable def et:List (Int×D)→Bool
 | []=>true
 | p::l=>zd p.1 l&&et l
noncomputable def kx (led:Led) (op:CmpOp) (a b:AV):Option Bool:=(view led a).bind λx=>(view led b).bind λy=>cmp op x y
noncomputable def bytesOf (led:Led) (vs:List AV):Option D:=(one? vs).bind λa=>(oS led a).bind λnb=>guard (fits nb.2.length) (.byt nb.2)
noncomputable def methods:List (Str×List Str):=[
 ("Module",["imported","abouts","func_kinds","many"]),("Told",["func","local"]),
 ("Printer",["kind_rows","id_ahead","about_text","import_rows","local_ids","head_text","kind_of","func_rows","global_rows","elem_text","data_text","small_rows","export_rows","text","mark"]),
 ("Folder",["row","flush","single","fold"])]
noncomputable def vT (t:List (Str×List Str)) (c m:Str):Bool:=match get t c with
 | some l=>has l m
 | none=>false
noncomputable def tS (c m:Str):Bool:=vT methods c m
noncomputable def fields:List (Str×List Str):=[
 ("Import",["place","name","sort","about"]),("Func",["kind","locals","body"]),("Global",["kind","mutable","body"]),
 ("Elem",["mode","table","offset","kind","inits"]),("Data",["mode","memory","offset","octets"]),
 ("Module",["kinds","imports","funcs","tables","memories","globals","exports","start","elems","datas","customs"]),
 ("Told",["func_ids","local_ids"]),("Folder",["module","told","depth","rows","values","closers"]),
 ("Printer",["module","names","is_folded","func_ids","plain_told"]),("Names",["module","funcs","locals","is_whole"])]
noncomputable def di (c x:Str):Bool:=vT fields c x
noncomputable def exN {α:Type} (d:α) (cl:Expr→List Expr→List Keyword→α) (nm:Str→α) (tp:List Expr→α) (sl:Option Expr→Option Expr→Option Expr→α) (e:Expr):α:=
 e.casesOn (λ_ _ _=>d) (λ_ _ _=>d) (λ_ _ _ _=>d) (λ_ _ _=>d) (λ_ _ _ _=>d) (λ_ _ _ _=>d) (λ_ _ _=>d) (λ_ _ _=>d) (λ_ _ _ _=>d) (λ_ _ _ _=>d) (λ_ _ _ _ _=>d) (λ_ _ _ _=>d) (λ_ _=>d) (λ_ _=>d) (λ_ _=>d) (λ_ _ _ _=>d)
  (λf as ks _=>cl f as ks) (λ_ _ _ _=>d) (λ_ _=>d) (λ_ _ _=>d) (λ_ _ _=>d) (λ_ _ _=>d) (λ_ _=>d) (λx _=>nm x) (λ_ _=>d) (λts _ _=>tp ts) (λa b c _=>sl a b c)
noncomputable def asName:Expr→Option Str:=exN none (λ_ _ _=>none) some (λ_=>none) (λ_ _ _=>none)
noncomputable def d4:Expr→Option (List Expr):=exN none (λ_ _ _=>none) (λ_=>none) some (λ_ _ _=>none)
noncomputable def ij:Expr→Option (Option Expr×Option Expr×Option Expr):=exN none (λ_ _ _=>none) (λ_=>none) (λ_=>none) (λa b c=>some (a,b,c))
noncomputable def noKw (x:Str) (as:List Expr) (ks:List Keyword):Option (Str×List Expr):=match ks with
 | []=>some (x,as)
 | _::_=>none
noncomputable def nk:Expr→Option (Str×List Expr):=exN none (λf as ks=>(asName f).bind λx=>noKw x as ks) (λ_=>none) (λ_=>none) (λ_ _ _=>none)
noncomputable def bare (e:Expr):Bool:=match nk e with
 | none=>true
 | some q=>!q.2.isEmpty
noncomputable def B1 (x:Str) (as:List Expr):Option (Str×Expr):=(one? as).bind λa=>match eqS x "range" with
 | true=>some (x,a)
 | false=>none
noncomputable def un2 {α β γ:Type} (f:α→β→γ) (p:α×β):γ:=match p with
 | (a,b)=>f a b
noncomputable def un3 {α β δ γ:Type} (f:α→β→δ→γ) (p:α×β×δ):γ:=match p with
 | (a,b,d)=>f a b d
noncomputable def lu (e:Expr):Option (Str×Expr):=(nk e).bind (un2 B1)
noncomputable def kept (sc:Scope):Loc→Loc
 | []=>[]
 | p::l=>match bw sc p.1 .free with
   | true=>p::kept sc l
   | false=>kept sc l
noncomputable def isFun (k:ScopeKind):Bool:=match k with
 | .function=>true
 | _=>false
noncomputable def AJ (sc0:Scope) (x y:Str) (k:NameKind):Bool:=match k with
 | .local=>eqS y x || eqS y ".0"
 | .free=>!(eqS y x || eqS y ".0" || eqS y "__debug__")&&(bw sc0 y .cell || bw sc0 y .free)
 | .globalImplicit=>!(eqS y x || eqS y ".0" || eqS y "__debug__")
 | _=>false
noncomputable def xU (sc0:Scope) (x:Str) (l:List (Str×NameKind)):Bool:=l.all λp=>AJ sc0 x p.1 p.2
noncomputable def cp (sc0 sc:Scope) (x:Str):Bool:=isFun sc.kind&&xU sc0 x sc.names&&bw sc x .local&& !eqS x "__debug__"
noncomputable def eU (l:List Expr):Bool:=Nat.ble l.length 20
noncomputable def vR:LO→Bool
 | .list _=>true
 | .refs _=>true
 | .lrefs _=>true
 | .frz d=>(ck d).isSome
 | _=>false
noncomputable def dh (led:Led):AV→Bool
 | .v d=>(ck d).isSome
 | .r n=>(led[n]?.map vR).getD false
noncomputable def pT:AV→Bool
 | .v d=>(sR d).isSome
 | .r _=>false
noncomputable def bG (e:Expr):Bool:=(d4 e).isSome
noncomputable def parts (a:AV):Option (List AV):=(bY a).bind λd=>(sR d).map λxs=>xs.map .v
noncomputable def fQ (es:List Expr):Bool:=(!(es.all (constantsAlone 8)) || es.all (foldedForSure 8))&&Nat.ble es.length 20
structure Df where
 params:List Str
 body:List Stmt
 sc:Scope
inductive Fn where
 /-- its arguments are frozen;it gives frozen data -/
 | pure (d:Df) (mt:List Str)
 /-- it works on the ledger -/
 | led (d:Df) (mt:List Str)
 /-- a class whose instances are frozen at once -/
 | cls (name:Str) (d:Df) (mt:List Str)
 /-- a class whose instances stay on the ledger -/
 | obj (name:Str) (d:Df) (mt:List Str)
noncomputable abbrev Tab:=List (Str×Fn)
noncomputable def wH:List Str→List AV→Option Loc
 | [],l=>(match l with
   | []=>some []
   | _::_=>none)
 | x::xs,l=>(match l with
   | []=>none
   | a::as=>(wH xs as).bind λl=>some ((x,a)::l))
noncomputable def rq:List Nat→Bool
 | []=>true
 | c::l=>match Nat.beq c 46 with
   | true=>false
   | false=>rq l
noncomputable def vP (tab:Tab) (x:Str):Bool:=match rq x.cps.toList with
 | true=>(get tab x).isSome
 | false=>false
end Mine
end
section
open PySem
namespace Mine
noncomputable abbrev pw:Program:=PySem.Challenge.pw_nm0164_01
noncomputable def noSc:Scope:={kind:= .module,names:=[],isGenerator:=false,isCoroutine:=false}
noncomputable def dfS:Stmt→Df
 | .FunctionDef _ a b _ _ _ sc _ _ _=>⟨a.args.map λ(x:PySem.Arg)=>x.arg,b,sc⟩
 | _=>⟨[],[],noSc⟩
noncomputable def bodyS:Stmt→List Stmt
 | .ClassDef _ _ _ b _ _ _ _ _ _ _=>b
 | _=>[]
noncomputable def DT (i:Nat):Stmt:=pw.main.body[i]?.getD (.Pass ⟨0,0,0,0⟩)
noncomputable def stmtM (i j:Nat):Stmt:=(bodyS (DT i))[j]?.getD (.Pass ⟨0,0,0,0⟩)
noncomputable def dfD (i:Nat):Df:=dfS (DT i)
noncomputable def dfM (i j:Nat):Df:=dfS (stmtM i j)
noncomputable def tab:Tab:=[
 (("kind_name":Str),Fn.pure (dfD 13) []),
 (("kinds_text":Str),Fn.pure (dfD 14) []),
 (("number_kind":Str),Fn.pure (dfD 63) []),
 (("form_of":Str),Fn.pure (dfD 64) []),
 (("stack_of":Str),Fn.pure (dfD 65) []),
 (("natural":Str),Fn.pure (dfD 66) []),
 (("utf8_of":Str),Fn.pure (dfD 88) ["found"]),
 (("name_of":Str),Fn.pure (dfD 94) []),
 (("string_text":Str),Fn.pure (dfD 100) ["found"]),
 (("name_text":Str),Fn.pure (dfD 101) []),
 (("ids_of":Str),Fn.pure (dfD 102) ["found"]),
 (("list_text":Str),Fn.pure (dfD 103) []),
 (("limits_text":Str),Fn.pure (dfD 104) []),
 (("table_text":Str),Fn.pure (dfD 105) []),
 (("global_text":Str),Fn.pure (dfD 106) []),
 (("told_index":Str),Fn.pure (dfD 109) []),
 (("words_of":Str),Fn.pure (dfD 111) []),
 (("instruction_text":Str),Fn.pure (dfD 112) []),
 (("constant_text":Str),Fn.pure (dfD 113) []),
 (("body_rows":Str),Fn.pure (dfD 114) ["found"]),
 (("counts_of":Str),Fn.pure (dfD 115) []),
 (("declared_text":Str),Fn.pure (dfD 118) []),
 (("print_module":Str),Fn.pure (dfD 119) []),
 (("fold_module":Str),Fn.pure (dfD 120) []),
 (("_law_kind":Str),Fn.pure (dfD 125) []),
 (("_law_kinds":Str),Fn.pure (dfD 126) []),
 (("_law_list":Str),Fn.pure (dfD 127) []),
 (("_law_string":Str),Fn.pure (dfD 128) []),
 (("_law_limits":Str),Fn.pure (dfD 129) []),
 (("_law_name":Str),Fn.pure (dfD 130) []),
 (("_law_ids":Str),Fn.pure (dfD 131) ["names","ids"]),
 (("_law_told":Str),Fn.pure (dfD 132) []),
 (("_law_constant":Str),Fn.pure (dfD 133) []),
 (("_law_import":Str),Fn.pure (dfD 134) []),
 (("_law_folded":Str),Fn.pure (dfD 137) []),
 (("_law_head":Str),Fn.pure (dfD 138) []),
 (("law":Str),Fn.pure (dfD 140) ["pen","rows","told_kinds"]),
 (("_law_next":Str),Fn.led (dfD 124) ["pen"]),
 (("_law_imports":Str),Fn.led (dfD 135) ["rows"]),
 (("_law_step":Str),Fn.led (dfD 136) []),
 (("_law_rest":Str),Fn.led (dfD 139) ["rows"]),
 (("Import":Str),Fn.cls "Import" (dfM 74 0) []),
 (("Global":Str),Fn.cls "Global" (dfM 76 0) []),
 (("Elem":Str),Fn.cls "Elem" (dfM 77 0) []),
 (("Data":Str),Fn.cls "Data" (dfM 78 0) []),
 (("Told":Str),Fn.cls "Told" (dfM 108 0) []),
 (("Printer":Str),Fn.cls "Printer" (dfM 117 0) []),
 (("Func":Str),Fn.obj "Func" (dfM 75 0) []),
 (("Module":Str),Fn.obj "Module" (dfM 80 0) ["kinds","imports","funcs","tables","memories","globals","exports","elems","datas","customs"]),
 (("Folder":Str),Fn.obj "Folder" (dfM 116 0) ["rows","values","closers"]),
 (("Names":Str),Fn.obj "Names" (dfM 122 0) ["funcs","locals"]),
 (("Module.imported":Str),Fn.pure (dfM 80 1) []),
 (("Module.abouts":Str),Fn.pure (dfM 80 2) []),
 (("Module.func_kinds":Str),Fn.pure (dfM 80 3) []),
 (("Module.many":Str),Fn.pure (dfM 80 7) []),
 (("Told.func":Str),Fn.pure (dfM 108 1) []),
 (("Told.local":Str),Fn.pure (dfM 108 2) []),
 (("Printer.kind_rows":Str),Fn.pure (dfM 117 1) ["found"]),
 (("Printer.id_ahead":Str),Fn.pure (dfM 117 2) []),
 (("Printer.about_text":Str),Fn.pure (dfM 117 3) []),
 (("Printer.import_rows":Str),Fn.pure (dfM 117 4) ["found"]),
 (("Printer.local_ids":Str),Fn.pure (dfM 117 5) []),
 (("Printer.head_text":Str),Fn.pure (dfM 117 6) []),
 (("Printer.kind_of":Str),Fn.pure (dfM 117 7) []),
 (("Printer.func_rows":Str),Fn.pure (dfM 117 8) ["found"]),
 (("Printer.global_rows":Str),Fn.pure (dfM 117 9) ["found"]),
 (("Printer.elem_text":Str),Fn.pure (dfM 117 10) []),
 (("Printer.data_text":Str),Fn.pure (dfM 117 11) []),
 (("Printer.small_rows":Str),Fn.pure (dfM 117 12) []),
 (("Printer.export_rows":Str),Fn.pure (dfM 117 13) ["found"]),
 (("Printer.text":Str),Fn.pure (dfM 117 14) ["rows"]),
 (("Printer.mark":Str),Fn.pure (dfM 117 15) []),
 (("Folder.row":Str),Fn.led (dfM 116 1) []),
 (("Folder.flush":Str),Fn.led (dfM 116 2) ["values"]),
 (("Folder.single":Str),Fn.led (dfM 116 6) ["values"]),
 (("Folder.fold":Str),Fn.led (dfM 116 7) [])]
noncomputable def FU:Loc:=[
 (⟨#[95,95,110,97,109,101,95,95]⟩,.v (.str ⟨#[108,97,119,95,110,109,48,49,54,52,95,48,49]⟩)),
 (⟨#[73,51,50]⟩,.v (.int (-1))),
 (⟨#[73,54,52]⟩,.v (.int (-2))),
 (⟨#[70,85,78,67,82,69,70]⟩,.v (.int (-16))),
 (⟨#[69,88,84,69,82,78,82,69,70]⟩,.v (.int (-17))),
 (⟨#[69,77,80,84,89]⟩,.v (.int (-64))),
 (⟨#[70,85,78,67,84,73,79,78]⟩,.v (.int (0))),
 (⟨#[84,65,66,76,69]⟩,.v (.int (1))),
 (⟨#[77,69,77,79,82,89]⟩,.v (.int (2))),
 (⟨#[75,73,78,68,95,78,65,77,69,83]⟩,.v (.dict [((-1),(.str ⟨#[105,51,50]⟩)),((-2),(.str ⟨#[105,54,52]⟩)),((-16),(.str ⟨#[102,117,110,99,114,101,102]⟩)),((-17),(.str ⟨#[101,120,116,101,114,110,114,101,102]⟩))])),
 (⟨#[72,69,65,80,95,78,65,77,69,83]⟩,.v (.dict [((-16),(.str ⟨#[102,117,110,99]⟩)),((-17),(.str ⟨#[101,120,116,101,114,110]⟩))])),
 (⟨#[83,79,82,84,95,78,65,77,69,83]⟩,.v (.list [(.str ⟨#[102,117,110,99]⟩),(.str ⟨#[116,97,98,108,101]⟩),(.str ⟨#[109,101,109,111,114,121]⟩),(.str ⟨#[103,108,111,98,97,108]⟩)])),
 (⟨#[85,78,82,69,65,67,72,65,66,76,69]⟩,.v (.int (0))),
 (⟨#[78,79,80]⟩,.v (.int (1))),
 (⟨#[66,76,79,67,75]⟩,.v (.int (2))),
 (⟨#[76,79,79,80]⟩,.v (.int (3))),
 (⟨#[73,70]⟩,.v (.int (4))),
 (⟨#[69,76,83,69]⟩,.v (.int (5))),
 (⟨#[69,78,68]⟩,.v (.int (11))),
 (⟨#[66,82]⟩,.v (.int (12))),
 (⟨#[66,82,95,73,70]⟩,.v (.int (13))),
 (⟨#[66,82,95,84,65,66,76,69]⟩,.v (.int (14))),
 (⟨#[82,69,84,85,82,78]⟩,.v (.int (15))),
 (⟨#[67,65,76,76]⟩,.v (.int (16))),
 (⟨#[67,65,76,76,95,73,78,68,73,82,69,67,84]⟩,.v (.int (17))),
 (⟨#[82,69,84,85,82,78,95,67,65,76,76]⟩,.v (.int (18))),
 (⟨#[82,69,84,85,82,78,95,67,65,76,76,95,73,78,68,73,82,69,67,84]⟩,.v (.int (19))),
 (⟨#[68,82,79,80]⟩,.v (.int (26))),
 (⟨#[83,69,76,69,67,84]⟩,.v (.int (27))),
 (⟨#[83,69,76,69,67,84,95,75,73,78,68,83]⟩,.v (.int (28))),
 (⟨#[76,79,67,65,76,95,71,69,84]⟩,.v (.int (32))),
 (⟨#[76,79,67,65,76,95,83,69,84]⟩,.v (.int (33))),
 (⟨#[76,79,67,65,76,95,84,69,69]⟩,.v (.int (34))),
 (⟨#[71,76,79,66,65,76,95,71,69,84]⟩,.v (.int (35))),
 (⟨#[71,76,79,66,65,76,95,83,69,84]⟩,.v (.int (36))),
 (⟨#[84,65,66,76,69,95,71,69,84]⟩,.v (.int (37))),
 (⟨#[84,65,66,76,69,95,83,69,84]⟩,.v (.int (38))),
 (⟨#[77,69,77,79,82,89,95,83,73,90,69]⟩,.v (.int (63))),
 (⟨#[77,69,77,79,82,89,95,71,82,79,87]⟩,.v (.int (64))),
 (⟨#[73,51,50,95,67,79,78,83,84]⟩,.v (.int (65))),
 (⟨#[73,54,52,95,67,79,78,83,84]⟩,.v (.int (66))),
 (⟨#[82,69,70,95,78,85,76,76]⟩,.v (.int (208))),
 (⟨#[82,69,70,95,73,83,95,78,85,76,76]⟩,.v (.int (209))),
 (⟨#[82,69,70,95,70,85,78,67]⟩,.v (.int (210))),
 (⟨#[77,69,77,79,82,89,95,73,78,73,84]⟩,.v (.int (64520))),
 (⟨#[68,65,84,65,95,68,82,79,80]⟩,.v (.int (64521))),
 (⟨#[77,69,77,79,82,89,95,67,79,80,89]⟩,.v (.int (64522))),
 (⟨#[77,69,77,79,82,89,95,70,73,76,76]⟩,.v (.int (64523))),
 (⟨#[84,65,66,76,69,95,73,78,73,84]⟩,.v (.int (64524))),
 (⟨#[69,76,69,77,95,68,82,79,80]⟩,.v (.int (64525))),
 (⟨#[84,65,66,76,69,95,67,79,80,89]⟩,.v (.int (64526))),
 (⟨#[84,65,66,76,69,95,71,82,79,87]⟩,.v (.int (64527))),
 (⟨#[84,65,66,76,69,95,83,73,90,69]⟩,.v (.int (64528))),
 (⟨#[84,65,66,76,69,95,70,73,76,76]⟩,.v (.int (64529))),
 (⟨#[76,79,65,68,83]⟩,.v (.dict [((40),(.tup [(.int (-1)),(.int (4)),(.int (0))])),((41),(.tup [(.int (-2)),(.int (8)),(.int (0))])),((44),(.tup [(.int (-1)),(.int (1)),(.int (1))])),((45),(.tup [(.int (-1)),(.int (1)),(.int (0))])),((46),(.tup [(.int (-1)),(.int (2)),(.int (1))])),((47),(.tup [(.int (-1)),(.int (2)),(.int (0))])),((48),(.tup [(.int (-2)),(.int (1)),(.int (1))])),((49),(.tup [(.int (-2)),(.int (1)),(.int (0))])),((50),(.tup [(.int (-2)),(.int (2)),(.int (1))])),((51),(.tup [(.int (-2)),(.int (2)),(.int (0))])),((52),(.tup [(.int (-2)),(.int (4)),(.int (1))])),((53),(.tup [(.int (-2)),(.int (4)),(.int (0))]))])),
 (⟨#[83,84,79,82,69,83]⟩,.v (.dict [((54),(.tup [(.int (-1)),(.int (4))])),((55),(.tup [(.int (-2)),(.int (8))])),((58),(.tup [(.int (-1)),(.int (1))])),((59),(.tup [(.int (-1)),(.int (2))])),((60),(.tup [(.int (-2)),(.int (1))])),((61),(.tup [(.int (-2)),(.int (2))])),((62),(.tup [(.int (-2)),(.int (4))]))])),
 (⟨#[70,79,82,77,83]⟩,.v (.dict [((0),(.str ⟨#[110,111,110,101]⟩)),((1),(.str ⟨#[110,111,110,101]⟩)),((2),(.str ⟨#[98,108,111,99,107]⟩)),((3),(.str ⟨#[98,108,111,99,107]⟩)),((4),(.str ⟨#[98,108,111,99,107]⟩)),((5),(.str ⟨#[110,111,110,101]⟩)),((11),(.str ⟨#[110,111,110,101]⟩)),((12),(.str ⟨#[108,97,98,101,108]⟩)),((13),(.str ⟨#[108,97,98,101,108]⟩)),((14),(.str ⟨#[108,97,98,101,108,115]⟩)),((15),(.str ⟨#[110,111,110,101]⟩)),((16),(.str ⟨#[102,117,110,99]⟩)),((17),(.str ⟨#[105,110,100,105,114,101,99,116]⟩)),((18),(.str ⟨#[102,117,110,99]⟩)),((19),(.str ⟨#[105,110,100,105,114,101,99,116]⟩)),((26),(.str ⟨#[110,111,110,101]⟩)),((27),(.str ⟨#[110,111,110,101]⟩)),((28),(.str ⟨#[107,105,110,100,115]⟩)),((32),(.str ⟨#[108,111,99,97,108]⟩)),((33),(.str ⟨#[108,111,99,97,108]⟩)),((34),(.str ⟨#[108,111,99,97,108]⟩)),((35),(.str ⟨#[103,108,111,98,97,108]⟩)),((36),(.str ⟨#[103,108,111,98,97,108]⟩)),((37),(.str ⟨#[116,97,98,108,101]⟩)),((38),(.str ⟨#[116,97,98,108,101]⟩)),((63),(.str ⟨#[109,101,109,111,114,121]⟩)),((64),(.str ⟨#[109,101,109,111,114,121]⟩)),((65),(.str ⟨#[105,51,50]⟩)),((66),(.str ⟨#[105,54,52]⟩)),((208),(.str ⟨#[114,101,102,107,105,110,100]⟩)),((209),(.str ⟨#[110,111,110,101]⟩)),((210),(.str ⟨#[102,117,110,99]⟩)),((64520),(.str ⟨#[109,101,109,111,114,121,95,105,110,105,116]⟩)),((64521),(.str ⟨#[100,97,116,97]⟩)),((64522),(.str ⟨#[116,119,111,95,109,101,109,111,114,105,101,115]⟩)),((64523),(.str ⟨#[109,101,109,111,114,121]⟩)),((64524),(.str ⟨#[116,97,98,108,101,95,105,110,105,116]⟩)),((64525),(.str ⟨#[101,108,101,109]⟩)),((64526),(.str ⟨#[116,97,98,108,101,95,99,111,112,121]⟩)),((64527),(.str ⟨#[116,97,98,108,101]⟩)),((64528),(.str ⟨#[116,97,98,108,101]⟩)),((64529),(.str ⟨#[116,97,98,108,101]⟩))])),
 (⟨#[70,73,88,69,68]⟩,.v (.dict [((1),(.tup [(.tup []),(.tup [])])),((63),(.tup [(.tup []),(.tup [(.int (-1))])])),((64),(.tup [(.tup [(.int (-1))]),(.tup [(.int (-1))])])),((65),(.tup [(.tup []),(.tup [(.int (-1))])])),((66),(.tup [(.tup []),(.tup [(.int (-2))])])),((210),(.tup [(.tup []),(.tup [(.int (-16))])])),((64520),(.tup [(.tup [(.int (-1)),(.int (-1)),(.int (-1))]),(.tup [])])),((64521),(.tup [(.tup []),(.tup [])])),((64522),(.tup [(.tup [(.int (-1)),(.int (-1)),(.int (-1))]),(.tup [])])),((64523),(.tup [(.tup [(.int (-1)),(.int (-1)),(.int (-1))]),(.tup [])])),((64524),(.tup [(.tup [(.int (-1)),(.int (-1)),(.int (-1))]),(.tup [])])),((64525),(.tup [(.tup []),(.tup [])])),((64526),(.tup [(.tup [(.int (-1)),(.int (-1)),(.int (-1))]),(.tup [])])),((64528),(.tup [(.tup []),(.tup [(.int (-1))])]))])),
 (⟨#[78,85,77,66,69,82,83]⟩,.v (.tup [(.tup [(.int (69)),(.int (69)),(.tup [(.int (-1))]),(.tup [(.int (-1))])]),(.tup [(.int (70)),(.int (79)),(.tup [(.int (-1)),(.int (-1))]),(.tup [(.int (-1))])]),(.tup [(.int (80)),(.int (80)),(.tup [(.int (-2))]),(.tup [(.int (-1))])]),(.tup [(.int (81)),(.int (90)),(.tup [(.int (-2)),(.int (-2))]),(.tup [(.int (-1))])]),(.tup [(.int (103)),(.int (105)),(.tup [(.int (-1))]),(.tup [(.int (-1))])]),(.tup [(.int (106)),(.int (120)),(.tup [(.int (-1)),(.int (-1))]),(.tup [(.int (-1))])]),(.tup [(.int (121)),(.int (123)),(.tup [(.int (-2))]),(.tup [(.int (-2))])]),(.tup [(.int (124)),(.int (138)),(.tup [(.int (-2)),(.int (-2))]),(.tup [(.int (-2))])]),(.tup [(.int (167)),(.int (167)),(.tup [(.int (-2))]),(.tup [(.int (-1))])]),(.tup [(.int (172)),(.int (173)),(.tup [(.int (-1))]),(.tup [(.int (-2))])]),(.tup [(.int (192)),(.int (193)),(.tup [(.int (-1))]),(.tup [(.int (-1))])]),(.tup [(.int (194)),(.int (196)),(.tup [(.int (-2))]),(.tup [(.int (-2))])])])),
 (⟨#[68,73,71,73,84,83]⟩,.v (.str ⟨#[48,49,50,51,52,53,54,55,56,57]⟩)),
 (⟨#[83,77,65,76,76,95,76,69,84,84,69,82,83]⟩,.v (.str ⟨#[97,98,99,100,101,102,103,104,105,106,107,108,109,110,111,112,113,114,115,116,117,118,119,120,121,122]⟩)),
 (⟨#[71,82,69,65,84,95,76,69,84,84,69,82,83]⟩,.v (.str ⟨#[65,66,67,68,69,70,71,72,73,74,75,76,77,78,79,80,81,82,83,84,85,86,87,88,89,90]⟩)),
 (⟨#[73,68,95,83,73,71,78,83]⟩,.v (.str ⟨#[48,49,50,51,52,53,54,55,56,57,97,98,99,100,101,102,103,104,105,106,107,108,109,110,111,112,113,114,115,116,117,118,119,120,121,122,65,66,67,68,69,70,71,72,73,74,75,76,77,78,79,80,81,82,83,84,85,86,87,88,89,90,33,35,36,37,38,39,42,43,45,46,47,58,60,61,62,63,64,92,94,95,96,124,126]⟩)),
 (⟨#[65,67,84,73,86,69]⟩,.v (.int (1))),
 (⟨#[68,69,67,76,65,82,69,68]⟩,.v (.int (2))),
 (⟨#[84,69,83,84,83]⟩,.v (.tup [(.str ⟨#[101,113,122]⟩),(.str ⟨#[101,113]⟩),(.str ⟨#[110,101]⟩),(.str ⟨#[108,116,95,115]⟩),(.str ⟨#[108,116,95,117]⟩),(.str ⟨#[103,116,95,115]⟩),(.str ⟨#[103,116,95,117]⟩),(.str ⟨#[108,101,95,115]⟩),(.str ⟨#[108,101,95,117]⟩),(.str ⟨#[103,101,95,115]⟩),(.str ⟨#[103,101,95,117]⟩)])),
 (⟨#[83,85,77,83]⟩,.v (.tup [(.str ⟨#[99,108,122]⟩),(.str ⟨#[99,116,122]⟩),(.str ⟨#[112,111,112,99,110,116]⟩),(.str ⟨#[97,100,100]⟩),(.str ⟨#[115,117,98]⟩),(.str ⟨#[109,117,108]⟩),(.str ⟨#[100,105,118,95,115]⟩),(.str ⟨#[100,105,118,95,117]⟩),(.str ⟨#[114,101,109,95,115]⟩),(.str ⟨#[114,101,109,95,117]⟩),(.str ⟨#[97,110,100]⟩),(.str ⟨#[111,114]⟩),(.str ⟨#[120,111,114]⟩),(.str ⟨#[115,104,108]⟩),(.str ⟨#[115,104,114,95,115]⟩),(.str ⟨#[115,104,114,95,117]⟩),(.str ⟨#[114,111,116,108]⟩),(.str ⟨#[114,111,116,114]⟩)])),
 (⟨#[82,79,87,83]⟩,.v (.tup [(.tup [(.int (69)),(.str ⟨#[105,51,50,46]⟩),(.tup [(.str ⟨#[101,113,122]⟩),(.str ⟨#[101,113]⟩),(.str ⟨#[110,101]⟩),(.str ⟨#[108,116,95,115]⟩),(.str ⟨#[108,116,95,117]⟩),(.str ⟨#[103,116,95,115]⟩),(.str ⟨#[103,116,95,117]⟩),(.str ⟨#[108,101,95,115]⟩),(.str ⟨#[108,101,95,117]⟩),(.str ⟨#[103,101,95,115]⟩),(.str ⟨#[103,101,95,117]⟩)])]),(.tup [(.int (80)),(.str ⟨#[105,54,52,46]⟩),(.tup [(.str ⟨#[101,113,122]⟩),(.str ⟨#[101,113]⟩),(.str ⟨#[110,101]⟩),(.str ⟨#[108,116,95,115]⟩),(.str ⟨#[108,116,95,117]⟩),(.str ⟨#[103,116,95,115]⟩),(.str ⟨#[103,116,95,117]⟩),(.str ⟨#[108,101,95,115]⟩),(.str ⟨#[108,101,95,117]⟩),(.str ⟨#[103,101,95,115]⟩),(.str ⟨#[103,101,95,117]⟩)])]),(.tup [(.int (103)),(.str ⟨#[105,51,50,46]⟩),(.tup [(.str ⟨#[99,108,122]⟩),(.str ⟨#[99,116,122]⟩),(.str ⟨#[112,111,112,99,110,116]⟩),(.str ⟨#[97,100,100]⟩),(.str ⟨#[115,117,98]⟩),(.str ⟨#[109,117,108]⟩),(.str ⟨#[100,105,118,95,115]⟩),(.str ⟨#[100,105,118,95,117]⟩),(.str ⟨#[114,101,109,95,115]⟩),(.str ⟨#[114,101,109,95,117]⟩),(.str ⟨#[97,110,100]⟩),(.str ⟨#[111,114]⟩),(.str ⟨#[120,111,114]⟩),(.str ⟨#[115,104,108]⟩),(.str ⟨#[115,104,114,95,115]⟩),(.str ⟨#[115,104,114,95,117]⟩),(.str ⟨#[114,111,116,108]⟩),(.str ⟨#[114,111,116,114]⟩)])]),(.tup [(.int (121)),(.str ⟨#[105,54,52,46]⟩),(.tup [(.str ⟨#[99,108,122]⟩),(.str ⟨#[99,116,122]⟩),(.str ⟨#[112,111,112,99,110,116]⟩),(.str ⟨#[97,100,100]⟩),(.str ⟨#[115,117,98]⟩),(.str ⟨#[109,117,108]⟩),(.str ⟨#[100,105,118,95,115]⟩),(.str ⟨#[100,105,118,95,117]⟩),(.str ⟨#[114,101,109,95,115]⟩),(.str ⟨#[114,101,109,95,117]⟩),(.str ⟨#[97,110,100]⟩),(.str ⟨#[111,114]⟩),(.str ⟨#[120,111,114]⟩),(.str ⟨#[115,104,108]⟩),(.str ⟨#[115,104,114,95,115]⟩),(.str ⟨#[115,104,114,95,117]⟩),(.str ⟨#[114,111,116,108]⟩),(.str ⟨#[114,111,116,114]⟩)])])])),
 (⟨#[78,65,77,69,83]⟩,.v (.dict [((32),(.str ⟨#[108,111,99,97,108,46,103,101,116]⟩)),((65),(.str ⟨#[105,51,50,46,99,111,110,115,116]⟩)),((33),(.str ⟨#[108,111,99,97,108,46,115,101,116]⟩)),((34),(.str ⟨#[108,111,99,97,108,46,116,101,101]⟩)),((66),(.str ⟨#[105,54,52,46,99,111,110,115,116]⟩)),((2),(.str ⟨#[98,108,111,99,107]⟩)),((3),(.str ⟨#[108,111,111,112]⟩)),((4),(.str ⟨#[105,102]⟩)),((5),(.str ⟨#[101,108,115,101]⟩)),((11),(.str ⟨#[101,110,100]⟩)),((12),(.str ⟨#[98,114]⟩)),((13),(.str ⟨#[98,114,95,105,102]⟩)),((14),(.str ⟨#[98,114,95,116,97,98,108,101]⟩)),((15),(.str ⟨#[114,101,116,117,114,110]⟩)),((16),(.str ⟨#[99,97,108,108]⟩)),((17),(.str ⟨#[99,97,108,108,95,105,110,100,105,114,101,99,116]⟩)),((26),(.str ⟨#[100,114,111,112]⟩)),((27),(.str ⟨#[115,101,108,101,99,116]⟩)),((28),(.str ⟨#[115,101,108,101,99,116]⟩)),((0),(.str ⟨#[117,110,114,101,97,99,104,97,98,108,101]⟩)),((1),(.str ⟨#[110,111,112]⟩)),((18),(.str ⟨#[114,101,116,117,114,110,95,99,97,108,108]⟩)),((19),(.str ⟨#[114,101,116,117,114,110,95,99,97,108,108,95,105,110,100,105,114,101,99,116]⟩)),((35),(.str ⟨#[103,108,111,98,97,108,46,103,101,116]⟩)),((36),(.str ⟨#[103,108,111,98,97,108,46,115,101,116]⟩)),((37),(.str ⟨#[116,97,98,108,101,46,103,101,116]⟩)),((38),(.str ⟨#[116,97,98,108,101,46,115,101,116]⟩)),((40),(.str ⟨#[105,51,50,46,108,111,97,100]⟩)),((41),(.str ⟨#[105,54,52,46,108,111,97,100]⟩)),((44),(.str ⟨#[105,51,50,46,108,111,97,100,56,95,115]⟩)),((45),(.str ⟨#[105,51,50,46,108,111,97,100,56,95,117]⟩)),((46),(.str ⟨#[105,51,50,46,108,111,97,100,49,54,95,115]⟩)),((47),(.str ⟨#[105,51,50,46,108,111,97,100,49,54,95,117]⟩)),((48),(.str ⟨#[105,54,52,46,108,111,97,100,56,95,115]⟩)),((49),(.str ⟨#[105,54,52,46,108,111,97,100,56,95,117]⟩)),((50),(.str ⟨#[105,54,52,46,108,111,97,100,49,54,95,115]⟩)),((51),(.str ⟨#[105,54,52,46,108,111,97,100,49,54,95,117]⟩)),((52),(.str ⟨#[105,54,52,46,108,111,97,100,51,50,95,115]⟩)),((53),(.str ⟨#[105,54,52,46,108,111,97,100,51,50,95,117]⟩)),((54),(.str ⟨#[105,51,50,46,115,116,111,114,101]⟩)),((55),(.str ⟨#[105,54,52,46,115,116,111,114,101]⟩)),((58),(.str ⟨#[105,51,50,46,115,116,111,114,101,56]⟩)),((59),(.str ⟨#[105,51,50,46,115,116,111,114,101,49,54]⟩)),((60),(.str ⟨#[105,54,52,46,115,116,111,114,101,56]⟩)),((61),(.str ⟨#[105,54,52,46,115,116,111,114,101,49,54]⟩)),((62),(.str ⟨#[105,54,52,46,115,116,111,114,101,51,50]⟩)),((63),(.str ⟨#[109,101,109,111,114,121,46,115,105,122,101]⟩)),((64),(.str ⟨#[109,101,109,111,114,121,46,103,114,111,119]⟩)),((167),(.str ⟨#[105,51,50,46,119,114,97,112,95,105,54,52]⟩)),((172),(.str ⟨#[105,54,52,46,101,120,116,101,110,100,95,105,51,50,95,115]⟩)),((173),(.str ⟨#[105,54,52,46,101,120,116,101,110,100,95,105,51,50,95,117]⟩)),((192),(.str ⟨#[105,51,50,46,101,120,116,101,110,100,56,95,115]⟩)),((193),(.str ⟨#[105,51,50,46,101,120,116,101,110,100,49,54,95,115]⟩)),((194),(.str ⟨#[105,54,52,46,101,120,116,101,110,100,56,95,115]⟩)),((195),(.str ⟨#[105,54,52,46,101,120,116,101,110,100,49,54,95,115]⟩)),((196),(.str ⟨#[105,54,52,46,101,120,116,101,110,100,51,50,95,115]⟩)),((208),(.str ⟨#[114,101,102,46,110,117,108,108]⟩)),((209),(.str ⟨#[114,101,102,46,105,115,95,110,117,108,108]⟩)),((210),(.str ⟨#[114,101,102,46,102,117,110,99]⟩)),((64520),(.str ⟨#[109,101,109,111,114,121,46,105,110,105,116]⟩)),((64521),(.str ⟨#[100,97,116,97,46,100,114,111,112]⟩)),((64522),(.str ⟨#[109,101,109,111,114,121,46,99,111,112,121]⟩)),((64523),(.str ⟨#[109,101,109,111,114,121,46,102,105,108,108]⟩)),((64524),(.str ⟨#[116,97,98,108,101,46,105,110,105,116]⟩)),((64525),(.str ⟨#[101,108,101,109,46,100,114,111,112]⟩)),((64526),(.str ⟨#[116,97,98,108,101,46,99,111,112,121]⟩)),((64527),(.str ⟨#[116,97,98,108,101,46,103,114,111,119]⟩)),((64528),(.str ⟨#[116,97,98,108,101,46,115,105,122,101]⟩)),((64529),(.str ⟨#[116,97,98,108,101,46,102,105,108,108]⟩))])),
 (⟨#[83,84,69,80]⟩,.v (.str ⟨#[32,32]⟩)),
 (⟨#[72,69,88]⟩,.v (.str ⟨#[48,49,50,51,52,53,54,55,56,57,97,98,99,100,101,102]⟩)),
 (⟨#[77,79,68,85,76,69,95,77,65,82,75]⟩,.v (.str ⟨#[40,109,111,100,117,108,101]⟩)),
 (⟨#[67,79,85,78,84,83]⟩,.v (.dict [((26),(.tup [(.int (1)),(.int (0))])),((27),(.tup [(.int (3)),(.int (1))])),((28),(.tup [(.int (3)),(.int (1))])),((32),(.tup [(.int (0)),(.int (1))])),((33),(.tup [(.int (1)),(.int (0))])),((34),(.tup [(.int (1)),(.int (1))])),((35),(.tup [(.int (0)),(.int (1))])),((36),(.tup [(.int (1)),(.int (0))])),((37),(.tup [(.int (1)),(.int (1))])),((38),(.tup [(.int (2)),(.int (0))])),((64527),(.tup [(.int (2)),(.int (1))])),((64529),(.tup [(.int (3)),(.int (0))])),((208),(.tup [(.int (0)),(.int (1))])),((209),(.tup [(.int (1)),(.int (1))]))]))]
noncomputable def glb (x:Str):Option D:=(get FU x).bind bY
end Mine
end
section
open PySem PySem.W PySem.Calls PyProof.Rows
namespace Mine
section
open TablesWhole
noncomputable def GD:Alg Bool:=⟨λsc n _=>PySem.W.Fast.tw15985051520779696433 sc n,λ_ _ _ ok=>ok,λ_=>true,true,false,λa b=>a&&b⟩
theorem wD:GD=holds:=by
 unfold GD
 rw[←PySem.W.Fast.te15985051520779696433]
 rfl
noncomputable def j0:Scope:=pw.main.scope
noncomputable def seg (a b:Nat):Bool:=PySem.W.Fast.tw16421684217811934046 GD j0 ⟨j0,[],[],[],none⟩ j0 ((pw.main.body.drop a).take b)
theorem uR (top:Scope) (cx:TablesWhole.Ctx) (sc:Scope) (m:List Stmt):∀l:List Stmt,wSs holds top cx sc l=true→wSs holds top cx sc m=true→wSs holds top cx sc (l++m)=true
 | [],_,h=>h
 | s::l,h,k=>Bool.and_eq_true_iff.mpr ⟨(Bool.and_eq_true_iff.mp (show (wS holds top cx sc s&&wSs holds top cx sc l)=true from h)).1,uR top cx sc m l (Bool.and_eq_true_iff.mp (show (wS holds top cx sc s&&wSs holds top cx sc l)=true from h)).2 k⟩
theorem k6 {a b c:Nat} (h:seg a b=true) (k:seg (b+a) c=true):seg a (b+c)=true:=by
 unfold seg at *
 rw[←PySem.W.Fast.te16421684217811934046,wD]at *
 rw[List.take_add,List.drop_drop,Nat.add_comm a b]
 exact uR _ _ _ _ _ h k
theorem yB:PySem.W.Fast.tw16421684217811934046 PySem.W.Fast.tw12652042256554560961 j0 ⟨j0,[],[],[],none⟩ j0 pw.main.body=[]:=by kernel_rfl
theorem yx:PySem.W.Fast.tw8331962902438777018 j0=true:=by kernel_rfl
theorem g0:seg 0 28=true:=by kernel_rfl
theorem g1:seg 28 28=true:=by kernel_rfl
theorem g2:seg 56 28=true:=by kernel_rfl
theorem g3:seg 84 28=true:=by kernel_rfl
theorem g4:seg 112 29=true:=by kernel_rfl
theorem yn {p:Program} (hm:p.modules=[]) (hp:p.parses=[]) (hh:p.harvested=[]) (t:wSs gather p.main.scope ⟨p.main.scope,[],[],[],none⟩ p.main.scope p.main.body=[])
 (n:noTwice p.main.scope=true) (h:wSs holds p.main.scope ⟨p.main.scope,[],[],[],none⟩ p.main.scope p.main.body=true):p.tablesWhole=true:=by
 unfold Program.tablesWhole wProgram
 rw[hm,hp,hh]
 show ((true&&(noTwice p.main.scope&&(wSs holds p.main.scope ⟨p.main.scope,[],wSs gather p.main.scope ⟨p.main.scope,[],[],[],none⟩ p.main.scope p.main.body,[],none⟩ p.main.scope p.main.body&&true)))&&true)=true
 rw[t,n,h]
 rfl
theorem yC:wSs gather j0 ⟨j0,[],[],[],none⟩ j0 pw.main.body=[]:=by
 rw[PySem.W.Fast.te16421684217811934046,PySem.W.Fast.te12652042256554560961]
 exact yB
theorem BL:wSs holds j0 ⟨j0,[],[],[],none⟩ j0 (pw.main.body.take 141)=true:=by
 have h:seg 0 141=true:=k6 (k6 (k6 (k6 g0 g1) g2) g3) g4
 unfold seg at h
 rw[←PySem.W.Fast.te16421684217811934046,wD]at h
 exact h
theorem AY:pw.main.body.take 141=pw.main.body:=by kernel_rfl
theorem bareN:PySem.Challenge.rw_nm0164_01.prog.bare:=
 ⟨rfl,rfl,rfl,rfl,rfl,yn (p:=pw) rfl rfl rfl yC (by rw[PySem.W.Fast.te8331962902438777018];exact yx) (AY▸BL)⟩
end
end Mine
end
section
open PySem PySem.W PySem.Calls PyProof.Rows
namespace Mine
theorem y3 {lk:Look} (m:List Stmt):∀l:List Stmt,noRoadLSs lk l=true→noRoadLSs lk m=true→noRoadLSs lk (l++m)=true
 | [],_,h=>h
 | s::l,h,k=>
   have h:noRoadLS lk s=true∧noRoadLSs lk l=true:=Bool.and_eq_true_iff.mp h
   Bool.and_eq_true_iff.mpr ⟨h.1,y3 m l h.2 k⟩
theorem qe {α:Type} {f:α→Bool} {a b c:α} (h1:(!f a)=true) (h2:(!f b)=true) (h3:(!f c)=true):[a,b,c].filter f=[]:=by
 rw[Bool.not_eq_true']at h1 h2 h3
 rw[List.filter_cons_of_neg (by rw[h1];exact Bool.false_ne_true),List.filter_cons_of_neg (by rw[h2];exact Bool.false_ne_true),List.filter_cons_of_neg (by rw[h3];exact Bool.false_ne_true)]
 rfl
theorem w5 (h0:(importedModules PySem.Challenge.rw_nm0164_01.row.prog.main.body).all cThrough.contains=true)
 (h1:(!readsOut PySem.Challenge.rw_nm0164_01.row.prog PySem.Challenge.rw_nm0164_01.row.prog.main.body "vars")=true) (h2:(!readsOut PySem.Challenge.rw_nm0164_01.row.prog PySem.Challenge.rw_nm0164_01.row.prog.main.body "dir")=true)
 (h3:(!readsOut PySem.Challenge.rw_nm0164_01.row.prog PySem.Challenge.rw_nm0164_01.row.prog.main.body "locals")=true) (h4:noRoadLSs {strict:=false,foot:=none,bare:=[]} PySem.Challenge.rw_nm0164_01.row.prog.main.body=true):
 noRoadLSs {strict:=!(importedModules PySem.Challenge.rw_nm0164_01.row.prog.main.body).all cThrough.contains,foot:=none,bare:=(["vars","dir","locals"]:List Str).filter (readsOut PySem.Challenge.rw_nm0164_01.row.prog PySem.Challenge.rw_nm0164_01.row.prog.main.body)} PySem.Challenge.rw_nm0164_01.row.prog.main.body=true:=by
 rw[h0,qe h1 h2 h3]
 exact h4
namespace y2
theorem tw6135695356004624047:True:=trivial
end y2
set_option Elab.async true in
set_option maxHeartbeats 0 in
theorem y2:PySem.Challenge.rw_nm0164_01.wellSaid=true:=by
 delta OpenLaw.wellSaid OpenRow.wellSaid OpenRow.partSaid looksOpen
 repeat' (with_reducible refine look_both ?_ ?_)
 any_goals (with_reducible refine w5 ?_ ?_ ?_ ?_ ?_)
 all_goals (first | k_qdec | kernel_rfl)
end Mine
end
section
open PySem PySem.W PySem.Calls PyProof.Rows
namespace Mine
noncomputable def b6:List String:=["type.__call__","bytearray.append","bytearray.extend","bytearray.extend.loop","bytearray.extend.end","bytearray.__init__","claim.caller"]
noncomputable def isBad (k:Code):Bool:=match k with
 | .builtin id _=>!b6.contains id
 | _=>false
noncomputable def Good (Γ:Ctx):Prop:=isBad Γ.code=false∧∀x∈Γ.below,isBad x.1=false
noncomputable def gP (x:Str):Bool:=!(x==("__debug__":Str))
noncomputable def FC (e:DictEntry):Option Int:=match e.key with
 | .int i _=>some i
 | _=>none
noncomputable def rdE (f:Value→Option D) (e:DictEntry):Option (Int×D):=(FC e).bind λi=>if e.hash=hashInt i then (f e.val).map λd=>(i,d)else none
noncomputable def rdD (f:Value→Option D) (t:String) (x:Data):Option D:=match x with
 | .seq vs _=>(kR f vs.toList).bind λds=>if t= "list" then some (.list ds)else if t= "tuple" then some (.tup ds)else none
 | .dict es _=>(kR (rdE f) es.toList).bind λl=>if t= "dict" then (match et l with | true=>some (.dict l) | false=>none)else none
 | _=>none
noncomputable def clsT (v:Value):Option String:=match v with
 | .type t=>some t
 | _=>none
noncomputable def isE0 {α:Type} (l:List α):Option Unit:=match l with
 | []=>some ()
 | _::_=>none
noncomputable def isN0 {α:Type} (l:Option α):Option Unit:=match l with
 | none=>some ()
 | some _=>none
noncomputable def rdO (f:Value→Option D) (o:Obj):Option D:=(clsT o.cls).bind λt=>(isN0 o.dict).bind λ_=>(isE0 o.slots.toList).bind λ_=>rdD f t o.data
noncomputable def rd (KF:Frag):Nat→Value→Option D
 | 0,_=>none
 | k+1,v=>match v with
   | .none=>some .none
   | .bool b=>some (.bool b)
   | .int i _=>some (.int i)
   | .str s _=>some (.str s)
   | .ref a=>(match a==sysModules with
     | true=>none
     | false=>(KF.lookup a).bind (rdO (rd KF k)))
   | _=>none
noncomputable def ooV (o:Option (Option Value)):Value:=match o with
 | some (some v)=>v
 | _=> .none
noncomputable def vA (v:Value):Addr:=match v with
 | .ref a=>a
 | _=>0
noncomputable def D6 (d:Data):Option FuncData:=match d with
 | .func fd=>some fd
 | _=>none
section
variable (KF:Frag)
noncomputable def mgF (x:Str):Value:=ooV (nsIn KF mainGlobals x)
noncomputable def caF (c:Str):Addr:=vA (mgF KF c)
noncomputable def flat (t:List (Str×List Str)):List (Str×Str):=t.flatMap λp=>p.2.map λm=>(p.1,m)
noncomputable def mthL:List (Str×Value):=(flat methods).map λp=>(dot p.1 p.2,ooV (findIn KF (.ref (caF KF p.1)) p.2))
noncomputable def fvF (x:Str):Value:=match rq x.cps.toList with
 | true=>mgF KF x
 | false=>(get (mthL KF) x).getD .none
noncomputable def topL:List (Str×Fn):=tab.filter λp=>rq p.1.cps.toList
noncomputable def AN (f:Fn):Option Str:=match f with
 | .cls c _ _=>some c
 | .obj c _ _=>some c
 | _=>none
noncomputable def dOf:Fn→Df
 | .pure d _=>d
 | .led d _=>d
 | .cls _ d _=>d
 | .obj _ d _=>d
noncomputable def C4 (p:Str×Fn):Addr:=vA (match AN p.2 with
 | none=>fvF KF p.1
 | some c=>ooV (findIn KF (.ref (caF KF c)) "__init__"))
noncomputable def funO (f:Addr):Option FuncData:=(KF.lookup f).bind λo=>D6 o.data
noncomputable def vQ (o:Obj):Bool:=match o.data with
 | .seq _ _=>true
 | _=>false
noncomputable def isNV (v:Value):Bool:=match v with
 | .none=>true
 | _=>false
noncomputable def refA (v:Value):Option Addr:=match v with
 | .ref T=>some T
 | _=>none
noncomputable def D9 (v:Value):Bool:=isNV v || (((refA v).bind λT=>KF.lookup T).map vQ).getD false
noncomputable abbrev Sig:=Scope×FuncBody×List (Str×Addr)×Addr×Addr×List PySem.Arg×List PySem.Arg×Option PySem.Arg×Option PySem.Arg×List Str×Bool×Bool
noncomputable def yW (fd:FuncData):Sig:=(fd.scope,fd.body,fd.closure,fd.globals,fd.builtins,fd.params.posonlyargs,fd.params.kwonlyargs,fd.params.vararg,fd.params.kwarg,fd.params.args.map (·.arg),codeIn KF fd.code fd.qualname,D9 KF fd.defaults)
noncomputable def Ga (d:Df):Sig:=(d.sc,.stmts d.body,[],mainGlobals,builtinsNs,[],[],none,none,d.params,true,true)
noncomputable def pJ:List Str→Bool
 | []=>true
 | x::l=>!has l x&&pJ l
noncomputable def vm (k:NameKind):Bool:=match k with
 | .free=>false
 | _=>true
noncomputable def vH (k:Option NameKind):Bool:=match k with
 | some .local=>true
 | some .cell=>true
 | _=>false
noncomputable def yZ (d:Df):Bool:=pJ d.params&&isFun d.sc.kind&& !d.sc.isCoroutine&& !d.sc.isGenerator&&(d.sc.names.all λy=>vm y.2&&gP y.1)&&(d.params.all λx=>vH (d.sc.names.lookup x))&&pJ ((cellsFrom 0 d.sc.names []).map (·.1))
noncomputable def hdF (p:Str×Fn):Value×Bool×Option (Option Value)×Option Value:=match AN p.2 with
 | none=>(fvF KF p.1,true,none,none)
 | some c=>(fvF KF p.1,makesIn KF (caF KF c),findIn KF (.ref (caF KF c)) "__init__",typeIn KF (.ref (C4 KF p)))
noncomputable def hdE (p:Str×Fn):Value×Bool×Option (Option Value)×Option Value:=match AN p.2 with
 | none=>(.ref (C4 KF p),true,none,none)
 | some c=>(.ref (caF KF c),true,some (some (.ref (C4 KF p))),some (.type "function"))
noncomputable abbrev Fgl:Prop:=FU.map (λp=>(gP p.1,((nsIn KF mainGlobals p.1).bind λo=>o.bind λv=>rd KF 8 v).map AV.v))=FU.map λp=>(true,some p.2)
noncomputable abbrev Ffn:Prop:=topL.map (λp=>(gP p.1,nsIn KF mainGlobals p.1,keepIn KF (fvF KF p.1)))=topL.map λp=>(true,some (some (fvF KF p.1)),true)
noncomputable abbrev Ffl:Prop:=(flat fields).map (λp=>((clsIn KF (caF KF p.1)).map (·.hasDict),findIn KF (.ref (caF KF p.1)) p.2,findIn KF (.ref (caF KF p.1)) "__getattribute__",findIn KF (.ref (caF KF p.1)) "__getattr__",findIn KF (.ref (caF KF p.1)) "__setattr__",plainOver KF (caF KF p.1)))=
 (flat fields).map λp=>(some true,some none,some (some (.builtin "object.__getattribute__")),some none,some (some (.builtin "object.__setattr__")),true)
noncomputable abbrev Fmt:Prop:=(flat methods).map (λp=>(di p.1 p.2,((get fields p.1).bind List.head?).map (di p.1),fvF KF (dot p.1 p.2),findIn KF (.ref (caF KF p.1)) p.2,typeIn KF (fvF KF (dot p.1 p.2)),keepIn KF (fvF KF (dot p.1 p.2))))=
 (flat methods).map λp=>(false,some true,.ref (vA (fvF KF (dot p.1 p.2))),some (some (.ref (vA (fvF KF (dot p.1 p.2))))),some (.type "function"),true)
noncomputable abbrev Fbl:Prop:=f9.map (λp=>(gP p.1,p.1==("__name__":Str),nsIn KF mainGlobals p.1,bootBuiltins p.1))=f9.map λp=>(true,false,some none,some (AZ p.2))
noncomputable abbrev Ftb:Prop:=tab.map (λp=>(funO KF (C4 KF p)).map (yW KF))=tab.map λp=>some (Ga (dOf p.2))
noncomputable abbrev Fth:Prop:=tab.map (hdF KF)=tab.map (hdE KF)
structure Facts:Prop where
 gl:Fgl KF
 fn:Ffn KF
 fl:Ffl KF
 mt:Fmt KF
 bl:Fbl KF
 tb:Ftb KF
 th:Fth KF
theorem As (h1:Nonempty (Fgl KF)) (h2:Nonempty (Ffn KF)) (h3:Nonempty (Ffl KF)) (h4:Nonempty (Fmt KF)) (h5:Nonempty (Fbl KF)) (h6:Nonempty (Ftb KF)) (h7:Nonempty (Fth KF)):Facts KF:=
 ⟨h1.elim id,h2.elim id,h3.elim id,h4.elim id,h5.elim id,h6.elim id,h7.elim id⟩
end
theorem EY:tab.map (λp=>yZ (dOf p.2))=tab.map λ_=>true:=by kernel_rfl
theorem C5 {α β N O S:Type} {A:α→β→Prop} {R R':α→β→N→O→S→Prop} {T:α→β→O→S→Prop} (h:∃a b,A a b∧∃n o s,R a b n o s∧T a b o s) (k:∀a b n o s,A a b→R a b n o s→∃n,R' a b n o s):∃a b,A a b∧∃n o s,R' a b n o s∧T a b o s:=
 h.imp λa h=>h.imp λb h=>⟨h.1,h.2.elim λn z=>z.elim λo z=>z.elim λs z=>(k a b n o s h.1 z.1).imp λn q=>⟨o,s,q,z.2⟩⟩
theorem Gb {α β:Type} {F F' G G':α→Prop} {T A B D C C' T' Z W:α→β→Prop} (h:∃a,F a∧G a∧∃b,T a b∧A a b∧B a b∧D a b∧C a b) (g:∃a,F' a∧G' a∧∃t,T' a t∧Z a t∧W a t) (u:∀a a',F a→F' a'→a=a') (k:∀a b t,T a b→T' a t→Z a t→C a b→C' a b):
 ∃a,F a∧G a∧∃b,T a b∧A a b∧B a b∧D a b∧C' a b:=
 h.elim λa h=>g.elim λa' g=>⟨a,h.1,h.2.1,h.2.2.elim λb z=>g.2.2.elim λt y=>⟨b,z.1,z.2.1,z.2.2.1,z.2.2.2.1,have e:=u a a' h.1 g.1;k a b t z.1 (e▸y.1) (e▸y.2.1) z.2.2.2.2⟩⟩
noncomputable def iY (st:List (Code×Pos)):Bool:=st.all λx=>!isBad x.1
theorem iX {Γ:Ctx} {p:Pos}:iY ((Γ.code,p)::Γ.below)=true↔Good Γ:=by
 unfold iY Good
 rw[List.all_cons,Bool.and_eq_true,List.all_eq_true,Bool.not_eq_true']
 exact and_congr_right λ_=>forall_congr' λx=>forall_congr' λ_=>by rw[Bool.not_eq_true']
noncomputable def wpg {α:Type} (M:Model) (A:Around) (t:Sem α) (Q:α→Shared→Prop) (s:Shared):Prop:=
 ∀Γ p,Γ.In A→Good Γ→Sem.wp M Γ t (λa _ s'=>Q a s') (λ_ _ _=>False) p s
noncomputable def look {α:Type} (t:Sem α) (u:Sem α):Sem α:=stack>>=λst=>if iY st=true then t else u
section
variable {α:Type} {M:Model} {A:Around} {t u:Sem α} {v:α} {Q:α→Shared→Prop} {E:Value→Shared→Prop} {s:Shared}
theorem lj {Γ:Ctx} {p:Pos} {Q:α→Pos→Shared→Prop} {E:Value→Pos→Shared→Prop}:Sem.wp M Γ (look t u) Q E p s=Sem.wp M Γ (if iY ((Γ.code,p)::Γ.below)=true then t else u) Q E p s:=by
 unfold look
 rw[Sem.wp_bind']
 rfl
theorem ti (h:wpg M A t Q s) (hv:Q v s):wpAny M A (look t (pure v)) Q E s:=λΓ p hΓ=>by
 rw[lj]
 by_cases hg:iY ((Γ.code,p)::Γ.below)=true
 · rw[if_pos hg]
   exact Sem.wp_mono M Γ t (λ_ _ _ x=>x) (λ_ _ _ x=>x.elim) p s (h Γ p hΓ (iX.mp hg))
 · rw[if_neg hg];exact hv
end
section
variable {den:Code→Sem PySem.Fin} {prog:Program} {w:World} {s s':Shared} {t u:Sem PySem.Fin} {id:String} {args:Args} {o:Outcome}
theorem xj (h:b6.contains id=true) (ha:s.asleep):sstep den prog w (.single s ⟨look t u,.builtin id args,default,[]⟩)= .go (.single s ⟨t,.builtin id args,default,[]⟩):=by
 have e:step den prog w s ⟨look t u,.builtin id args,default,[]⟩= .go s ⟨t,.builtin id args,default,[]⟩:=by
  show PySem.Step.go s ⟨if iY ((.builtin id args,default)::[])=true then t else u,.builtin id args,default,[]⟩=_
  rw[if_pos (by show ((!!b6.contains id)&&true)=true;rw[h];rfl)]
 rcases sstep_single den prog w s ⟨look t u,.builtin id args,default,[]⟩ rfl ha with q | q
 · rw[q,e];rfl
 · rw[e]at q;cases q
theorem tV (h:b6.contains id=true) (ha:s.asleep):
 ∀n,schedN den prog w n (.single s ⟨look t u,.builtin id args,default,[]⟩)= .halted o s'→∃n,schedN den prog w n (.single s ⟨t,.builtin id args,default,[]⟩)= .halted o s'
 | 0,q=>by cases q
 | n+1,q=>⟨n,by rw[schedN,xj h ha]at q;exact q⟩
theorem nY {c:ClaimW} {w:World} {free:Addr→Prop} {gens:Prop} {kept:Heap→Prop} {s₀:Shared} {tree:List Value→Sem PySem.Fin} {u:List Value→Sem PySem.Fin} (ha:s₀.asleep)
 (h:c.CallFrom (λvs=>⟨look (tree vs) (u vs),.builtin "claim.caller" {},default,[]⟩) w free gens kept s₀):c.CallFrom (λvs=>⟨tree vs,.builtin "claim.caller" {},default,[]⟩) w free gens kept s₀:=
 λargs hpre hlay ord hord=>C5 (h args hpre hlay ord hord) λvs s₁ n o s' hl hr=>tV rfl (Shared.asleep_of_life (layAllW_rest _ _ _ hl).2.2.2 ha) n hr
end
noncomputable abbrev rwN:OpenLaw:=PySem.Challenge.rw_nm0164_01
noncomputable def uy:Prop:=∀{prog:Program} {P:Params} {w:World} {KF:Frag} {mg mb:Str→Option Value} {cl:Str→Option Addr} {mean:ExcName→Option Value} {s₁:Shared} {fa:Addr} {args:List WData} {vals:List Value},
 KF.In s₁.heap→s₁.heap.Ns mainGlobals mg→s₁.heap.Ns builtinsNs mb→(∀x:Str,x≠ "__name__"→mb x=bootBuiltins x)→s₁.heap.NoLimit→s₁.gens= #[]→mg "law"=some (.ref fa)→
 rwN.row.toRowW.claim.pre args=true→WellAll P s₁.heap vals args→Facts KF→
 GoodWG rwN.row.toRowW.claim cl mean args s₁ (.ok (.ret (.bool true))) s₁∧wpg (model prog w) callerA (PySem.call (.ref fa) vals) (λv s'=>GoodWG rwN.row.toRowW.claim cl mean args s₁ (.ok (.ret v)) s') s₁
noncomputable def qL:Program:={PySem.Challenge.rw_nm0164_01.prog with main:={PySem.Challenge.rw_nm0164_01.prog.main with body:=PySem.Challenge.rw_nm0164_01.prog.main.body.drop 140}}
noncomputable def loL:List Str:=PySem.Challenge.rw_nm0164_01.prog.main.scope.names.map (·.1)
noncomputable def live (o:Obj):Bool:=match o with
 | ⟨_,_,.freed,_⟩=>false
 | _=>true
noncomputable def vj (l:List Obj):Nat→List Nat→List Obj:=
 @List.rec Obj (λ_=>Nat→List Nat→List Obj) (λ_ _=>[]) (λo _ ih i as=>@List.rec Nat (λ_=>List Obj) [] (λa r _=>@Bool.rec (λ_=>List Obj) (ih (Nat.add i 1) as) (@Bool.rec (λ_=>List Obj) [] (o::ih (Nat.add i 1) r) (live o)) (Nat.beq a i)) as) l
theorem pG:∀(os:List Obj) (i:Nat) (ps:List (Nat×Obj)),vj os i (ps.map (·.1))=ps.map (·.2)→∀p∈ps,∃j,p.1=i+j∧os[j]? =some p.2∧live p.2=true
 | [],_,[],_,_,hp=>nomatch hp
 | [],_,_::_,h,_,_=>nomatch h
 | _::_,_,[],_,_,hp=>nomatch hp
 | o::os,i,q::ps,h,p,hp=>by
   have h: @Bool.rec (λ_=>List Obj) (vj os (i+1) ((q::ps).map (·.1))) (@Bool.rec (λ_=>List Obj) [] (o::vj os (i+1) (ps.map (·.1))) (live o)) (Nat.beq q.1 i)=q.2::ps.map (·.2):=h
   cases e:Nat.beq q.1 i with
   | false=>
     rw[e]at h
     obtain⟨j,h1,h2⟩:=pG os (i+1) (q::ps) h p hp
     exact⟨j+1,by omega,h2⟩
   | true=>
     rw[e]at h
     cases l:live o with
     | false=>rw[l]at h;cases h
     | true=>
       rw[l]at h
       obtain⟨h1,h2⟩:=List.cons.inj h
       rcases List.mem_cons.mp hp with rfl | hp
       · exact⟨0,Nat.eq_of_beq_eq_true e,congrArg some h1,h1▸l⟩
       · obtain⟨j,h3,h4⟩:=pG os (i+1) ps h2 p hp
         exact⟨j+1,by omega,h4⟩
theorem Af {h:Heap} {a:Nat} {o:Obj} (e:h.objs.toList[a]? =some o) (l:live o=true):h.get? a=some o:=by
 unfold Heap.get?
 rw[Array.getElem?_toList]at e
 rw[e]
 obtain⟨c,d,x,y⟩:=o
 cases x<;>first | rfl | cases l
theorem Al {K:Frag} {a:Addr} {o:Obj}:K.lookup a=some o→(a,o)∈K:=by
 induction K with
 | nil=>intro h;cases h
 | cons p K ih=>
   intro h
   rw[List.lookup]at h
   split at h
   · rename_i e
     cases h
     exact List.mem_cons.mpr (.inl (by rw[eq_of_beq e]))
   · exact List.mem_cons_of_mem _ (ih h)
noncomputable def obL (as:List Addr) (s:Shared):List Obj:=vj s.heap.objs.toList 0 as
noncomputable def vaL (K:Params→Frag) (w:World):List Obj:=(K w.params).map (·.2)
theorem xu {K:Params→Frag} {as:List Addr} (e:∀P,as=(K P).map (·.1)) (w:World) (s:Shared) (h:obL as s=vaL K w):InK K w s.heap:=by
 intro a o hl
 unfold obL vaL at h
 rw[e w.params]at h
 obtain⟨j,h1,h2,h3⟩:=pG _ _ _ h _ (Al hl)
 rw[Nat.zero_add]at h1
 have h1:a=j:=h1
 subst h1
 exact Af h2 h3
end Mine
theorem Mine.PySem.W.holds_open {q:Program} {loose:List Str} {Xt:Shared→Bool} {XP:(Str→Option Value)→Heap→Prop} {α:Type} {Yf:Shared→α} {Ya:World→α} {YP:World→Heap→Prop} {d:DefRec} {kwd:List (Str×Expr)} {N:Nat} {K:Params→Frag} {as:List Addr} {e:∀P,as=(K P).map (·.1)}
 (left:LeftO PySem.Challenge.rw_nm0164_01.row.prog Mine.qL Mine.loL (λ_=>true) (Mine.obL as) (Mine.vaL K) N)
 (_:∀w s,(kHook K as e).obs s=(kHook K as e).val w→(kHook K as e).says w s.heap) (_:∀w h h',(kHook K as e).says w h→(∀b o,h.get? b=some o→h'.get? b=some o)→(kHook K as e).says w h')
 (_:∀s,Xt s=true→XP (s.heap.nsMap mainGlobals) s.heap) (_:∀mg h h',XP mg h→(∀b o,h.get? b=some o→h'.get? b=some o)→XP mg h')
 (hdef:defOf Mine.qL PySem.Challenge.rw_nm0164_01.row.name=some (d,kwd)) (hp:PySem.Challenge.rw_nm0164_01.row.prog.theDef PySem.Challenge.rw_nm0164_01.row.name=some (d.params,d.body,d.scope)) (hk:kwWritten? d.params.kwonlyargs d.params.kw_defaults=some kwd)
 (_:∀s,Xt s=true→RecFacts PySem.Challenge.rw_nm0164_01.row.records s.heap) (hwr:(!PySem.Challenge.rw_nm0164_01.row.writes || PySem.Challenge.rw_nm0164_01.row.records.isEmpty)=true)
 (k1:PySem.Challenge.rw_nm0164_01.row.wellSaid=true) (ok:(chainsOk Mine.qL&&opensWell PySem.Challenge.rw_nm0164_01.row.prog&&(frees PySem.Challenge.rw_nm0164_01.row.toRowW&&PySem.Challenge.rw_nm0164_01.row.within.isEmpty))=true)
 (_:0=0∧0=0∧0=0∧0=0∧0=0∧true=true) (hw:PySem.Challenge.rw_nm0164_01.row.toRowW.promised)
 (call:∀P,Mine.Facts (K P)) (hL:Mine.uy:=by assumption):PySem.Challenge.rw_nm0164_01.row.Holds:=by
 have hX:∀s:Shared,(λ_:Shared=>true) s=true→(λ(_:Str→Option Value) (_:Heap)=>True) (s.heap.nsMap mainGlobals) s.heap:=λ_ _=>trivial
 have H:PySem.Challenge.rw_nm0164_01.row.toRowW.claim.HoldsOpenBy (λvs=>⟨Mine.look (nsGet mainNs PySem.Challenge.rw_nm0164_01.row.name>>=λx=>match x with
  | some f=>PySem.call f vs>>=λv=>ret v
  | none=>unsupported "claim.caller:no-such-global") (pure (.done (.ret (.bool true)))),.builtin "claim.caller" {},default,[]⟩) (if PySem.Challenge.rw_nm0164_01.row.pinned then [PySem.Challenge.rw_nm0164_01.row.name]else []) PySem.Challenge.rw_nm0164_01.row.keeps PySem.Challenge.rw_nm0164_01.row.writes:=by
  refine open_anyG (r:=PySem.Challenge.rw_nm0164_01.row.toRowW) (XP:=λ_ _=>True) (YP:=InK K) (run:=λf vs=>Mine.look (PySem.call f vs) (pure (.bool true))) (tree:=λvs=>Mine.look _ _) left (Mine.xu e) InK.keeps hX (λ_ _ _ _ _=>trivial) (λ_ _=>recFacts_nil rfl) hwr ok Mine.bareN hw
   (λvs w s mg f Q E hg hf h=>?_) (λw s hg G n hn=>?_) λw s₀ s₁ mg mb G Y args vs as hpre hlay L low=>?_
  · intro Γ p hΓ
    rw[Mine.lj]
    by_cases hg':Mine.iY ((Γ.code,p)::Γ.below)=true
    · rw[if_pos hg']
      have hc:∀p',Sem.wp (model PySem.Challenge.rw_nm0164_01.row.prog w) Γ (PySem.call f vs) (λv _ s'=>Q (.done (.ret v)) s') (λe _ s'=>E e s') p' s:=λp'=>by
       have h1:=h Γ p' hΓ
       rw[Mine.lj,if_pos (Mine.iX.mpr (Mine.iX.mp hg'))]at h1
       exact h1
      rw[Sem.wp_bind']
      refine Sem.wp_mono _ Γ _ (λx p' s' z=>z p') (λ_ _ _ z=>z) p s (wpAny_nsGet (M:=model PySem.Challenge.rw_nm0164_01.row.prog w) (A:=callerA) (E:=E) (Q:=λx s'=>∀p',Sem.wp (model PySem.Challenge.rw_nm0164_01.row.prog w) Γ (match x with
       | some f=>PySem.call f vs>>=λv=>ret v
       | none=>unsupported "claim.caller:no-such-global") (λa _ s'=>Q a s') (λe _ s'=>E e s') p' s') hg (by
         rw[hf]
         intro p'
         dsimp only
         rw[Sem.wp_bind']
         exact hc p') Γ p hΓ)
    · rw[if_neg hg']
      have h0:=h Γ p hΓ
      rw[Mine.lj,if_neg hg']at h0
      exact h0
  · obtain rfl:n=PySem.Challenge.rw_nm0164_01.row.name:=by split at hn<;>simp_all
    exact pinned_of_view hg G hdef hp hk
  · refine Mine.cF λP k=>?_
    obtain⟨a,o,pm,cd,doc,dV,kV,h1,h2,h3,h4,h5⟩:=G.fn hdef
    obtain⟨g,c⟩:=hL Y G.T.g G.T.b G.T.builtins G.T.nolimit L.gens h1 hpre L.well (call w.params)
    exact k ⟨.ref a,h1,Mine.ti c g⟩
 have hch:=(Bool.and_eq_true_iff.mp (Bool.and_eq_true_iff.mp ok).1).1
 exact⟨k1,hw,H.1,H.2.1,λw=>⟨(H.2.2 w).1,λs hs=>Mine.Gb ((H.2.2 w).2 s hs) ((left.behind (XP:=λ_ _=>True) hX hch w).2 s hs) (λa a' h h'=>Option.some.inj (h.symm.trans h')) λa b t hT hT' hz hc=>Mine.nY (u:=λ_=>pure (.done (.ret (.bool true)))) (Shared.asleep_of_life (hT.2.1.trans hT'.2.1.symm) hz) hc⟩⟩
end
section
open PySem PySem.W PyProof.Rows Mine
namespace Mine.fin
theorem tw16663644414393266165:True:=⟨⟩
theorem tw3523348777828740581:True:=⟨⟩
theorem tw14497727239971306367:True:=⟨⟩
theorem tw1450881378762983150:True:=⟨⟩
theorem tw17130245016438642246:True:=⟨⟩
theorem tw18195182924450695511:True:=⟨⟩
theorem tw8947099994592609211:True:=⟨⟩
theorem tw10002699936043487104:True:=⟨⟩
theorem tw1987541392991941342:True:=⟨⟩
theorem tw16237762584071213788:True:=⟨⟩
theorem tw6577878126316647860:True:=⟨⟩
theorem tw4218790737952374519:True:=⟨⟩
theorem tw17743408960866722510:True:=⟨⟩
theorem tw3976127234124569322:True:=⟨⟩
theorem tw11627564742378439650:True:=⟨⟩
theorem tw10708223146118651492:True:=⟨⟩
theorem tw72468614111535258:True:=⟨⟩
theorem tw14449560505687523246:True:=⟨⟩
theorem tw11497045990708751045:True:=⟨⟩
theorem tw10770419977021028743:True:=⟨⟩
theorem tw5266742908149448401:True:=⟨⟩
theorem tw4209717502836232480:True:=⟨⟩
theorem tw6968583824967984638:True:=⟨⟩
theorem tw8076651003907644567:True:=⟨⟩
theorem tw6878024787957991413:True:=⟨⟩
theorem tw4306616734650971735:True:=⟨⟩
theorem tw2321816554428607280:True:=⟨⟩
theorem tw6113989636485653130:True:=⟨⟩
theorem tw9597861255099599992:True:=⟨⟩
theorem tw16592019574015783615:True:=⟨⟩
theorem tw9713546201632813291:True:=⟨⟩
theorem tw5292745204252695550:True:=⟨⟩
theorem tw18176387895596863783:True:=⟨⟩
theorem tw1921391257341544841:True:=⟨⟩
theorem tw11471956102464614933:True:=⟨⟩
theorem tw7363827456180718993:True:=⟨⟩
theorem tw17041991840579044601:True:=⟨⟩
theorem tw2503846163805864124:True:=⟨⟩
theorem tw12757720458447036936:True:=⟨⟩
theorem tw9339408515151402362:True:=⟨⟩
theorem tw1925172942601825186:True:=⟨⟩
theorem tw5079576279043364846:True:=⟨⟩
theorem tw7282745182861764756:True:=⟨⟩
theorem tw14018533915963200917:True:=⟨⟩
theorem tw8766236636241539760:True:=⟨⟩
theorem tw6620296344095940468:True:=⟨⟩
theorem tw2166132053117320017:True:=⟨⟩
theorem tw13815853411582834384:True:=⟨⟩
theorem tw3810570522144960214:True:=⟨⟩
theorem tw8289400949097046189:True:=⟨⟩
theorem tw15530151957754944063:True:=⟨⟩
theorem tw2021336271155450331:True:=⟨⟩
theorem tw12868640280835112553:True:=⟨⟩
theorem tw14336544582882092262:True:=⟨⟩
theorem tw33427290768588972:True:=⟨⟩
theorem tw9839346839192117915:True:=⟨⟩
theorem tw1035503724928835527:True:=⟨⟩
theorem tw9556950149685670313:True:=⟨⟩
theorem tw7380833856163905736:True:=⟨⟩
theorem tw12686965223737687597:True:=⟨⟩
theorem tw15530281825414154361:True:=⟨⟩
theorem tw15989303212955285315:True:=⟨⟩
theorem tw13897998561410390955:True:=⟨⟩
theorem tw17416127249078093707:True:=⟨⟩
theorem tw10580198807604790814:True:=⟨⟩
theorem tw266292477781368812:True:=⟨⟩
theorem tw7000300075881102575:True:=⟨⟩
theorem tw12356021495744459628:True:=⟨⟩
theorem tw13929302177132474383:True:=⟨⟩
theorem tw5959876418071484736:True:=⟨⟩
theorem tw11792580021688688460:True:=⟨⟩
theorem tw2377308710366028375:True:=⟨⟩
theorem tw3939050589584296047:True:=⟨⟩
theorem tw1397760914580469452:True:=⟨⟩
theorem tw3598329298470268980:True:=⟨⟩
theorem tw14111491100615862519:True:=⟨⟩
theorem tw7177338460636591580:True:=⟨⟩
theorem tw13203597883595413489:True:=⟨⟩
theorem tw4598667867955821814:True:=⟨⟩
theorem tw14333544728242365436:True:=⟨⟩
theorem tw18432832500472784540:True:=⟨⟩
theorem tw16625790000389398615:True:=⟨⟩
theorem tw2366236672687842684:True:=⟨⟩
theorem tw17050272068862301339:True:=⟨⟩
theorem tw8953957674483744013:True:=⟨⟩
theorem tw7278507554335971580:True:=⟨⟩
theorem tw18229214257126973365:True:=⟨⟩
theorem tw17512474026176034454:True:=⟨⟩
theorem tw14254621764821748828:True:=⟨⟩
theorem tw12757126508119417436:True:=⟨⟩
theorem tw17186005699333237546:True:=⟨⟩
theorem tw17546527683439953779:True:=⟨⟩
theorem tw13725586671793368924:True:=⟨⟩
theorem tw2523478847598653984:True:=⟨⟩
theorem tw8439367832339070974:True:=⟨⟩
theorem tw6566618420281934:True:=⟨⟩
theorem tw1903126291601959907:True:=⟨⟩
theorem tw2565351972500760935:True:=⟨⟩
theorem tw799341379326975648:True:=⟨⟩
theorem tw9392990170073665149:True:=⟨⟩
theorem tw12550770813317053977:True:=⟨⟩
theorem tw4162185377826839926:True:=⟨⟩
theorem tw3302319216010004292:True:=⟨⟩
theorem tw9735714214384596553:True:=⟨⟩
theorem tw13360279666012451719:True:=⟨⟩
theorem tw7319501015663598286:True:=⟨⟩
theorem tw5372875611105449904:True:=⟨⟩
theorem tw1713156846745171867:True:=⟨⟩
theorem tw15846704840505152836:True:=⟨⟩
theorem tw3410196128995246917:True:=⟨⟩
theorem tw2991292073481677994:True:=⟨⟩
theorem tw4806268862455609328:True:=⟨⟩
theorem tw11750646167744613905:True:=⟨⟩
theorem tw2995622967998787300:True:=⟨⟩
theorem tw9913140749668108558:True:=⟨⟩
theorem tw3395650296261689528:True:=⟨⟩
theorem tw12663102006800830970:True:=⟨⟩
theorem tw9508293364712189505:True:=⟨⟩
theorem tw11680795503199820150:True:=⟨⟩
theorem tw8940416962707143629:True:=⟨⟩
theorem tw17233457631738950974:True:=⟨⟩
theorem tw6712194924023145494:True:=⟨⟩
theorem tw5678346346211369953:True:=⟨⟩
theorem tw11953781441336167498:True:=⟨⟩
theorem tw7890596953891613788:True:=⟨⟩
theorem tw16867096813858660809:True:=⟨⟩
theorem tw15083174532876359662:True:=⟨⟩
theorem tw12718612220689870738:True:=⟨⟩
theorem tw4640724917100965312:True:=⟨⟩
theorem tw10504543856557348713:True:=⟨⟩
theorem tw5555312102172926907:True:=⟨⟩
theorem tw18075230132384515194:True:=⟨⟩
theorem tw18230178534529381785:True:=⟨⟩
theorem tw7098310284689642954:True:=⟨⟩
theorem tw7267163888087337239:True:=⟨⟩
theorem tw12494888245299231016:True:=⟨⟩
theorem tw13838681890673545272:True:=⟨⟩
theorem tw7822013112032934038:True:=⟨⟩
theorem tw9962418760945406050:True:=⟨⟩
theorem tw7984984655924894608:True:=⟨⟩
theorem tw16908780153626456763:True:=⟨⟩
theorem tw8614737586434602478:True:=⟨⟩
theorem tw7716820226725407877:True:=⟨⟩
theorem tw9631822210178866636:True:=⟨⟩
theorem tw3112429581023547943:True:=⟨⟩
theorem tw8890792774038802474:True:=⟨⟩
theorem tw6794536074604225881:True:=⟨⟩
theorem tw8569027658895312972:True:=⟨⟩
theorem tw6765885160407392965:True:=⟨⟩
theorem tw1213908355484861934:True:=⟨⟩
theorem tw10936777179133785780:True:=⟨⟩
theorem tw16644462212089915155:True:=⟨⟩
theorem tw5689665320540551426:True:=⟨⟩
theorem tw15318298843283016826:True:=⟨⟩
theorem tw13278809456085556237:True:=⟨⟩
theorem tw7518579229450374285:True:=⟨⟩
theorem tw15681417991851648634:True:=⟨⟩
theorem tw3597285623890379148:True:=⟨⟩
theorem tw16622976982446799508:True:=⟨⟩
theorem tw6435670951450185984:True:=⟨⟩
theorem tw11821157177794564280:True:=⟨⟩
theorem tw295240868970151085:True:=⟨⟩
theorem tw7995428538843987458:True:=⟨⟩
theorem tw4043148821406017626:True:=⟨⟩
theorem tw8999559765510592377:True:=⟨⟩
theorem tw10279692637995926009:True:=⟨⟩
theorem tw1324748791087667916:True:=⟨⟩
theorem tw8896352889252549814:True:=⟨⟩
theorem tw428092273266315144:True:=⟨⟩
theorem tw6220327705178566785:True:=⟨⟩
theorem tw13781542876482819989:True:=⟨⟩
theorem tw7470013935711676318:True:=⟨⟩
theorem tw15619530173980987831:True:=⟨⟩
theorem tw429763040754596015:True:=⟨⟩
theorem tw17260493314774615805:True:=⟨⟩
theorem tw6471637959255122241:True:=⟨⟩
theorem tw16554438482525722971:True:=⟨⟩
theorem tw14996743850099388458:True:=⟨⟩
theorem tw8677802771170823506:True:=⟨⟩
theorem tw2617349483901765261:True:=⟨⟩
theorem tw670465573061467203:True:=⟨⟩
theorem tw13340193867117315797:True:=⟨⟩
theorem tw17795422810854671358:True:=⟨⟩
theorem tw13689246381084688261:True:=⟨⟩
theorem tw18255404467826089762:True:=⟨⟩
theorem tw2444273588731816371:True:=⟨⟩
theorem tw944135987803093777:True:=⟨⟩
theorem tw5962627729488381771:True:=⟨⟩
theorem tw7033882931294258662:True:=⟨⟩
theorem tw10088260576245011566:True:=⟨⟩
theorem tw11414119711712004833:True:=⟨⟩
theorem tw17911201065640838737:True:=⟨⟩
theorem tw9357874355931990178:True:=⟨⟩
theorem tw9973546303253646035:True:=⟨⟩
theorem tw13673274986797844941:True:=⟨⟩
theorem tw14856888987745899463:True:=⟨⟩
theorem tw6340033436541877084:True:=⟨⟩
theorem tw12343934877155477432:True:=⟨⟩
theorem tw9711862698833617823:True:=⟨⟩
theorem tw7786677914034681988:True:=⟨⟩
theorem tw4696956992080197669:True:=⟨⟩
theorem tw16991462679434999460:True:=⟨⟩
theorem tw16934629359412608497:True:=⟨⟩
theorem tw14345562132136545540:True:=⟨⟩
theorem tw3029852977388229646:True:=⟨⟩
theorem tw2462912638960843985:True:=⟨⟩
theorem tw15243534294739168615:True:=⟨⟩
theorem tw17717364068325071970:True:=⟨⟩
theorem tw2595221338624275699:True:=⟨⟩
theorem tw10704335966402640001:True:=⟨⟩
theorem tw12487371901255815361:True:=⟨⟩
theorem tw2305881189932309285:True:=⟨⟩
theorem tw6567050819087999508:True:=⟨⟩
theorem tw17963964198891936676:True:=⟨⟩
theorem tw17918125715009934602:True:=⟨⟩
theorem tw4547926851270420831:True:=⟨⟩
theorem tw8269367382603917829:True:=⟨⟩
theorem tw757079261281740938:True:=⟨⟩
theorem tw6449190631224713292:True:=⟨⟩
theorem tw2145012663239829070:True:=⟨⟩
theorem tw5196160543931855155:True:=⟨⟩
theorem tw7861780978402302908:True:=⟨⟩
theorem tw17123178472405020103:True:=⟨⟩
theorem tw13566729865485783148:True:=⟨⟩
theorem tw9073057256386726948:True:=⟨⟩
theorem tw10671828304227620169:True:=⟨⟩
theorem tw5074984922658293691:True:=⟨⟩
theorem tw3222278782482380304:True:=⟨⟩
theorem tw8059700687775931431:True:=⟨⟩
theorem tw8092282109911263626:True:=⟨⟩
theorem tw5514125408013525434:True:=⟨⟩
theorem tw17132207802985990308:True:=⟨⟩
theorem tw2070271336192807200:True:=⟨⟩
theorem tw18295790063311454060:True:=⟨⟩
theorem tw13066358836101814915:True:=⟨⟩
theorem tw4539171949673491577:True:=⟨⟩
theorem tw17933470926392208243:True:=⟨⟩
theorem tw12612204703400128841:True:=⟨⟩
theorem tw15434440284735832900:True:=⟨⟩
theorem tw12780881840741157306:True:=⟨⟩
theorem tw4768634762848416435:True:=⟨⟩
theorem tw14728723275428758510:True:=⟨⟩
theorem tw13162651487661262736:True:=⟨⟩
theorem tw7717670044629686970:True:=⟨⟩
theorem tw5576714124690252594:True:=⟨⟩
theorem tw10007411396671696613:True:=⟨⟩
theorem tw17433287530729320394:True:=⟨⟩
theorem tw2487034316364812284:True:=⟨⟩
theorem tw9436355067682764387:True:=⟨⟩
theorem tw6245052726248493572:True:=⟨⟩
theorem tw12741526300851653767:True:=⟨⟩
theorem tw12705944875615423002:True:=⟨⟩
theorem tw18099640592841667524:True:=⟨⟩
theorem tw6532753360307331927:True:=⟨⟩
theorem tw9453873691999584502:True:=⟨⟩
theorem tw2441168790927817222:True:=⟨⟩
theorem tw3293696948919318046:True:=⟨⟩
theorem tw2656788454239962097:True:=⟨⟩
theorem tw13925877587632400325:True:=⟨⟩
theorem tw8416529770105884409:True:=⟨⟩
theorem tw3399429508193669907:True:=⟨⟩
theorem tw10469515968555745039:True:=⟨⟩
theorem tw10696652717036330658:True:=⟨⟩
theorem tw1450093165071501711:True:=⟨⟩
theorem tw11432402860279490204:True:=⟨⟩
theorem tw17217429795192226366:True:=⟨⟩
theorem tw12105171945263650130:True:=⟨⟩
theorem tw8668149382578428375:True:=⟨⟩
theorem tw16488607150827929282:True:=⟨⟩
theorem tw8607229883538334244:True:=⟨⟩
theorem tw448459338275823397:True:=⟨⟩
theorem tw6202570286863721605:True:=⟨⟩
theorem tw16196181902256332553:True:=⟨⟩
theorem tw15832999045522443761:True:=⟨⟩
theorem tw1088692219920020602:True:=⟨⟩
theorem tw12237877928780879103:True:=⟨⟩
theorem tw17220895691602665673:True:=⟨⟩
theorem tw1687847423629159134:True:=⟨⟩
theorem tw11116067473893591494:True:=⟨⟩
theorem tw13574545013463194659:True:=⟨⟩
theorem tw3314143786362844604:True:=⟨⟩
theorem tw4785068964239711615:True:=⟨⟩
theorem tw1544503264643628384:True:=⟨⟩
theorem tw9001875181463519149:True:=⟨⟩
theorem tw16505794400653358976:True:=⟨⟩
theorem tw6848912972918003917:True:=⟨⟩
theorem tw2824711377971209:True:=⟨⟩
theorem tw848606289541702500:True:=⟨⟩
theorem tw876206183137641144:True:=⟨⟩
theorem tw9703995961882730528:True:=⟨⟩
theorem tw16957808320718949937:True:=⟨⟩
theorem tw15153159077126877473:True:=⟨⟩
theorem tw2888837374417270719:True:=⟨⟩
theorem tw10599938827571368224:True:=⟨⟩
theorem tw15583698165555649274:True:=⟨⟩
theorem tw4759752924163587094:True:=⟨⟩
theorem tw9916796106900827486:True:=⟨⟩
theorem tw4329306826757983850:True:=⟨⟩
theorem tw6400248389586479577:True:=⟨⟩
theorem tw7249652514872940865:True:=⟨⟩
theorem tw10098057777631523497:True:=⟨⟩
theorem tw17484917917373573768:True:=⟨⟩
theorem tw6081921254191324426:True:=⟨⟩
theorem tw6927299355539797483:True:=⟨⟩
theorem tw3404873503106905745:True:=⟨⟩
theorem tw3767311804947220896:True:=⟨⟩
theorem tw15932523567376311661:True:=⟨⟩
theorem tw491973367168481400:True:=⟨⟩
theorem tw17821466097196317003:True:=⟨⟩
theorem tw1562932699786603023:True:=⟨⟩
theorem tw3456623496861543869:True:=⟨⟩
theorem tw9757074474933493440:True:=⟨⟩
theorem tw67516620250031462:True:=⟨⟩
theorem tw1348009686575996458:True:=⟨⟩
theorem tw10012918712295848499:True:=⟨⟩
theorem tw4950403968356008110:True:=⟨⟩
theorem tw2090205506522743130:True:=⟨⟩
theorem tw3975253019698251321:True:=⟨⟩
theorem tw13411564433711520991:True:=⟨⟩
theorem tw7193555501269276637:True:=⟨⟩
theorem tw18387650150990424433:True:=⟨⟩
theorem tw15225332579556243176:True:=⟨⟩
theorem tw3599858809825778643:True:=⟨⟩
theorem tw4704930585520482657:True:=⟨⟩
theorem tw16639813094937441908:True:=⟨⟩
theorem tw7468727024169554154:True:=⟨⟩
theorem tw7348594602126897846:True:=⟨⟩
theorem tw1469139661183043837:True:=⟨⟩
theorem tw10416720858127766743:True:=⟨⟩
theorem tw2620492485814837118:True:=⟨⟩
theorem tw3173534031939492945:True:=⟨⟩
theorem tw2910385600587045654:True:=⟨⟩
theorem tw8042640277526021778:True:=⟨⟩
theorem tw7055459427971326715:True:=⟨⟩
theorem tw17570709534508481193:True:=⟨⟩
theorem tw6381419901266130222:True:=⟨⟩
theorem tw9059937348426287209:True:=⟨⟩
theorem tw4538191230965241994:True:=⟨⟩
theorem tw14752907821818930876:True:=⟨⟩
theorem tw5071919506433949198:True:=⟨⟩
theorem tw9445451236469955387:True:=⟨⟩
theorem tw888132650186811988:True:=⟨⟩
theorem tw13635414795387738630:True:=⟨⟩
theorem tw12993229153697758449:True:=⟨⟩
theorem tw16252508478716706905:True:=⟨⟩
theorem tw744865244796547220:True:=⟨⟩
theorem tw16401934584784274106:True:=⟨⟩
theorem tw6428528105486526869:True:=⟨⟩
theorem tw6061592489118403721:True:=⟨⟩
theorem tw8732412218395851816:True:=⟨⟩
theorem tw17637551073024348614:True:=⟨⟩
theorem tw2236755162388048479:True:=⟨⟩
theorem tw15130973080138329188:True:=⟨⟩
theorem tw17698704350827878285:True:=⟨⟩
theorem tw11298980531735778240:True:=⟨⟩
theorem tw3998398428148030388:True:=⟨⟩
theorem tw769983615490850566:True:=⟨⟩
theorem tw1727621133314857333:True:=⟨⟩
theorem tw1547390860169783007:True:=⟨⟩
theorem tw6474043946942992101:True:=⟨⟩
theorem tw5593514722818144331:True:=⟨⟩
theorem tw14190076187652291949:True:=⟨⟩
theorem tw8775384921122389154:True:=⟨⟩
theorem tw17067295170570645592:True:=⟨⟩
theorem tw1951045429614898598:True:=⟨⟩
theorem tw8344675336782298973:True:=⟨⟩
theorem tw15273852366172491244:True:=⟨⟩
theorem tw18362098788967529950:True:=⟨⟩
theorem tw2185935427153128515:True:=⟨⟩
theorem tw5102460946473063141:True:=⟨⟩
theorem tw11615019562542576733:True:=⟨⟩
theorem tw9052857236999984677:True:=⟨⟩
theorem tw8785817190682134681:True:=⟨⟩
theorem tw16958243865122950064:True:=⟨⟩
theorem tw15566928917628492161:True:=⟨⟩
theorem tw3459265974087741279:True:=⟨⟩
theorem tw16975150828866795518:True:=⟨⟩
theorem tw11355490997034717764:True:=⟨⟩
theorem tw13870153662132920491:True:=⟨⟩
theorem tw373065315874586923:True:=⟨⟩
theorem tw1412798022092170682:True:=⟨⟩
theorem tw4201165798948173927:True:=⟨⟩
theorem tw14491005103267586010:True:=⟨⟩
theorem tw23274219673226259:True:=⟨⟩
theorem tw16771295499568265973:True:=⟨⟩
theorem tw6068950659093879613:True:=⟨⟩
theorem tw7675655780812522254:True:=⟨⟩
theorem tw2775396313129547428:True:=⟨⟩
theorem tw17861066769153400444:True:=⟨⟩
theorem tw17610481187121035141:True:=⟨⟩
theorem tw7638955922819175379:True:=⟨⟩
theorem tw380778119907437045:True:=⟨⟩
theorem tw16068754644101465803:True:=⟨⟩
theorem tw17698229166291050911:True:=⟨⟩
theorem tw9221430085559818832:True:=⟨⟩
theorem tw12480679962508375977:True:=⟨⟩
theorem tw6323506392446703087:True:=⟨⟩
theorem tw13523910257889291827:True:=⟨⟩
theorem tw7976502392129159676:True:=⟨⟩
theorem tw3129228512308937268:True:=⟨⟩
theorem tw15120748072543544848:True:=⟨⟩
theorem tw17344510285554748771:True:=⟨⟩
theorem tw7299242150946776990:True:=⟨⟩
theorem tw3023385222666876323:True:=⟨⟩
theorem tw5647864574477489665:True:=⟨⟩
theorem tw14541005305830221311:True:=⟨⟩
theorem tw4930884711611768020:True:=⟨⟩
theorem tw16955142331783759960:True:=⟨⟩
theorem tw7057970582943232917:True:=⟨⟩
theorem tw10682770612549562524:True:=⟨⟩
theorem tw10511823565363050587:True:=⟨⟩
theorem tw13294311002278339166:True:=⟨⟩
theorem tw14165584387687976329:True:=⟨⟩
theorem tw5660257367854189524:True:=⟨⟩
theorem tw6582743566554038612:True:=⟨⟩
theorem tw1012361349325877821:True:=⟨⟩
theorem tw8331973007464152698:True:=⟨⟩
theorem tw347816163483929816:True:=⟨⟩
theorem tw11466478281803324712:True:=⟨⟩
theorem tw13883070154070340634:True:=⟨⟩
theorem tw745748316474750422:True:=⟨⟩
theorem tw6956187926921108005:True:=⟨⟩
theorem tw10684981021144957211:True:=⟨⟩
theorem tw1105837973531982728:True:=⟨⟩
theorem tw9070704062992814841:True:=⟨⟩
theorem tw17356987340757268870:True:=⟨⟩
theorem tw81180840481494171:True:=⟨⟩
theorem tw7255982825651180886:True:=⟨⟩
theorem tw418608610138435605:True:=⟨⟩
theorem tw12996517811204074000:True:=⟨⟩
theorem tw12946824338688289833:True:=⟨⟩
theorem tw9436597474664901934:True:=⟨⟩
theorem tw3837020019201816242:True:=⟨⟩
theorem tw9610726530385051774:True:=⟨⟩
theorem tw12829507556594621215:True:=⟨⟩
theorem tw11277597615667878183:True:=⟨⟩
theorem tw4769821431679368130:True:=⟨⟩
theorem tw13158425560686309300:True:=⟨⟩
theorem tw12409915417874342407:True:=⟨⟩
theorem tw5663504974038819100:True:=⟨⟩
theorem tw1239743038759826550:True:=⟨⟩
theorem tw7021976415091001641:True:=⟨⟩
theorem tw5792265106169080782:True:=⟨⟩
theorem tw9917203430921899224:True:=⟨⟩
theorem tw15344004072050561172:True:=⟨⟩
theorem tw16722612574783549952:True:=⟨⟩
theorem tw11338875618241718471:True:=⟨⟩
theorem tw17745666023917231748:True:=⟨⟩
theorem tw13582292425324344769:True:=⟨⟩
theorem tw17974384156558142227:True:=⟨⟩
theorem tw17109930996152030393:True:=⟨⟩
theorem tw2367325634123391141:True:=⟨⟩
theorem tw11325060847842403200:True:=⟨⟩
theorem tw15201286185872193147:True:=⟨⟩
theorem tw10323461325745473215:True:=⟨⟩
theorem tw9604457797605292365:True:=⟨⟩
theorem tw15698005342984667159:True:=⟨⟩
theorem tw7116698238491815225:True:=⟨⟩
theorem tw4775051631455894629:True:=⟨⟩
theorem tw16754643870311390997:True:=⟨⟩
theorem tw15741700470354863883:True:=⟨⟩
theorem tw2603282792292808943:True:=⟨⟩
theorem tw12273546716903637868:True:=⟨⟩
theorem tw16503470079419688546:True:=⟨⟩
theorem tw7803649310394182010:True:=⟨⟩
theorem tw10011167713772783887:True:=⟨⟩
theorem tw216489041496292469:True:=⟨⟩
theorem tw15309079848183770524:True:=⟨⟩
theorem tw18373065035072037172:True:=⟨⟩
theorem tw10776127142208907341:True:=⟨⟩
theorem tw6127190174262240918:True:=⟨⟩
theorem tw14672911461793829614:True:=⟨⟩
theorem tw2527257450557998099:True:=⟨⟩
theorem tw3028926083550364057:True:=⟨⟩
theorem tw3794220679723124481:True:=⟨⟩
theorem tw5141113994777284493:True:=⟨⟩
theorem tw11067033192786714914:True:=⟨⟩
theorem tw612862322836996645:True:=⟨⟩
theorem tw11897717083992391400:True:=⟨⟩
theorem tw13175226182763708026:True:=⟨⟩
theorem tw12464766053444552404:True:=⟨⟩
theorem tw13496708705503635781:True:=⟨⟩
theorem tw14492276426124471788:True:=⟨⟩
theorem tw10553471711426338075:True:=⟨⟩
theorem tw5250828734511838712:True:=⟨⟩
theorem tw1206694682578267724:True:=⟨⟩
theorem tw11414674201277728305:True:=⟨⟩
theorem tw4026100201820347962:True:=⟨⟩
theorem tw2306873549167696089:True:=⟨⟩
theorem tw11277574374343807151:True:=⟨⟩
theorem tw17611727573569791414:True:=⟨⟩
theorem tw8119881530291889089:True:=⟨⟩
theorem tw17656766251404061198:True:=⟨⟩
theorem tw15399907426655090358:True:=⟨⟩
theorem tw6951216239237536575:True:=⟨⟩
theorem tw6718411051458867188:True:=⟨⟩
theorem tw15459455144867644326:True:=⟨⟩
theorem tw11273041486466551846:True:=⟨⟩
theorem tw5073790198343104882:True:=⟨⟩
theorem tw15234240111613058569:True:=⟨⟩
theorem tw10807920368746810246:True:=⟨⟩
theorem tw2046393882495617769:True:=⟨⟩
theorem tw14279960228734115912:True:=⟨⟩
theorem tw5063945577112930571:True:=⟨⟩
theorem tw8408514402456403777:True:=⟨⟩
theorem tw8465276812761224699:True:=⟨⟩
theorem tw14358052893785732323:True:=⟨⟩
theorem tw721199640417726442:True:=⟨⟩
theorem tw12629903358213643309:True:=⟨⟩
theorem tw6650461044873433052:True:=⟨⟩
theorem tw14637358334870819178:True:=⟨⟩
theorem tw7028063314416541132:True:=⟨⟩
theorem tw8731306006301319769:True:=⟨⟩
theorem tw3974152918291533672:True:=⟨⟩
theorem tw5293390819737331289:True:=⟨⟩
theorem tw15069271281064182630:True:=⟨⟩
theorem tw1327509311449162130:True:=⟨⟩
theorem tw17665283555074236365:True:=⟨⟩
theorem tw16906536467411238026:True:=⟨⟩
theorem tw1535588207084551279:True:=⟨⟩
theorem tw14139026862911339306:True:=⟨⟩
theorem tw3236217559460173300:True:=⟨⟩
theorem tw12847644182280273618:True:=⟨⟩
theorem tw8446749797226024353:True:=⟨⟩
theorem tw7930893340574950883:True:=⟨⟩
theorem tw9358891041858214033:True:=⟨⟩
theorem tw8370555248988390076:True:=⟨⟩
theorem tw2866121171748074186:True:=⟨⟩
theorem tw8622160174418277736:True:=⟨⟩
theorem tw7383848191655739912:True:=⟨⟩
theorem tw12557769604369416430:True:=⟨⟩
theorem tw13423622936843584764:True:=⟨⟩
theorem tw2711489104339610207:True:=⟨⟩
theorem tw11454252539852477091:True:=⟨⟩
theorem tw14075178694198228753:True:=⟨⟩
theorem tw2724587677208862931:True:=⟨⟩
theorem tw8058895272353334144:True:=⟨⟩
theorem tw17567850324905474699:True:=⟨⟩
theorem tw15396384818603876561:True:=⟨⟩
theorem tw16133078381924174429:True:=⟨⟩
theorem tw9747544060827109212:True:=⟨⟩
theorem tw4013537778516871869:True:=⟨⟩
theorem tw18045370259859999855:True:=⟨⟩
theorem tw2930532333115074398:True:=⟨⟩
theorem tw12418498117042121155:True:=⟨⟩
theorem tw423345284130997744:True:=⟨⟩
theorem tw3853475060279184000:True:=⟨⟩
theorem tw16798467561266328274:True:=⟨⟩
theorem tw3343445320678177929:True:=⟨⟩
theorem tw6447930133964393182:True:=⟨⟩
theorem tw12833947400113492166:True:=⟨⟩
theorem tw1992996095170833049:True:=⟨⟩
theorem tw7525613125554837784:True:=⟨⟩
theorem tw1921165311934587177:True:=⟨⟩
theorem tw11079828417688620724:True:=⟨⟩
theorem tw11147117730913898307:True:=⟨⟩
theorem tw13821069739074656513:True:=⟨⟩
theorem tw3277210607324053241:True:=⟨⟩
theorem tw9806666330580929782:True:=⟨⟩
theorem tw10907391636593693970:True:=⟨⟩
theorem tw1635022588487117616:True:=⟨⟩
theorem tw17136511569032190220:True:=⟨⟩
theorem tw17425937995043322649:True:=⟨⟩
theorem tw783483362715066742:True:=⟨⟩
theorem tw7465402850928609508:True:=⟨⟩
theorem tw5407232425735434182:True:=⟨⟩
theorem tw12212933522069011988:True:=⟨⟩
theorem tw5634151482396758240:True:=⟨⟩
theorem tw8643116662766533202:True:=⟨⟩
theorem tw9825859731914700964:True:=⟨⟩
theorem tw2962455088084156510:True:=⟨⟩
theorem tw8151358987872166243:True:=⟨⟩
theorem tw14347400895652799225:True:=⟨⟩
theorem tw265940963699897922:True:=⟨⟩
theorem tw15564276425815640635:True:=⟨⟩
theorem tw11176205002912764742:True:=⟨⟩
theorem tw15367214624046358148:True:=⟨⟩
theorem tw2067723777617599883:True:=⟨⟩
theorem tw16125780511175521129:True:=⟨⟩
theorem tw5087414499874199163:True:=⟨⟩
theorem tw14510652381064336540:True:=⟨⟩
theorem tw8696399802814041232:True:=⟨⟩
theorem tw9524518906428321964:True:=⟨⟩
theorem tw17535827442545306379:True:=⟨⟩
theorem tw3335054579961404729:True:=⟨⟩
theorem tw12649782002744950493:True:=⟨⟩
theorem tw15019234207855213703:True:=⟨⟩
theorem tw12738864244801774330:True:=⟨⟩
theorem tw9524105066518557862:True:=⟨⟩
theorem tw5197314502515736709:True:=⟨⟩
theorem tw16115155874713506467:True:=⟨⟩
theorem tw9544026089342320630:True:=⟨⟩
theorem tw4302917861877037783:True:=⟨⟩
theorem tw2186698500278933816:True:=⟨⟩
theorem tw7522001649326652513:True:=⟨⟩
theorem tw12824026464915957141:True:=⟨⟩
theorem tw17696989986258524660:True:=⟨⟩
theorem tw10383673109516279431:True:=⟨⟩
theorem tw9682595657389325823:True:=⟨⟩
theorem tw3788772014149755174:True:=⟨⟩
theorem tw14186389336975683031:True:=⟨⟩
theorem tw14899709244077398024:True:=⟨⟩
theorem tw8025084765662995669:True:=⟨⟩
theorem tw5920281757701029450:True:=⟨⟩
theorem tw9559820642381380932:True:=⟨⟩
theorem tw10699407837109476802:True:=⟨⟩
theorem tw7856420140689306517:True:=⟨⟩
theorem tw17570509445847580414:True:=⟨⟩
theorem tw10070804522480449196:True:=⟨⟩
theorem tw9231107438714462619:True:=⟨⟩
theorem tw8261031787919469916:True:=⟨⟩
theorem tw14060254640080698258:True:=⟨⟩
theorem tw14943911441677524827:True:=⟨⟩
theorem tw14109310954907245088:True:=⟨⟩
theorem tw11819170096642289871:True:=⟨⟩
theorem tw12180539936304867106:True:=⟨⟩
theorem tw4303106303303389909:True:=⟨⟩
theorem tw11280146832396436108:True:=⟨⟩
theorem tw14578271805448956485:True:=⟨⟩
theorem tw895571856199123645:True:=⟨⟩
theorem tw15094949803261831281:True:=⟨⟩
theorem tw2670571373685298256:True:=⟨⟩
theorem tw14721709283769024194:True:=⟨⟩
theorem tw12291753297600562012:True:=⟨⟩
theorem tw10790007923984976650:True:=⟨⟩
theorem tw1666694428299288667:True:=⟨⟩
theorem tw6766378078585498003:True:=⟨⟩
theorem tw12962497063298326498:True:=⟨⟩
theorem tw16326573535979396768:True:=⟨⟩
theorem tw12347537446847802165:True:=⟨⟩
theorem tw15913912297419572864:True:=⟨⟩
theorem tw10656291684629039791:True:=⟨⟩
theorem tw9161697477995246604:True:=⟨⟩
theorem tw846297522682114974:True:=⟨⟩
theorem tw5402249366112354979:True:=⟨⟩
theorem tw16530489862217454893:True:=⟨⟩
theorem tw18011332887955570755:True:=⟨⟩
theorem tw10850621001676330593:True:=⟨⟩
theorem tw16117218838092406820:True:=⟨⟩
theorem tw174019566453475457:True:=⟨⟩
theorem tw2087981047521295580:True:=⟨⟩
theorem tw14895270292469626870:True:=⟨⟩
theorem tw6361463693118634277:True:=⟨⟩
theorem tw7661832156752021035:True:=⟨⟩
theorem tw13565238788985558536:True:=⟨⟩
theorem tw17701328389417463424:True:=⟨⟩
theorem tw13700621096757390547:True:=⟨⟩
theorem tw7336344344812659824:True:=⟨⟩
theorem tw17511047464938703439:True:=⟨⟩
theorem tw13467322939085005891:True:=⟨⟩
theorem tw14021872759519490765:True:=⟨⟩
theorem tw5227809002895711924:True:=⟨⟩
theorem tw12076048789873493973:True:=⟨⟩
theorem tw14982681722894948279:True:=⟨⟩
theorem tw8429034201219468894:True:=⟨⟩
theorem tw4374990076676594005:True:=⟨⟩
theorem tw5996712805030441225:True:=⟨⟩
theorem tw9659392335347125073:True:=⟨⟩
theorem tw743781803092876562:True:=⟨⟩
theorem tw4878226113927451544:True:=⟨⟩
theorem tw15815952407149668801:True:=⟨⟩
theorem tw10888490241844629607:True:=⟨⟩
theorem tw8511326990415419460:True:=⟨⟩
theorem tw2687768774938457991:True:=⟨⟩
theorem tw2304379251839397102:True:=⟨⟩
theorem tw16340655207594038876:True:=⟨⟩
theorem tw10313180648002132564:True:=⟨⟩
theorem tw2257193571878035239:True:=⟨⟩
theorem tw17529888179579649352:True:=⟨⟩
theorem tw12534922522094339712:True:=⟨⟩
theorem tw15149952090015108872:True:=⟨⟩
theorem tw3432132637015033673:True:=⟨⟩
theorem tw2204852077615127585:True:=⟨⟩
theorem tw3199103547748192838:True:=⟨⟩
theorem tw17903097145777710087:True:=⟨⟩
theorem tw17930836441483835346:True:=⟨⟩
theorem tw6846200578177281708:True:=⟨⟩
theorem tw13303660033021381205:True:=⟨⟩
theorem tw10901649546591821862:True:=⟨⟩
theorem tw1452976796760546996:True:=⟨⟩
theorem tw12118000046449163591:True:=⟨⟩
theorem tw3812028171767442716:True:=⟨⟩
theorem tw5805905742469029177:True:=⟨⟩
theorem tw10350682745594973927:True:=⟨⟩
theorem tw9247658263007524724:True:=⟨⟩
theorem tw4002333041265778665:True:=⟨⟩
theorem tw520194297998822909:True:=⟨⟩
theorem tw11154830654865731599:True:=⟨⟩
theorem tw17204297501091165112:True:=⟨⟩
theorem tw10925335251469727208:True:=⟨⟩
theorem tw13183061134860383702:True:=⟨⟩
theorem tw16205109500356779066:True:=⟨⟩
theorem tw15219631101029703214:True:=⟨⟩
theorem tw16912196016219973028:True:=⟨⟩
theorem tw13593179597827634900:True:=⟨⟩
theorem tw11609251653779473045:True:=⟨⟩
theorem tw3808604044277672275:True:=⟨⟩
theorem tw3733651895302910212:True:=⟨⟩
theorem tw8281523328739849912:True:=⟨⟩
theorem tw16510490156224867327:True:=⟨⟩
theorem tw1976505206021243879:True:=⟨⟩
theorem tw7650283484787511029:True:=⟨⟩
theorem tw3246839028233683650:True:=⟨⟩
theorem tw13728267205206896507:True:=⟨⟩
theorem tw7072277547680571169:True:=⟨⟩
theorem tw17971676594858020690:True:=⟨⟩
theorem tw803859442106103436:True:=⟨⟩
theorem tw12669758225909598566:True:=⟨⟩
theorem tw11900726367713137988:True:=⟨⟩
theorem tw17896612028031085017:True:=⟨⟩
theorem tw5598441983335636414:True:=⟨⟩
theorem tw5320702786494000081:True:=⟨⟩
theorem tw8590288500278120515:True:=⟨⟩
theorem tw17719728818120068181:True:=⟨⟩
theorem tw11906472874536768445:True:=⟨⟩
theorem tw13516622038369049944:True:=⟨⟩
theorem tw5354148072674057331:True:=⟨⟩
theorem tw16175276709679454751:True:=⟨⟩
theorem tw7469950542288936506:True:=⟨⟩
theorem tw5169673773032560159:True:=⟨⟩
theorem tw5585719645790517573:True:=⟨⟩
theorem tw6557400838089866009:True:=⟨⟩
theorem tw2277568627679802767:True:=⟨⟩
theorem tw1202912048536075021:True:=⟨⟩
theorem tw14178952322520976695:True:=⟨⟩
theorem tw6227736768552902789:True:=⟨⟩
theorem tw13511959964413161566:True:=⟨⟩
theorem tw5115476493328737885:True:=⟨⟩
theorem tw13501502787908985413:True:=⟨⟩
theorem tw4652738160404261841:True:=⟨⟩
theorem tw18208264132641360667:True:=⟨⟩
theorem tw7692301277026442203:True:=⟨⟩
theorem tw8053913732961167717:True:=⟨⟩
theorem tw7445452272831510455:True:=⟨⟩
theorem tw13814004702073501669:True:=⟨⟩
theorem tw11228628497211110749:True:=⟨⟩
theorem tw13235901397817054834:True:=⟨⟩
theorem tw4928979718650693569:True:=⟨⟩
theorem tw7130589087949165531:True:=⟨⟩
theorem tw3738894495883498167:True:=⟨⟩
theorem tw4499257904209204147:True:=⟨⟩
theorem tw12403690455625630471:True:=⟨⟩
theorem tw3216615955080020110:True:=⟨⟩
theorem tw11623398277830307340:True:=⟨⟩
theorem tw12809788781938459499:True:=⟨⟩
theorem tw12876064707754696378:True:=⟨⟩
theorem tw16229209127682248589:True:=⟨⟩
theorem tw4723787954990577340:True:=⟨⟩
theorem tw12207761013786371866:True:=⟨⟩
theorem tw5897612983314593646:True:=⟨⟩
theorem tw14909718650217641264:True:=⟨⟩
theorem tw9997704412844104603:True:=⟨⟩
theorem tw1103255985313285740:True:=⟨⟩
theorem tw1422313219903470601:True:=⟨⟩
theorem tw18082680734076937219:True:=⟨⟩
theorem tw6380807493870290408:True:=⟨⟩
theorem tw13217662176923290317:True:=⟨⟩
theorem tw13718649260633737024:True:=⟨⟩
theorem tw8097654560655122648:True:=⟨⟩
theorem tw11772964195913830049:True:=⟨⟩
theorem tw5796354222422608987:True:=⟨⟩
theorem tw17197158672614542318:True:=⟨⟩
theorem tw6058378993454661626:True:=⟨⟩
theorem tw11293339424137598113:True:=⟨⟩
theorem tw8383268338085895543:True:=⟨⟩
theorem tw17801579834951734752:True:=⟨⟩
theorem tw12869217540446652890:True:=⟨⟩
theorem tw11224825812204259059:True:=⟨⟩
theorem tw11462241541112437924:True:=⟨⟩
theorem tw9363291351745731410:True:=⟨⟩
theorem tw251868834278440796:True:=⟨⟩
theorem tw8013244705931419473:True:=⟨⟩
theorem tw17461915456910197578:True:=⟨⟩
theorem tw5679570950571409650:True:=⟨⟩
theorem tw9722632081671974098:True:=⟨⟩
theorem tw8282812270067184934:True:=⟨⟩
theorem tw17659792820800573624:True:=⟨⟩
theorem tw11205304004016384229:True:=⟨⟩
theorem tw1080700006314346644:True:=⟨⟩
theorem tw3264689103243991499:True:=⟨⟩
theorem tw7636574776371312073:True:=⟨⟩
theorem tw16496857829328116044:True:=⟨⟩
theorem tw11989984593139433840:True:=⟨⟩
theorem tw11336253725339858928:True:=⟨⟩
theorem tw14016782137374729594:True:=⟨⟩
theorem tw3683778510129048087:True:=⟨⟩
theorem tw10829458402184033698:True:=⟨⟩
theorem tw11161129554055168055:True:=⟨⟩
theorem tw13337293482115323266:True:=⟨⟩
theorem tw17415983033144605025:True:=⟨⟩
theorem tw6827196828439936291:True:=⟨⟩
theorem tw17495881415371897999:True:=⟨⟩
theorem tw3550807849831375056:True:=⟨⟩
theorem tw5230622158679508976:True:=⟨⟩
theorem tw9883050511414546368:True:=⟨⟩
theorem tw10194128795564708546:True:=⟨⟩
theorem tw8571365239949196074:True:=⟨⟩
theorem tw16285329926789087883:True:=⟨⟩
theorem tw17164383140453370395:True:=⟨⟩
theorem tw2320886540369039338:True:=⟨⟩
theorem tw7816886789376521730:True:=⟨⟩
theorem tw17267618260052754613:True:=⟨⟩
theorem tw10478924771774928865:True:=⟨⟩
theorem tw4574527179188669827:True:=⟨⟩
theorem tw488218634404078324:True:=⟨⟩
theorem tw5984158551500366440:True:=⟨⟩
theorem tw18363874247302488086:True:=⟨⟩
theorem tw9381001406090123731:True:=⟨⟩
theorem tw11151619158091525091:True:=⟨⟩
theorem tw11086246135301644409:True:=⟨⟩
theorem tw3721105441807439036:True:=⟨⟩
theorem tw1209720653154232198:True:=⟨⟩
theorem tw11309971608317499012:True:=⟨⟩
theorem tw14239432107786713131:True:=⟨⟩
theorem tw15144710454662140524:True:=⟨⟩
theorem tw16708981103961760564:True:=⟨⟩
theorem tw13732859552379440985:True:=⟨⟩
theorem tw15938515463387723913:True:=⟨⟩
theorem tw5713887491374438570:True:=⟨⟩
theorem tw3506512066687448480:True:=⟨⟩
theorem tw2440955330291467932:True:=⟨⟩
theorem tw12909842661862811868:True:=⟨⟩
theorem tw3185298417894076688:True:=⟨⟩
theorem tw9330868436908423606:True:=⟨⟩
theorem tw5734618986648460908:True:=⟨⟩
theorem tw2789213428527533208:True:=⟨⟩
theorem tw12696600883282566439:True:=⟨⟩
theorem tw891787732878383699:True:=⟨⟩
theorem tw7613945582906998725:True:=⟨⟩
theorem tw13021059552284102479:True:=⟨⟩
theorem tw273201369580953799:True:=⟨⟩
theorem tw8166985623705000286:True:=⟨⟩
theorem tw4170516301191304579:True:=⟨⟩
theorem tw783796507600188894:True:=⟨⟩
theorem tw5249893051879422871:True:=⟨⟩
theorem tw7008622114716911220:True:=⟨⟩
theorem tw7613857476909055813:True:=⟨⟩
theorem tw331587747771337591:True:=⟨⟩
theorem tw6388184931127306564:True:=⟨⟩
theorem tw16103849850496634939:True:=⟨⟩
theorem tw12890721736228548200:True:=⟨⟩
theorem tw6921073858925291239:True:=⟨⟩
theorem tw3752056022367304142:True:=⟨⟩
theorem tw1390109508276135513:True:=⟨⟩
theorem tw8924392036579600891:True:=⟨⟩
theorem tw6690978737144721751:True:=⟨⟩
theorem tw5098551885099359569:True:=⟨⟩
theorem tw4719063310657182621:True:=⟨⟩
theorem tw12202137732620339699:True:=⟨⟩
theorem tw8603500279265290053:True:=⟨⟩
theorem tw8577089030196625639:True:=⟨⟩
theorem tw13097714293880789003:True:=⟨⟩
theorem tw7597609772600759339:True:=⟨⟩
theorem tw2218633174628956881:True:=⟨⟩
theorem tw12876116671307685997:True:=⟨⟩
theorem tw6232080684201472732:True:=⟨⟩
theorem tw4405966257744640924:True:=⟨⟩
theorem tw18105942590061964161:True:=⟨⟩
theorem tw9712136527352899355:True:=⟨⟩
theorem tw14855157385224911753:True:=⟨⟩
theorem tw12711679700452659978:True:=⟨⟩
theorem tw3541825141892303889:True:=⟨⟩
theorem tw8288733244629462318:True:=⟨⟩
theorem tw15535981320818454369:True:=⟨⟩
theorem tw12355744275394475900:True:=⟨⟩
theorem tw18004827428879835118:True:=⟨⟩
theorem tw5978438607452443526:True:=⟨⟩
theorem tw12284014389350100970:True:=⟨⟩
theorem tw4716181948101807:True:=⟨⟩
theorem tw5863258528049689039:True:=⟨⟩
theorem tw146108955859267339:True:=⟨⟩
theorem tw12932903420030652473:True:=⟨⟩
theorem tw13161798303456468172:True:=⟨⟩
theorem tw7563514974416257223:True:=⟨⟩
theorem tw9165157204488128742:True:=⟨⟩
theorem tw4898026214463823928:True:=⟨⟩
theorem tw8049827351057952638:True:=⟨⟩
theorem tw1709551657539720305:True:=⟨⟩
theorem tw16584127079891442865:True:=⟨⟩
theorem tw12221555665107904926:True:=⟨⟩
theorem tw12979919090201106820:True:=⟨⟩
theorem tw2152167444364839225:True:=⟨⟩
theorem tw2896703901015224195:True:=⟨⟩
theorem tw8126443298418566877:True:=⟨⟩
theorem tw17362494058136835672:True:=⟨⟩
theorem tw15238337123492228519:True:=⟨⟩
theorem tw17108682257543074861:True:=⟨⟩
theorem tw18404063521330658252:True:=⟨⟩
theorem tw10728385900330055232:True:=⟨⟩
theorem tw16656299143469825513:True:=⟨⟩
theorem tw14667941539000003185:True:=⟨⟩
theorem tw6335709333293612952:True:=⟨⟩
theorem tw2051409578822353534:True:=⟨⟩
theorem tw11869342324683393730:True:=⟨⟩
theorem tw1613116972386908190:True:=⟨⟩
theorem tw9387745189664136937:True:=⟨⟩
theorem tw16237712226934743532:True:=⟨⟩
theorem tw14297971457927632359:True:=⟨⟩
theorem tw8018989035897545986:True:=⟨⟩
theorem tw14574801432027512755:True:=⟨⟩
theorem tw14503080293383508659:True:=⟨⟩
theorem tw9246303508379850531:True:=⟨⟩
theorem tw4992356995671143779:True:=⟨⟩
theorem tw6768527794753136924:True:=⟨⟩
theorem tw5285785234609935064:True:=⟨⟩
theorem tw11040825799340251285:True:=⟨⟩
theorem tw13619204772191458394:True:=⟨⟩
theorem tw1545086475593560577:True:=⟨⟩
theorem tw6531376189190222733:True:=⟨⟩
theorem tw10874316729293906858:True:=⟨⟩
theorem tw7779959011674639804:True:=⟨⟩
theorem tw6525817661751114472:True:=⟨⟩
theorem tw7163643146796875292:True:=⟨⟩
theorem tw500868675978126160:True:=⟨⟩
theorem tw4490852404376165303:True:=⟨⟩
theorem tw3857263333814641470:True:=⟨⟩
theorem tw11346557470443003569:True:=⟨⟩
theorem tw4833179351181384845:True:=⟨⟩
theorem tw2512408688544751470:True:=⟨⟩
theorem tw7995362448368537469:True:=⟨⟩
theorem tw10043950574865488231:True:=⟨⟩
theorem tw3059278276029138960:True:=⟨⟩
theorem tw4785737784526614668:True:=⟨⟩
theorem tw4144819383078699286:True:=⟨⟩
theorem tw14257018576560825284:True:=⟨⟩
theorem tw12239064139714945176:True:=⟨⟩
theorem tw4588413851689716618:True:=⟨⟩
theorem tw9578429878718019509:True:=⟨⟩
theorem tw9562769462328344092:True:=⟨⟩
theorem tw2654552327011884432:True:=⟨⟩
theorem tw2086631506510373192:True:=⟨⟩
theorem tw11201512880063761335:True:=⟨⟩
theorem tw4424551920762525699:True:=⟨⟩
theorem tw13469397999491448738:True:=⟨⟩
theorem tw18203776172705718467:True:=⟨⟩
theorem tw9218923581257491847:True:=⟨⟩
theorem tw6289197191216398940:True:=⟨⟩
theorem tw12856649910388040817:True:=⟨⟩
theorem tw7830629276484211593:True:=⟨⟩
theorem tw3558005061807245919:True:=⟨⟩
theorem tw14793013804824869981:True:=⟨⟩
theorem tw15380643337850499256:True:=⟨⟩
theorem tw4265850918314828415:True:=⟨⟩
theorem tw14134379338385194387:True:=⟨⟩
theorem tw12567809125941998234:True:=⟨⟩
theorem tw2103456241558337223:True:=⟨⟩
theorem tw7334248845499685764:True:=⟨⟩
theorem tw3717791156732904485:True:=⟨⟩
theorem tw3906754673857718949:True:=⟨⟩
theorem tw6207176494656529804:True:=⟨⟩
theorem tw1044461793932804406:True:=⟨⟩
theorem tw8330952907988395303:True:=⟨⟩
theorem tw17149583648110088462:True:=⟨⟩
theorem tw3211687289105081006:True:=⟨⟩
theorem tw12454092890298587682:True:=⟨⟩
theorem tw6215407027087421044:True:=⟨⟩
theorem tw5029745898896661690:True:=⟨⟩
theorem tw6515953530934532768:True:=⟨⟩
theorem tw15621619335703214680:True:=⟨⟩
theorem tw16429022384663243119:True:=⟨⟩
theorem tw18322691176947310564:True:=⟨⟩
theorem tw6485783843944922600:True:=⟨⟩
theorem tw16593498308125037870:True:=⟨⟩
theorem tw4146287950013776609:True:=⟨⟩
theorem tw14814673180317915700:True:=⟨⟩
theorem tw4180101509539245183:True:=⟨⟩
theorem tw3263211703599914710:True:=⟨⟩
theorem tw10628475034512898961:True:=⟨⟩
theorem tw7439575562449295702:True:=⟨⟩
theorem tw2394721887258651877:True:=⟨⟩
theorem tw12851234836949525663:True:=⟨⟩
theorem tw8656503046869711584:True:=⟨⟩
theorem tw7245382924358607706:True:=⟨⟩
theorem tw945457799607111265:True:=⟨⟩
theorem tw1281744992317467088:True:=⟨⟩
theorem tw3018758056844737939:True:=⟨⟩
theorem tw15523922138108190246:True:=⟨⟩
theorem tw171078159051304024:True:=⟨⟩
theorem tw3125960719983571848:True:=⟨⟩
theorem tw2671655128345628175:True:=⟨⟩
theorem tw3004984022683251337:True:=⟨⟩
theorem tw14517287926952318261:True:=⟨⟩
theorem tw10998343915150870288:True:=⟨⟩
theorem tw3723988518540851739:True:=⟨⟩
theorem tw11490603987736509336:True:=⟨⟩
theorem tw807531904560671035:True:=⟨⟩
theorem tw5776136370200156792:True:=⟨⟩
theorem tw4613182775407389354:True:=⟨⟩
theorem tw9113340658982188547:True:=⟨⟩
theorem tw6524417157066176309:True:=⟨⟩
theorem tw11575174756993882273:True:=⟨⟩
theorem tw6370398367566163025:True:=⟨⟩
theorem tw12073638493852289073:True:=⟨⟩
theorem tw828056024939588000:True:=⟨⟩
theorem tw1340732969908501211:True:=⟨⟩
theorem tw891448327626169016:True:=⟨⟩
theorem tw14210890002308233579:True:=⟨⟩
theorem tw14920341990273354679:True:=⟨⟩
theorem tw2537931557510868981:True:=⟨⟩
theorem tw16903924287465469464:True:=⟨⟩
theorem tw11587955951900863698:True:=⟨⟩
theorem tw4754365596532378047:True:=⟨⟩
theorem tw11177036383054605599:True:=⟨⟩
theorem tw7321584467024264148:True:=⟨⟩
theorem tw11851709006616689672:True:=⟨⟩
theorem tw10875463905939285979:True:=⟨⟩
theorem tw10782327089294195420:True:=⟨⟩
theorem tw6144012678527597917:True:=⟨⟩
theorem tw4040260094072895976:True:=⟨⟩
theorem tw1963134401048803436:True:=⟨⟩
theorem tw7451905468542833597:True:=⟨⟩
theorem tw17406136962360114138:True:=⟨⟩
theorem tw4171678462856256454:True:=⟨⟩
theorem tw3315634741060642149:True:=⟨⟩
theorem tw17149882997012438147:True:=⟨⟩
theorem tw16109372258727991565:True:=⟨⟩
theorem tw4924110625330727750:True:=⟨⟩
theorem tw15590172107835277464:True:=⟨⟩
theorem tw2275749259730422485:True:=⟨⟩
theorem tw13790858721211988464:True:=⟨⟩
theorem tw4217414874291451276:True:=⟨⟩
theorem tw1519764728837627585:True:=⟨⟩
theorem tw17430205856086898164:True:=⟨⟩
theorem tw544173102793226557:True:=⟨⟩
theorem tw15533503492667675913:True:=⟨⟩
theorem tw3611084566261647123:True:=⟨⟩
theorem tw14939693663707051619:True:=⟨⟩
theorem tw6385529401280152062:True:=⟨⟩
theorem tw1560641971993327685:True:=⟨⟩
theorem tw6620434350048004:True:=⟨⟩
theorem tw16448914465934546278:True:=⟨⟩
theorem tw15523924160545744683:True:=⟨⟩
theorem tw7070210977369740762:True:=⟨⟩
theorem tw15205425988870721313:True:=⟨⟩
theorem tw4303203884299210690:True:=⟨⟩
theorem tw10411508006071892022:True:=⟨⟩
theorem tw4879674094562380441:True:=⟨⟩
theorem tw5523082835119374833:True:=⟨⟩
theorem tw12149302876761508202:True:=⟨⟩
theorem tw1538076008739104887:True:=⟨⟩
theorem tw11214774929968864879:True:=⟨⟩
theorem tw17802944882907423865:True:=⟨⟩
theorem tw7717632546995137062:True:=⟨⟩
theorem tw11936995450923721628:True:=⟨⟩
theorem tw4448525072470763060:True:=⟨⟩
theorem tw7929640520542984453:True:=⟨⟩
theorem tw16192418988078311159:True:=⟨⟩
theorem tw6806541166334345260:True:=⟨⟩
theorem tw5074779506442595448:True:=⟨⟩
theorem tw8399098705505230059:True:=⟨⟩
theorem tw14568449535678555946:True:=⟨⟩
theorem tw17684750252590230805:True:=⟨⟩
theorem tw17036620345825979748:True:=⟨⟩
theorem tw5725524221116865799:True:=⟨⟩
theorem tw18105285910621931680:True:=⟨⟩
theorem tw5911770217454447987:True:=⟨⟩
theorem tw2797696144272983404:True:=⟨⟩
theorem tw7844069586390513008:True:=⟨⟩
theorem tw11607805686811502034:True:=⟨⟩
theorem tw2415902012162501839:True:=⟨⟩
theorem tw2386962107186040380:True:=⟨⟩
theorem tw14979938633740849765:True:=⟨⟩
theorem tw3510506673179690562:True:=⟨⟩
theorem tw16892666456041662371:True:=⟨⟩
theorem tw12023130115591938441:True:=⟨⟩
theorem tw14636500674972658156:True:=⟨⟩
theorem tw1736138319177078919:True:=⟨⟩
theorem tw8629152706101051812:True:=⟨⟩
theorem tw452842511749404161:True:=⟨⟩
theorem tw4443050520305737185:True:=⟨⟩
theorem tw9746214513668125432:True:=⟨⟩
theorem tw17881394067367492771:True:=⟨⟩
theorem tw18087328562809068087:True:=⟨⟩
theorem tw9038226972742754082:True:=⟨⟩
theorem tw2976117146107443816:True:=⟨⟩
theorem tw9509447333196811905:True:=⟨⟩
theorem tw2466808103346753527:True:=⟨⟩
theorem tw14431720936831517352:True:=⟨⟩
theorem tw5901363791540438844:True:=⟨⟩
theorem tw10147658903529517814:True:=⟨⟩
theorem tw4145619633490157487:True:=⟨⟩
theorem tw8075192146702601997:True:=⟨⟩
theorem tw9783082877136095720:True:=⟨⟩
theorem tw6135695356004624047:True:=⟨⟩
theorem tw5578752911270162649:True:=⟨⟩
end Mine.fin
set_option Elab.async true in
set_option maxHeartbeats 0 in
theorem Mine.fin (L:Mine.uy):PySem.Challenge.rw_nm0164_01.Holds:=by
 w_on;refine holds_law Mine.y2 λsaid=>?_;k_head;(case hw=>w_witness2)
 intro P
 refine Mine.As (Mine.fin.heap_1_1 P) ?_ ?_ ?_ ?_ ?_ ?_ ?_
 · letI i:Nonempty (Mine.Fgl (Mine.fin.heap_1_1 P)):=⟨by kernel_rfl⟩
   exact inferInstanceAs (Nonempty (Mine.Fgl (Mine.fin.heap_1_1 P)))
 · letI i:Nonempty (Mine.Ffn (Mine.fin.heap_1_1 P)):=⟨by kernel_rfl⟩
   exact inferInstanceAs (Nonempty (Mine.Ffn (Mine.fin.heap_1_1 P)))
 · letI i:Nonempty (Mine.Ffl (Mine.fin.heap_1_1 P)):=⟨by kernel_rfl⟩
   exact inferInstanceAs (Nonempty (Mine.Ffl (Mine.fin.heap_1_1 P)))
 · letI i:Nonempty (Mine.Fmt (Mine.fin.heap_1_1 P)):=⟨by kernel_rfl⟩
   exact inferInstanceAs (Nonempty (Mine.Fmt (Mine.fin.heap_1_1 P)))
 · letI i:Nonempty (Mine.Fbl (Mine.fin.heap_1_1 P)):=⟨by kernel_rfl⟩
   exact inferInstanceAs (Nonempty (Mine.Fbl (Mine.fin.heap_1_1 P)))
 · letI i:Nonempty (Mine.Ftb (Mine.fin.heap_1_1 P)):=⟨by kernel_rfl⟩
   exact inferInstanceAs (Nonempty (Mine.Ftb (Mine.fin.heap_1_1 P)))
 · letI i:Nonempty (Mine.Fth (Mine.fin.heap_1_1 P)):=⟨by kernel_rfl⟩
   exact inferInstanceAs (Nonempty (Mine.Fth (Mine.fin.heap_1_1 P)))
end
section
open PySem PySem.W PySem.Calls PyProof.Rows
namespace Mine
noncomputable def okO {α:Type} (o:Option α) (P:α→Prop):Prop:=match o with
 | none=>True
 | some a=>P a
noncomputable def ifT (b:Bool) (p:Prop):Prop:=match b with
 | true=>p
 | false=>True
theorem FL {b:Bool} {p:Prop} (h:ifT b p) (e:b=true):p:=(congrArg (ifT · p) e).mp h
theorem okE {α:Type} {o:Option α} {P:α→Prop} {a:α} (h:okO o P) (e:o=some a):P a:=(congrArg (okO · P) e).mp h
theorem x5 {e:Expr}:okO (asName e) λx=>∃p,e= .Name x p:=by
 induction e using Expr.casesOn with
 | Name x p=>exact⟨p,rfl⟩
 | _=>exact trivial
theorem xZ {e:Expr}:okO (d4 e) λts=>∃k p,e= .Tuple ts k p:=by
 induction e using Expr.casesOn with
 | Tuple ts k p=>exact⟨k,p,rfl⟩
 | _=>exact trivial
theorem uv {e:Expr}:okO (ij e) λq=>∃p,e= .Slice q.1 q.2.1 q.2.2 p:=by
 induction e using Expr.casesOn with
 | Slice a b c p=>exact⟨p,rfl⟩
 | _=>exact trivial
theorem AR {e:Expr}:okO (nk e) λq=>∃p pos,e= .Call (.Name q.1 p) q.2 [] pos:=by
 induction e using Expr.casesOn with
 | Call f as ks pos=>induction f using Expr.casesOn with
   | Name x p=>rcases ks with _ | _
               · exact⟨p,pos,rfl⟩
               · exact trivial
   | _=>exact trivial
 | _=>exact trivial
theorem D4 {e:Expr} {x:Str} (h:asName e=some x):∃p,e= .Name x p:=okE (P:=λx=>∃p,e= .Name x p) x5 h
theorem qQ {e:Expr} {ts:List Expr} (h:d4 e=some ts):∃k p,e= .Tuple ts k p:=okE (P:=λts=>∃k p,e= .Tuple ts k p) xZ h
theorem yV {e:Expr} {q:Option Expr×Option Expr×Option Expr} (h:ij e=some q):∃p,e= .Slice q.1 q.2.1 q.2.2 p:=okE (P:=λq:Option Expr×Option Expr×Option Expr=>∃p,e= .Slice q.1 q.2.1 q.2.2 p) uv h
theorem uo {e:Expr} {q:Str×List Expr} (h:nk e=some q):∃p pos,e= .Call (.Name q.1 p) q.2 [] pos:=okE (P:=λq:Str×List Expr=>∃p pos,e= .Call (.Name q.1 p) q.2 [] pos) AR h
section
variable {α β:Type} {P:Prop} {o:Option α} {f:α→Option β} {a a':α} {b b':β} {c d:Bool} {x y:Option α}
theorem bE (h:o.bind f=some b) (k:∀a,o=some a→f a=some b→P):P:=by
 cases o with
 | none=>cases h
 | some a=>exact k a rfl h
theorem mE {f:α→β} (h:o.map f=some b) (k:∀a,o=some a→some (f a)=some b→P):P:=by
 cases o with
 | none=>cases h
 | some a=>exact k a rfl h
theorem nE (h:none=some a):P:=by cases h
theorem tfE (h:true=false):P:=by cases h
theorem ftE (h:false=true):P:=by cases h
@[elab_as_elim] theorem sE {P:α→Prop} (h:some a=some a') (k:P a):P a':=by cases h;exact k
@[elab_as_elim] theorem pE {P:α→β→Prop} (h:some (a,b)=some (a',b')) (k:P a b):P a' b':=by cases h;exact k
theorem tE (h:(match c with | true=>x | false=>none)=some a) (k:c=true→x=some a→P):P:=by
 cases c with
 | false=>cases h
 | true=>exact k rfl h
theorem iE {c:Prop} [Decidable c] {u v:Option α} {e:α} (h:(if c then u else v)=some e) (k:c→u=some e→P) (k2:¬c→v=some e→P):P:=by
 by_cases z:c
 · rw[if_pos z]at h;exact k z h
 · rw[if_neg z]at h;exact k2 z h
theorem aE (h:(c&&d)=true) (k:c=true→d=true→P):P:=k (Bool.and_eq_true_iff.mp h).1 (Bool.and_eq_true_iff.mp h).2
theorem cE (c:Bool) (k:c=true→P) (k2:c=false→P):P:=by
 cases c with
 | true=>exact k rfl
 | false=>exact k2 rfl
theorem dE {p:Prop} (k:p→P) (k2:¬p→P):P:=(Classical.em p).elim k k2
@[elab_as_elim] theorem eE {P:α→Prop} (h:a=a') (k:P a):P a':=h▸k
@[elab_as_elim] theorem eE' {P:α→Prop} (h:a'=a) (k:P a):P a':=h▸k
theorem j4 (o:Option α) (k:o=none→P) (k2:∀a,o=some a→P):P:=by
 cases o with
 | none=>exact k rfl
 | some a=>exact k2 a rfl
end
theorem gE {b:Bool} {d e:D} {P:Prop} (h:guard b d=some e) (k:b=true→d=e→P):P:=by
 cases b with
 | false=>cases h
 | true=>cases h;exact k rfl rfl
section
variable {d:D} {P:Prop}
theorem Cy {i:Int} (h:dk d=some i):d= .int i:=by
 cases d with
 | int _=>exact congrArg _ (Option.some.inj h)
 | _=>exact nE h
theorem Bz {i:Str} (h:iG d=some i):d= .str i:=by
 cases d with
 | str _=>exact congrArg _ (Option.some.inj h)
 | _=>exact nE h
theorem AX {i:Bool} (h:nA d=some i):d= .bool i:=by
 cases d with
 | bool _=>exact congrArg _ (Option.some.inj h)
 | _=>exact nE h
theorem listE {i:List D} (h:ck d=some i):d= .list i:=by
 cases d with
 | list _=>exact congrArg _ (Option.some.inj h)
 | _=>exact nE h
theorem tupE {i:List D} (h:sR d=some i):d= .tup i:=by
 cases d with
 | tup _=>exact congrArg _ (Option.some.inj h)
 | _=>exact nE h
theorem oM {i:List (Int×D)} (h:qt d=some i):d= .dict i:=by
 cases d with
 | dict _=>exact congrArg _ (Option.some.inj h)
 | _=>exact nE h
theorem xf {i:Int} {n:Nat} (h:nat? i=some n):i=(n:Int):=by
 cases i with
 | ofNat _=>exact congrArg Int.ofNat (Option.some.inj h)
 | negSucc _=>exact nE h
theorem natE {n:Nat} (h:asNat d=some n):d= .int (n:Int):=bE h λi hi h=>by rw[Cy hi,xf h]
theorem jB {a:AV} (h:bY a=some d):a= .v d:=by
 cases a with
 | v _=>exact congrArg _ (Option.some.inj h)
 | r _=>exact nE h
theorem FE {a:AV} {i:Int} (h:bX a=some i):a= .v (.int i):=by
 cases a with
 | r _=>exact nE h
 | v d=>exact congrArg _ (Cy h)
theorem zB {a:AV} {i:Bool} (h:gr a=some i):a= .v (.bool i):=by
 cases a with
 | r _=>exact nE h
 | v d=>exact congrArg _ (AX h)
theorem rm {α:Type} {l:List α} {a:α} (h:one? l=some a):l=[a]:=by
 cases l with
 | nil=>exact nE h
 | cons b r=>cases r with
   | nil=>exact congrArg (λa=>[a]) (Option.some.inj h)
   | cons _ _=>exact nE h
end
theorem lEq_iff:∀{x y:List Nat},lEq x y=true↔x=y
 | [],[]=>⟨λ_=>rfl,λ_=>rfl⟩
 | [],_::_=>⟨λh=>ftE h,λh=>(nomatch h)⟩
 | _::_,[]=>⟨λh=>ftE h,λh=>(nomatch h)⟩
 | a::x,b::y=>by
   show (Nat.beq a b&&lEq x y)=true↔_
   rw[Bool.and_eq_true,lEq_iff,List.cons.injEq,Nat.beq_eq]
theorem tw {a b:Str} (h:a.cps.toList=b.cps.toList):a=b:=by
 cases a;cases b;exact congrArg Str.mk (Array.toList_inj.mp h)
theorem aG {a b:Str}:eqS a b=true↔a=b:=by
 unfold eqS
 constructor
 · intro h
   cases q:Nat.beq (code a) (code b)with
   | true=>rw[q]at h;exact tw (lEq_iff.mp h)
   | false=>rw[q]at h;exact ftE h
 · rintro rfl
   rw[Nat.beq_refl]
   exact lEq_iff.mpr rfl
theorem sm (a:Str):eqS a a=true:=aG.mpr rfl
theorem eo {a b:Str}:eqS a b=false↔a≠b:=by rw[←Bool.not_eq_true,not_congr aG]
section
variable {α:Type} {l:List (Str×α)} {x y:Str} {a:α} {p:Str×α}
theorem aB (h:eqS p.1 x=true):get (p::l) x=some p.2:=by show (match eqS p.1 x with | true=>some p.2 | false=>get l x)=_;rw[h]
theorem ak (h:eqS p.1 x=false):get (p::l) x=get l x:=by show (match eqS p.1 x with | true=>some p.2 | false=>get l x)=_;rw[h]
theorem dv (h:eqS p.1 x=true):set (p::l) x a=(p.1,a)::l:=by show (match eqS p.1 x with | true=>(p.1,a)::l | false=>p::set l x a)=_;rw[h]
theorem dw (h:eqS p.1 x=false):set (p::l) x a=p::set l x a:=by show (match eqS p.1 x with | true=>(p.1,a)::l | false=>p::set l x a)=_;rw[h]
theorem fW:∀{l:List (Str×α)},get (set l x a) x=some a
 | []=>aB (sm _)
 | p::l=>cE (eqS p.1 x) (λe=>(congrArg (get · x) (dv e)).trans (aB e)) λe=>(congrArg (get · x) (dw e)).trans ((ak e).trans fW)
theorem iZ (h:x≠y):∀{l:List (Str×α)},get (set l x a) y=get l y
 | []=>ak (eo.mpr h)
 | p::l=>cE (eqS p.1 x)
    (λe=>have e3:eqS p.1 y=false:=aG.mp e▸eo.mpr h
      (congrArg (get · y) (dv e)).trans ((ak (p:=(p.1,a)) e3).trans (ak e3).symm))
    λe=>(congrArg (get · y) (dw e)).trans (cE (eqS p.1 y) (λq=>(aB q).trans (aB q).symm) λq=>(ak q).trans ((iZ h).trans (ak q).symm))
end
inductive All2 {α β:Type} (R:α→β→Prop):List α→List β→Prop where
 | nil:All2 R [] []
 | cons {a:α} {b:β} {l:List α} {m:List β}:R a b→All2 R l m→All2 R (a::l) (b::m)
noncomputable abbrev FH:=Addr→Option Obj
noncomputable abbrev aX (vs:List Value) (n:Nat):Obj:={cls:= .type "list",data:= .seq vs.toArray n}
noncomputable abbrev nJ (vs:List Value) (n:Nat):Obj:={cls:= .type "tuple",data:= .seq vs.toArray n}
noncomputable abbrev eL (b:List UInt8):Obj:={cls:= .type "bytearray",data:= .bytearray b.toArray}
noncomputable def qx (e:DictEntry) (p:Int×Value):Prop:=(∃t,e.key= .int p.1 t)∧e.hash=hashInt p.1∧e.val=p.2
noncomputable def nF (e:DictEntry) (p:Str×Value):Prop:=(∃t,e.key= .str p.1 t)∧e.val=p.2
noncomputable def cM (o:Obj) (ps:List (Int×Value)):Prop:=o.ExactDict∧∃es ep,o.data= .dict es ep∧All2 qx es.toList ps∧(ps.map (·.1)).Nodup
noncomputable def NsObj (o:Obj) (ps:List (Str×Value)):Prop:=∃es ep,o.data= .dict es ep∧All2 nF es.toList ps∧es.size≤1000
mutual
noncomputable def Rep (ca:Str→Addr) (F:FH):D→Value→Prop
 | .none,v=>v= .none
 | .bool b,v=>v= .bool b
 | .int i,v=>∃t,v= .int i t
 | .str s,v=>∃t,v= .str s t
 | .byt b,v=>∃t,v= .bytes b.toArray t
 | .list ds,v=>∃a vs n,v= .ref a∧F a=some (aX vs n)∧aJ ca F ds vs
 | .tup ds,v=>∃a vs n,v= .ref a∧F a=some (nJ vs n)∧aJ ca F ds vs
 | .dict l,v=>∃a o ps,v= .ref a∧(a==sysModules)=false∧F a=some o∧cM o ps∧cX ca F l ps
 | .obj c fs,v=>∃a dx o ps,v= .ref a∧F a=some (instObj (ca c) dx)∧F dx=some o∧NsObj o ps∧jc ca F c fs ps
noncomputable def aJ (ca:Str→Addr) (F:FH):List D→List Value→Prop
 | [],vs=>vs=[]
 | d::ds,vs=>match vs with
   | []=>False
   | v::r=>Rep ca F d v∧aJ ca F ds r
noncomputable def cX (ca:Str→Addr) (F:FH):List (Int×D)→List (Int×Value)→Prop
 | [],ps=>ps=[]
 | (k,d)::l,ps=>match ps with
   | []=>False
   | p::r=>p.1=k∧Rep ca F d p.2∧cX ca F l r
noncomputable def jc (ca:Str→Addr) (F:FH) (c:Str):List (Str×D)→List (Str×Value)→Prop
 | [],ps=>ps=[]
 | (x,d)::l,ps=>match ps with
   | []=>False
   | p::r=>p.1=x∧di c x=true∧Rep ca F d p.2∧jc ca F c l r
end
section
variable {ca:Str→Addr} {F F':FH}
mutual
theorem Rep.mono (k:∀a o,F a=some o→F' a=some o):∀{d:D} {v:Value},Rep ca F d v→Rep ca F' d v
 | .none,_,h=>h
 | .bool _,_,h=>h
 | .int _,_,h=>h
 | .str _,_,h=>h
 | .byt _,_,h=>h
 | .list _,_,h=>h.elim λa h=>h.elim λvs h=>h.elim λn h=>⟨a,vs,n,h.1,k _ _ h.2.1,aJ.mono k h.2.2⟩
 | .tup _,_,h=>h.elim λa h=>h.elim λvs h=>h.elim λn h=>⟨a,vs,n,h.1,k _ _ h.2.1,aJ.mono k h.2.2⟩
 | .dict _,_,h=>h.elim λa h=>h.elim λo h=>h.elim λps h=>⟨a,o,ps,h.1,h.2.1,k _ _ h.2.2.1,h.2.2.2.1,cX.mono k h.2.2.2.2⟩
 | .obj _ _,_,h=>h.elim λa h=>h.elim λdx h=>h.elim λo h=>h.elim λps h=>⟨a,dx,o,ps,h.1,k _ _ h.2.1,k _ _ h.2.2.1,h.2.2.2.1,jc.mono k h.2.2.2.2⟩
theorem aJ.mono (k:∀a o,F a=some o→F' a=some o):∀{d:List D} {v:List Value},aJ ca F d v→aJ ca F' d v
 | [],_,h=>h
 | _::_,[],h=>h
 | _::_,_::_,h=>⟨Rep.mono k h.1,aJ.mono k h.2⟩
theorem cX.mono (k:∀a o,F a=some o→F' a=some o):∀{d:List (Int×D)} {v:List (Int×Value)},cX ca F d v→cX ca F' d v
 | [],_,h=>h
 | (_,_)::_,[],h=>h
 | (_,_)::_,_::_,h=>⟨h.1,Rep.mono k h.2.1,cX.mono k h.2.2⟩
theorem jc.mono (k:∀a o,F a=some o→F' a=some o) {c:Str}:∀{d:List (Str×D)} {v:List (Str×Value)},jc ca F c d v→jc ca F' c d v
 | [],_,h=>h
 | (_,_)::_,[],h=>h
 | (_,_)::_,_::_,h=>⟨h.1,h.2.1,Rep.mono k h.2.2.1,jc.mono k h.2.2.2⟩
end
end
end Mine
end
section
open PySem PySem.W PySem.Calls PyProof.Rows
namespace Mine
structure Wld (KF:Frag) (K:Heap) (ca:Str→Addr) (fv:Str→Value) (mg mb:Str→Option Value):Prop where
 frag:KF.In K
 g:K.Ns mainGlobals mg
 b:K.Ns builtinsNs mb
 glob:∀x d,glb x=some d→(x==("__debug__":Str))=false∧∃v,mg x=some v∧Rep ca K.get? d v
 fn:∀x,vP tab x=true→(x==("__debug__":Str))=false∧mg x=some (fv x)∧keepIn KF (fv x)=true
 cls:∀c x,di c x=true→∃cd,clsIn KF (ca c)=some cd∧cd.hasDict=true∧findIn KF (.ref (ca c)) x=some none
 ga:∀c x,di c x=true→findIn KF (.ref (ca c)) "__getattribute__"=some (some (.builtin "object.__getattribute__"))∧findIn KF (.ref (ca c)) "__getattr__"=some none
 sa:∀c x,di c x=true→findIn KF (.ref (ca c)) "__setattr__"=some (some (.builtin "object.__setattr__"))∧plainOver KF (ca c)=true
 meth:∀c m,tS c m=true→di c m=false∧(∃x,di c x=true)∧∃f,fv (dot c m)= .ref f∧findIn KF (.ref (ca c)) m=some (some (.ref f))∧typeIn KF (.ref f)=some (.type "function")∧keepIn KF (.ref f)=true
 blt:∀x k,get f9 x=some k→(x==("__debug__":Str))=false∧mg x=none∧mb x=some (AZ k)
structure DfIn (K:Heap) (f:Addr) (d:Df):Prop where
 obj:∃o fd,K.get? f=some o∧o.data= .func fd∧fd.scope=d.sc∧fd.body= .stmts d.body∧fd.closure=[]∧fd.globals=mainGlobals∧fd.builtins=builtinsNs∧K.CodeRec fd.code fd.qualname∧
  fd.params.posonlyargs=[]∧fd.params.kwonlyargs=[]∧fd.params.vararg=none∧fd.params.kwarg=none∧fd.params.args.map (·.arg)=d.params∧
  (fd.defaults= .none∨∃T o items n,fd.defaults= .ref T∧K.get? T=some o∧o.data= .seq items n)
 nodup:d.params.Nodup
 kind:d.sc.kind= .function
 co:d.sc.isCoroutine=false
 gen:d.sc.isGenerator=false
 names:∀y∈d.sc.names,y.2≠ .free∧y.1≠("__debug__":Str)
 par:∀x∈d.params,d.sc.names.lookup x=some .local∨d.sc.names.lookup x=some .cell
 cnd:((cellsFrom 0 d.sc.names []).map (·.1)).Nodup
noncomputable def Ek (KF:Frag) (K:Heap) (ca:Str→Addr) (v:Value) (c:Str) (d:Df):Prop:=∃f,v= .ref (ca c)∧makesIn KF (ca c)=true∧findIn KF (.ref (ca c)) "__init__"=some (some (.ref f))∧typeIn KF (.ref f)=some (.type "function")∧DfIn K f d
noncomputable def FnOk (KF:Frag) (K:Heap) (ca:Str→Addr) (v:Value):Fn→Prop
 | .pure d _=>∃f,v= .ref f∧DfIn K f d
 | .led d _=>∃f,v= .ref f∧DfIn K f d
 | .cls c d _=>Ek KF K ca v c d
 | .obj c d _=>Ek KF K ca v c d
structure Cx where
 prog:Program
 w:World
 K:Heap
 ca:Str→Addr
 gs:Array GenState
 os:OsState
 KF:Frag
 fv:Str→Value
 mg:Str→Option Value
 mb:Str→Option Value
 W:Wld KF K ca fv mg mb
 T:∀x f,get tab x=some f→FnOk KF K ca (fv x) f
 NL:K.NoLimit
inductive Tag where
 | fz (o:Obj)
 | own (n:Nat)
 | dct (n:Nat)
 | lcl
 | cel (x:Str)
structure Gh where
 tag:Addr→Option Tag
 adr:Nat→Addr
 dad:Nat→Addr
 len:Nat
noncomputable def fzO (t:Tag):Option Obj:=match t with
 | .fz o=>some o
 | _=>none
noncomputable def Gh.F (g:Gh):FH:=λa=>(g.tag a).bind fzO
theorem Ah {t:Tag} {o:Obj} (h:fzO t=some o):t= .fz o:=by
 cases t with
 | fz _=>exact congrArg _ (Option.some.inj h)
 | _=>exact nE h
section
variable {c:Cx} {g g' g₂:Gh} {h h' h₂:Heap} {a:Addr} {o:Obj} {b:Bool} {led led':Led} {m n:Nat} {lo:LO}
theorem Gh.F_iff:g.F a=some o↔g.tag a=some (.fz o):=⟨λe=>bE e λt h q=>h.trans (congrArg some (Ah q)),λe=>congrArg (·.bind fzO) e⟩
noncomputable def ay (c:Cx) (g:Gh) (a:AV) (v:Value):Prop:=match a with
 | .v d=>Rep c.ca g.F d v
 | .r n=>n<g.len∧v= .ref (g.adr n)
noncomputable def cm (c:Cx) (g:Gh) (k:Str):List (Str×AV)→List (Str×Value)→Prop
 | [],ps=>ps=[]
 | x::l,ps=>match ps with
   | []=>False
   | p::r=>p.1=x.1∧di k x.1=true∧ay c g x.2 p.2∧cm c g k l r
noncomputable def aQ (c:Cx) (g:Gh):List AV→List Value→Prop
 | [],vs=>vs=[]
 | a::l,vs=>match vs with
   | []=>False
   | v::r=>ay c g a v∧aQ c g l r
noncomputable abbrev iB (g:Gh) (ns:List Nat):List Value:=ns.map λk=> .ref (g.adr k)
noncomputable def g9 (c:Cx) (g:Gh) (h:Heap) (n:Nat):LO→Prop
 | .list xs=>g.tag (g.adr n)=some (.own n)∧∃vs k,h.get? (g.adr n)=some (aX vs k)∧aJ c.ca g.F xs vs
 | .refs ns=>g.tag (g.adr n)=some (.own n)∧(∃k,h.get? (g.adr n)=some (aX (iB g ns) k))∧∀k∈ns,k<g.len
 | .lrefs ns=>(∃k,g.tag (g.adr n)=some (.fz (aX (iB g ns) k)))∧∀k∈ns,k<g.len
 | .dict l=>g.tag (g.adr n)=some (.own n)∧(g.adr n==sysModules)=false∧∃o ps,h.get? (g.adr n)=some o∧cM o ps∧cX c.ca g.F l ps
 | .byt b=>g.tag (g.adr n)=some (.own n)∧h.get? (g.adr n)=some (eL b)
 | .obj k fs=>g.tag (g.adr n)=some (.own n)∧g.tag (g.dad n)=some (.dct n)∧h.get? (g.adr n)=some (instObj (c.ca k) (g.dad n))∧∃o ps,h.get? (g.dad n)=some o∧NsObj o ps∧cm c g k fs ps
 | .frz d=>Rep c.ca g.F d (.ref (g.adr n))
noncomputable abbrev aS (h:Heap) (a:Addr):Prop:=∃o,h.get? a=some o
structure Inv (c:Cx) (g:Gh) (led:Led) (h:Heap):Prop where
 len:g.len=led.length
 fz:∀a o,g.tag a=some (.fz o)→h.get? a=some o
 dom:∀a t,g.tag a=some t→aS h a
 led:∀n lo,led[n]? =some lo→g9 c g h n lo
 kin:∀a o,c.K.get? a=some o→g.tag a=some (.fz o)
noncomputable def Loose (t:Option Tag):Prop:=match t with
 | some (.own _)=>False
 | some (.dct _)=>False
 | _=>True
noncomputable def Still (b:Bool) (t:Option Tag):Prop:=match t with
 | none=>True
 | some (.fz _)=>True
 | some .lcl=>b=false
 | some (.cel _)=>b=false
 | _=>False
theorem bM {t:Option Tag} (s:Still b t):Loose t:=by
 cases t with
 | none=>trivial
 | some t=>cases t<;>first | exact s | trivial
theorem k5 {t:Option Tag} (s:Still b t):Still false t:=by
 cases t with
 | none=>trivial
 | some t=>cases t<;>first | exact s | rfl
theorem loose_f {t:Option Tag} (s:Loose t):Still false t:=by
 cases t with
 | none=>trivial
 | some t=>cases t<;>first | exact s | rfl | trivial
structure Ext (b:Bool) (g:Gh) (h:Heap) (g':Gh) (h':Heap):Prop where
 len:g.len≤g'.len
 adr:∀n,n<g.len→g'.adr n=g.adr n
 live:∀a,aS h a→aS h' a
 tag:∀a,aS h a→Loose (g.tag a)→g'.tag a=g.tag a
 old:∀a o,h.get? a=some o→Still b (g.tag a)→h'.get? a=some o
theorem Ext.refl (b:Bool) (g:Gh) (h:Heap):Ext b g h g h:=⟨Nat.le_refl _,λ_ _=>rfl,λ_ e=>e,λ_ _ _=>rfl,λ_ _ e _=>e⟩
theorem Ext.trans (x:Ext b g h g' h') (y:Ext b g' h' g₂ h₂):Ext b g h g₂ h₂:=
 ⟨Nat.le_trans x.len y.len,λn q=>(y.adr n (Nat.lt_of_lt_of_le q x.len)).trans (x.adr n q),λa q=>y.live a (x.live a q),
   λa q l=>(y.tag a (x.live a q) (x.tag a q l▸l)).trans (x.tag a q l),λa o e l=>y.old a o (x.old a o e l) (x.tag a ⟨o,e⟩ (bM l)▸l)⟩
theorem Ext.weak (x:Ext false g h g' h') (b:Bool):Ext b g h g' h':=⟨x.len,x.adr,x.live,x.tag,λa o e l=>x.old a o e (k5 l)⟩
theorem Ext.fz (x:Ext b g h g' h') (I:Inv c g led h) (e:g.tag a=some (.fz o)):g'.tag a=some (.fz o):=(x.tag a (I.dom a _ e) (e▸trivial)).trans e
theorem Ext.F (x:Ext b g h g' h') (I:Inv c g led h):∀a o,g.F a=some o→g'.F a=some o:=λa o e=>Gh.F_iff.mpr (x.fz I (Gh.F_iff.mp e))
section
variable (hl:g.len≤g'.len) (ha:∀k,k<g.len→g'.adr k=g.adr k) (F:∀a o,g.F a=some o→g'.F a=some o)
include hl ha F
theorem ay.mv {a:AV} {v:Value} (r:ay c g a v):ay c g' a v:=by
 cases a with
 | v d=>exact Rep.mono F r
 | r n=>exact⟨Nat.lt_of_lt_of_le r.1 hl,r.2.trans (congrArg _ (ha n r.1).symm)⟩
theorem aQ.mv:∀{l:List AV} {vs:List Value},aQ c g l vs→aQ c g' l vs
 | [],_,r=>r
 | _::_,[],r=>r
 | _::_,_::_,r=>⟨ay.mv hl ha F r.1,aQ.mv r.2⟩
theorem cm.mv {k:Str}:∀{l:List (Str×AV)} {vs:List (Str×Value)},cm c g k l vs→cm c g' k l vs
 | [],_,r=>r
 | _::_,[],r=>r
 | _::_,_::_,r=>⟨r.1,r.2.1,ay.mv hl ha F r.2.2.1,cm.mv r.2.2.2⟩
end
theorem Ext.repA (x:Ext b g h g' h') (I:Inv c g led h) {a:AV} {v:Value} (r:ay c g a v):ay c g' a v:=ay.mv x.len x.adr (x.F I) r
theorem Ext.repAL (x:Ext b g h g' h') (I:Inv c g led h) {l:List AV} {vs:List Value} (r:aQ c g l vs):aQ c g' l vs:=aQ.mv x.len x.adr (x.F I) r
theorem ve (ha:∀k,k<g.len→g'.adr k=g.adr k) {ns:List Nat} (hn:∀k∈ns,k<g.len):iB g' ns=iB g ns:=List.map_congr_left λk hk=>congrArg _ (ha k (hn k hk))
structure Chg (n:Nat) (g:Gh) (h:Heap) (g':Gh) (h':Heap):Prop where
 len:g.len≤g'.len
 adr:∀k,k<g.len→g'.adr k=g.adr k
 dad:∀k,k<g.len→g'.dad k=g.dad k
 fz:∀a o,g.tag a=some (.fz o)→g'.tag a=some (.fz o)
 own:∀a m t,m≠n→g.tag a=some t→t= .own m∨t= .dct m→g'.tag a=some t∧h'.get? a=h.get? a
theorem g9.keep (C:Chg n g h g' h') (hm:m<g.len) (ne:m≠n) (r:g9 c g h m lo):g9 c g' h' m lo:=by
 have e:=C.adr m hm
 have F:∀a o,g.F a=some o→g'.F a=some o:=λa o e=>Gh.F_iff.mpr (C.fz a o (Gh.F_iff.mp e))
 have K:=λ{ns:List Nat} (hk:∀k∈ns,k<g.len) k q=>Nat.lt_of_lt_of_le (hk k q) C.len
 cases lo with
 | list xs=>
   have q:=C.own _ m _ ne r.1 (.inl rfl)
   exact⟨e▸q.1,r.2.elim λvs r=>r.elim λk r=>⟨vs,k,e▸q.2.trans r.1,aJ.mono F r.2⟩⟩
 | refs ns=>
   have q:=C.own _ m _ ne r.1 (.inl rfl)
   exact⟨e▸q.1,r.2.1.elim λk z=>⟨k,by rw[e,ve C.adr r.2.2];exact q.2.trans z⟩,K r.2.2⟩
 | lrefs ns=>exact⟨r.1.elim λk z=>⟨k,by rw[e,ve C.adr r.2];exact C.fz _ _ z⟩,K r.2⟩
 | dict l=>
   have q:=C.own _ m _ ne r.1 (.inl rfl)
   exact⟨e▸q.1,e▸r.2.1,r.2.2.elim λo r=>r.elim λps r=>⟨o,ps,e▸q.2.trans r.1,r.2.1,cX.mono F r.2.2⟩⟩
 | byt b=>
   have q:=C.own _ m _ ne r.1 (.inl rfl)
   exact⟨e▸q.1,e▸q.2.trans r.2⟩
 | obj k fs=>
   have q:=C.own _ m _ ne r.1 (.inl rfl)
   have u:=C.own _ m _ ne r.2.1 (.inr rfl)
   have d:=C.dad m hm
   exact⟨e▸q.1,d▸u.1,by rw[e,d];exact q.2.trans r.2.2.1,r.2.2.2.elim λo r=>r.elim λps r=>⟨o,ps,d▸u.2.trans r.1,r.2.1,cm.mv C.len C.adr F r.2.2⟩⟩
 | frz d=>exact(e▸Rep.mono F r:Rep c.ca g'.F d (.ref (g'.adr m)))
theorem Inv.chg (I:Inv c g led h) (C:Chg n g h g' h') (len:g'.len=led'.length) (new:∀a t,g'.tag a=some t→aS h' a∧∀o,t= .fz o→h'.get? a=some o)
 (hl:∀m lo,led'[m]? =some lo→(m≠n→led[m]? =some lo)∧(m=n→g9 c g' h' n lo)):Inv c g' led' h':=
 ⟨len,λa o e=>(new a _ e).2 o rfl,λa t e=>(new a t e).1,λm lo q=>dE (p:=m=n) (λe=>e▸(hl m lo q).2 e) λne=>
   have q:=(hl m lo q).1 ne
   g9.keep C (I.len▸(List.getElem?_eq_some_iff.mp q).1) ne (I.led m lo q),λa o e=>C.fz a o (I.kin a o e)⟩
theorem Inv.lt (I:Inv c g led h) (q:led[m]? =some lo):m<g.len:=I.len▸(List.getElem?_eq_some_iff.mp q).1
theorem de (I:Inv c g led h) {P:LO→Prop}:∀m lo,led[m]? =some lo→(m≠g.len→led[m]? =some lo)∧(m=g.len→P lo):=λm lo q=>⟨λ_=>q,λe=>absurd (I.lt q) (e▸Nat.lt_irrefl _)⟩
theorem jr {lo:LO}:(put led n lo).length=led.length:=List.length_set
theorem lq {P:LO→Prop} (r:P lo):∀m lo',(put led n lo)[m]? =some lo'→(m≠n→led[m]? =some lo')∧(m=n→P lo'):=λm lo' q=>⟨λe=>(List.getElem?_set_ne (λz=>e z.symm)).symm.trans q,λe=>by
 subst e
 have lt:=(List.getElem?_eq_some_iff.mp q).1
 rw[jr]at lt
 exact Option.some.inj ((List.getElem?_set_self lt).symm.trans q)▸r⟩
theorem Cs {P:LO→Prop} (r:P lo):∀m lo',(led++[lo])[m]? =some lo'→(m≠led.length→led[m]? =some lo')∧(m=led.length→P lo'):=λm lo' q=>by
 have lt:=(List.getElem?_eq_some_iff.mp q).1
 rw[List.length_append]at lt
 refine⟨λe=>(List.getElem?_append_left (Nat.lt_of_le_of_ne (Nat.le_of_lt_succ lt) e)).symm.trans q,λe=>?_⟩
 subst e
 rw[List.getElem?_append_right (Nat.le_refl _),Nat.sub_self]at q
 exact Option.some.inj q▸r
theorem Inv.frag (I:Inv c g led h):∀a o,c.K.get? a=some o→h.get? a=some o:=λa o e=>I.fz a o (I.kin a o e)
theorem Inv.KI (I:Inv c g led h):c.KF.In h:=λb o e=>I.frag b o (c.W.frag b o e)
theorem Inv.repK (I:Inv c g led h) {d:D} {v:Value} (r:Rep c.ca c.K.get? d v):Rep c.ca g.F d v:=Rep.mono (λa o e=>Gh.F_iff.mpr (I.kin a o e)) r
end
end Mine
end
section
open PySem PySem.W PySem.Calls PyProof.Rows
namespace Mine
inductive NameIs (env:Env) (h:Heap) (x:Str) (v:Value):Prop where
 | loc (m:Str→Option Value) (k:env.kindOf x=some .local) (n:h.Ns env.locals m) (e:m x=some v)
 | cel (a:Addr) (o:Obj) (k:env.kindOf x=some .cell) (l:env.cells.lookup x=some a) (e:h.get? a=some o) (d:o.data= .cell (some v))
structure EnvOk (g:Gh) (env:Env) (h:Heap):Prop where
 kind:env.scope.kind= .function
 glob:env.globals=mainGlobals
 blt:env.builtins=builtinsNs
 ns:∃m,h.Ns env.locals m
 tagL:g.tag env.locals=some .lcl
 cel:∀x a,env.cells.lookup x=some a→env.kindOf x=some .cell→g.tag a=some (.cel x)∧∃o v,h.get? a=some o∧o.data= .cell v
 has:∀x,env.kindOf x=some .cell→∃a,env.cells.lookup x=some a
structure Nice (c:Cx) (env:Env) (loc:Loc) (g:Gh) (led:Led) (s:Shared):Prop where
 inv:Inv c g led s.heap
 ok:EnvOk g env s.heap
 loc:∀x a,get loc x=some a→∃v,NameIs env s.heap x v∧ay c g a v
 gens:s.gens=c.gs
 os:s.os=c.os
structure Go (c:Cx) (b:Bool) (g:Gh) (h:Heap) (g':Gh) (led':Led) (h':Heap):Prop where
 inv:Inv c g' led' h'
 ext:Ext b g h g' h'
section
variable {c:Cx} {env:Env} {loc:Loc} {g g' g₀:Gh} {led led':Led} {s s':Shared} {h h' h₀:Heap} {a:Addr} {o:Obj} {b:Bool} {n:Nat} {lo:LO} {t u:Option Tag}
theorem NameIs.keep {x:Str} {v:Value} (r:NameIs env h x v) (hL:∀m,h.Ns env.locals m→h'.Ns env.locals m) (hC:∀a,env.cells.lookup x=some a→env.kindOf x=some .cell→∀o,h.get? a=some o→h'.get? a=some o):NameIs env h' x v:=by
 cases r with
 | loc m k n e=>exact .loc m k (hL m n) e
 | cel a o k l e d=>exact .cel a o k l (hC a l k o e) d
theorem Nice.mv (N:Nice c env loc g led s) (I:Inv c g' led' s'.heap) (hL:∀o,s.heap.get? env.locals=some o→s'.heap.get? env.locals=some o) (hC:∀x a,g.tag a=some (.cel x)→∀o,s.heap.get? a=some o→s'.heap.get? a=some o)
 (tL:g'.tag env.locals=some .lcl) (tC:∀x a,g.tag a=some (.cel x)→g'.tag a=some (.cel x)) (R:∀a v,ay c g a v→ay c g' a v) (hg:s'.gens=s.gens) (ho:s'.os=s.os):Nice c env loc g' led' s' where
 inv:=I
 ok:=⟨N.ok.kind,N.ok.glob,N.ok.blt,N.ok.ns.imp λm n=>n.at hL,tL,λx a l k=>have q:=N.ok.cel x a l k;⟨tC x a q.1,q.2.imp λo z=>z.imp λv z=>⟨hC x a q.1 o z.1,z.2⟩⟩,N.ok.has⟩
 loc:=λx a e=>(N.loc x a e).imp λv z=>⟨z.1.keep (λm n=>n.at hL) λa l k=>hC x a (N.ok.cel x a l k).1,R _ _ z.2⟩
 gens:=hg.trans N.gens
 os:=ho.trans N.os
theorem Nice.ext (N:Nice c env loc g led s) (x:Ext false g s.heap g' s'.heap) (I:Inv c g' led' s'.heap) (hg:s'.gens=s.gens) (ho:s'.os=s.os):Nice c env loc g' led' s':=
 have tC:∀x a,g.tag a=some (.cel x)→Still false (g.tag a):=λ_ _ e=>e▸rfl
 have tL:Still false (g.tag env.locals):=N.ok.tagL▸rfl
 have lv:∀{a t},g.tag a=some t→aS s.heap a:=λe=>N.inv.dom _ _ e
 N.mv I (λo e=>x.old _ o e tL) (λy a e o q=>x.old a o q (tC y a e)) ((x.tag _ (lv N.ok.tagL) (bM tL)).trans N.ok.tagL) (λy a e=>(x.tag a (lv e) (bM (tC y a e))).trans e) (λ_ _ r=>x.repA N.inv r) hg ho
theorem Nice.go {t:Nat} (N:Nice c env loc g led s) (x:Go c false g s.heap g' led' h'):Nice c env loc g' led' {s with heap:=h',toks:=t}:=N.ext (s':={s with heap:=h',toks:=t}) x.ext x.inv rfl rfl
theorem Nice.gh (N:Nice c env loc g led s) (x:Go c false g s.heap g' led' s.heap):Nice c env loc g' led' s:=N.ext x.ext x.inv rfl rfl
theorem Nice.toks (N:Nice c env loc g led s) (t:Nat):Nice c env loc g led {s with toks:=t}:=⟨N.inv,N.ok,N.loc,N.gens,N.os⟩
theorem Nice.keeps (N:Nice c env loc g led s):∀b o,c.K.get? b=some o→s.heap.get? b=some o:=N.inv.frag
theorem Nice.KI (N:Nice c env loc g led s):c.KF.In s.heap:=N.inv.KI
theorem Go.refl (I:Inv c g led h):Go c b g h g led h:=⟨I,.refl _ _ _⟩
theorem Go.trans {g₂:Gh} {led₂:Led} {h₂:Heap} (x:Go c b g h g' led' h') (y:Go c b g' h' g₂ led₂ h₂):Go c b g h g₂ led₂ h₂:=⟨y.inv,x.ext.trans y.ext⟩
theorem Chg.same (e:∀a t,g.tag a=some t→h'.get? a=h.get? a):Chg n g h g h':=⟨Nat.le_refl _,λ_ _=>rfl,λ_ _=>rfl,λ_ _ e=>e,λa _ _ _ t _=>⟨t,e a _ t⟩⟩
theorem Inv.same (I:Inv c g led h) (e:∀a t,g.tag a=some t→h'.get? a=h.get? a):Inv c g led h':=
 I.chg (.same e) I.len (λa t q=>⟨(I.dom a t q).imp λo z=>(e a t q).trans z,λo z=>(e a t q).trans (I.fz a o (z▸q))⟩) (de I)
theorem Inv.kept (I:Inv c g led h) (k:∀b o,h.get? b=some o→h'.get? b=some o):Inv c g led h':=I.same λa t q=>(I.dom a t q).elim λo e=>(k a o e).trans e.symm
theorem Go.kept (I:Inv c g led h) (k:∀b o,h.get? b=some o→h'.get? b=some o):Go c b g h g led h':=
 ⟨I.kept k,Nat.le_refl _,λ_ _=>rfl,λa l=>l.imp (k a),λ_ _ _=>rfl,λa o e _=>k a o e⟩
theorem aS.lt (l:aS h a):a<h.objs.size:=l.elim λ_ e=>Heap.lt_size e
theorem Fd (l:aS h a):(h.push o).get? a=h.get? a:=l.elim λ_ e=>(Heap.get?_push_of_some _ e).trans e.symm
theorem bh {o:Obj}:∀b o',h.get? b=some o'→(h.push o).get? b=some o':=λ_ _ e=>Heap.get?_push_of_some _ e
theorem Go.junk (I:Inv c g led h) (o:Obj):Go c b g h g led (h.push o):= .kept I bh
theorem Nice.junk {t:Nat} (N:Nice c env loc g led s) (o:Obj):Nice c env loc g led {s with heap:=s.heap.push o,toks:=t}:=N.go (.junk N.inv o)
theorem Nice.kept {t:Nat} (N:Nice c env loc g led s) (k:∀b o,s.heap.get? b=some o→h'.get? b=some o):Nice c env loc g led {s with heap:=h',toks:=t}:=N.go (.kept N.inv k)
theorem bj:¬aS h h.objs.size:=λl=>Nat.lt_irrefl _ l.lt
theorem Inv.untag (I:Inv c g led h) (n:¬aS h a):g.tag a=none:=j4 (g.tag a) id λt e=>absurd (I.dom _ _ e) n
theorem Inv.fresh (I:Inv c g led h):g.tag h.objs.size=none:=I.untag bj
theorem dZ (n:g.tag a=none) {b:Addr} {t:Tag} (e:g.tag b=some t):b≠a:=λq=>nomatch (q▸e).symm.trans n
theorem cK {b:Addr} {t u:Tag} (e:g.tag a=some t) (q:g.tag b=some u) (ne:t≠u):b≠a:=λz=>ne (Option.some.inj (e.symm.trans (z▸q)))
theorem Ext.upd (x:Ext b g₀ h₀ g h) (hs:Heap.SameBut a h h') (ha:¬aS h₀ a):Ext b g₀ h₀ g h':=
 have ne:∀{d},aS h₀ d→d≠a:=λq e=>ha (e▸q)
 ⟨x.len,x.adr,λd q=>(x.live d q).imp λo e=>(hs.2 d (ne q)).trans e,x.tag,λd o e l=>(hs.2 d (ne ⟨o,e⟩)).trans (x.old d o e l)⟩
theorem Nice.upd {t:Nat} (N:Nice c env loc g led s) (hs:Heap.SameBut a s.heap h') (ha:g.tag a=none):Nice c env loc g led {s with heap:=h',toks:=t}:=
 have e:∀b t,g.tag b=some t→h'.get? b=s.heap.get? b:=λb t q=>hs.2 b (dZ ha q)
 N.mv (s':={s with heap:=h',toks:=t}) (N.inv.same e) (λo q=>(e _ _ N.ok.tagL).trans q) (λx a q o z=>(e _ _ q).trans z) N.ok.tagL (λ_ _ e=>e) (λ_ _ r=>r) rfl rfl
noncomputable def Gh.tg (g:Gh) (a:Addr) (t:Option Tag):Gh:={g with tag:=λb=>if b=a then t else g.tag b}
theorem cJ:(g.tg a t).tag a=t:=if_pos rfl
theorem cA {b:Addr} (e:b≠a):(g.tg a t).tag b=g.tag b:=if_neg e
theorem tgE {b:Addr} {P:Prop} (e:(g.tg a t).tag b=u) (k:b=a→t=u→P) (k2:b≠a→g.tag b=u→P):P:=dE (p:=b=a) (λz=>k z (by rw[z,cJ]at e;exact e)) λz=>k2 z ((cA z).symm.trans e)
noncomputable def kX (n:Nat) (u t:Option Tag):Prop:=match u with
 | some (.fz o)=>t=some (.fz o)
 | some (.own m)=>m=n
 | some (.dct m)=>m=n
 | _=>True
theorem uY (H:kX n (g.tag a) t) (b:Addr) (o:Obj) (e:g.tag b=some (.fz o)):(g.tg a t).tag b=some (.fz o):=dE (p:=b=a) (λz=>by rw[z]at e ⊢;rw[e]at H;exact cJ.trans H) λz=>(cA z).trans e
theorem ownI {m:Nat} (h:Tag.own m= .own n):m=n:=by cases h;rfl
theorem dctI {m:Nat} (h:Tag.dct m= .dct n):m=n:=by cases h;rfl
theorem Chg.tg (H:kX n (g.tag a) t) (hs:∀b m t,m≠n→g.tag b=some t→t= .own m∨t= .dct m→h'.get? b=h.get? b):Chg n g h (g.tg a t) h':=
 ⟨Nat.le_refl _,λ_ _=>rfl,λ_ _=>rfl,uY H,
   λb m u ne e q=>⟨(cA λz=>by rw[z]at e;rw[e]at H;rcases q with q | q<;>(rw[q]at H;exact ne H)).trans e,hs b m u ne e q⟩⟩
theorem Inv.tg (I:Inv c g led h) (H:kX n (g.tag a) t) (len:g.len=led'.length) (ha:∀u,t=some u→aS h a∧∀o,u= .fz o→h.get? a=some o)
 (hl:∀m lo,led'[m]? =some lo→(m≠n→led[m]? =some lo)∧(m=n→g9 c (g.tg a t) h n lo)):Inv c (g.tg a t) led' h:=
 I.chg (.tg H λ_ _ _ _ _ _=>rfl) len (λb u e=>tgE e (λz q=>z▸ha u q) λ_ q=>⟨I.dom b u q,λo z=>I.fz b o (z▸q)⟩) hl
theorem cW (n:g.tag a=none) {m:Nat}:kX m (g.tag a) t:=by rw[n];trivial
theorem dT (e:g.tag a=some (.own n)):kX n (g.tag a) t:=by rw[e];rfl
theorem r9 (e:g.tag a=some (.dct n)):kX n (g.tag a) t:=by rw[e];rfl
theorem jh (H:kX n (g.tag a) t):∀b o,g.F b=some o→(g.tg a t).F b=some o:=λb o e=>Gh.F_iff.mpr (uY H b o (Gh.F_iff.mp e))
theorem dG:(g.tg a (some (.fz o))).F a=some o:=Gh.F_iff.mpr cJ
theorem Ext.tg (x:Ext b g₀ h₀ g h) (H:aS h₀ a→¬Loose (g₀.tag a)):Ext b g₀ h₀ (g.tg a t) h:=
 ⟨x.len,x.adr,x.live,λd l q=>(cA λ(z:d=a)=>H (z▸l) (z▸q)).trans (x.tag d l q),x.old⟩
theorem wh {t':Option Tag} (t:g.tag a=some (.own n)∨g.tag a=some (.dct n)):Ext false g h (g.tg a t') h:=(Ext.refl _ _ _).tg λ_ q=>by
 rcases t with t | t<;>(rw[t]at q;exact q)
theorem Go.frz (I:Inv c g led h) (t:g.tag (g.adr n)=some (.own n)) (ho:h.get? (g.adr n)=some o) (r:g9 c (g.tg (g.adr n) (some (.fz o))) h n lo):Go c false g h (g.tg (g.adr n) (some (.fz o))) (put led n lo) h:=
 ⟨I.tg (dT t) (I.len.trans jr.symm) (λu e=>⟨⟨o,ho⟩,λo' q=>by cases q;cases e;exact ho⟩) (lq r),wh (.inl t)⟩
theorem Inv.puts (I:Inv c g led h) (r:g9 c g h n lo):Inv c g (put led n lo) h:=
 I.chg (.same λ_ _ _=>rfl) (I.len.trans jr.symm) (λa t e=>⟨I.dom a t e,λo z=>I.fz a o (z▸e)⟩) (lq r)
theorem Inv.fzNone (I:Inv c g led h) (n:g.tag a=none) (ho:h.get? a=some o):Inv c (g.tg a (some (.fz o))) led h:=
 I.tg (cW n) I.len (λu e=>⟨⟨o,ho⟩,λo' q=>by cases q;cases e;exact ho⟩) (de I)
theorem Inv.mark {u:Tag} (I:Inv c g led h) (n:g.tag a=none) (l:aS h a) (hu:∀o,u≠ .fz o):Inv c (g.tg a (some u)) led h:=
 I.tg (cW n) I.len (λt e=>⟨l,λo q=>absurd ((Option.some.inj e).trans q) (hu o)⟩) (de I)
theorem Inv.unmark (I:Inv c g led h) (t:g.tag a=some .lcl):Inv c (g.tg a none) led h:=I.tg (n:=g.len) (by rw[t];trivial) I.len (λ_ e=>nE e) (de I)
theorem Go.pushFz (I:Inv c g led h) (ho:o.isFreed=false):Go c false g h (g.tg h.objs.size (some (.fz o))) led (h.push o):=
 ⟨(Go.junk (b:=false) I o).inv.fzNone I.fresh (Heap.get?_push_size _ ho),(Go.junk I o).ext.tg λl=>absurd l bj⟩
theorem pH {t:Tag} (ha:g.tag a=some (.own n)∨g.tag a=some (.dct n)) {b:Addr} (e:g.tag b=some t) (h1:t≠ .own n) (h2:t≠ .dct n):b≠a:=
 ha.elim (λq=>cK q e h1.symm) λq=>cK q e h2.symm
theorem Go.setOwn (I:Inv c g led h) (ha:g.tag a=some (.own n)∨g.tag a=some (.dct n)) (hs:∀x o,x≠a→h.get? x=some o→h'.get? x=some o) (hl:aS h' a) (r:g9 c g h' n lo):Go c false g h g (put led n lo) h':=
 have up:∀{b t},g.tag b=some t→b≠a→h'.get? b=h.get? b:=λe ne=>(I.dom _ _ e).elim λo q=>(hs _ o ne q).trans q.symm
 ⟨I.chg ⟨Nat.le_refl _,λ_ _=>rfl,λ_ _=>rfl,λ_ _ e=>e,λb m t ne e q=>⟨e,up e (q.elim (λq=>pH ha e (q▸λz=>ne (ownI z)) (q▸λz=>nomatch z)) λq=>pH ha e (q▸λz=>nomatch z) (q▸λz=>ne (dctI z)))⟩⟩ (I.len.trans jr.symm)
   (λb t e=>⟨dE (p:=b=a) (λz=>z▸hl) λz=>(I.dom b t e).imp λo q=>hs b o z q,λo q=>hs b o (pH ha e (q▸λz=>nomatch z) (q▸λz=>nomatch z)) (I.fz b o (q▸e))⟩) (lq r),
   Nat.le_refl _,λ_ _=>rfl,λb q=>dE (p:=b=a) (λz=>z▸hl) λz=>q.imp λo e=>hs b o z e,λ_ _ _=>rfl,λb o e st=>hs b o (λz=>by rcases ha with q | q<;>(rw[z,q]at st;exact st)) e⟩
theorem Go.frame {u:Tag} (I:Inv c g led h) (ha:g.tag a=some u) (hu:u= .lcl∨∃x,u= .cel x) (hs:Heap.SameBut a h h') (l:aS h' a):Go c true g h g led h':=
 have up:∀{b t},g.tag b=some t→t≠u→h'.get? b=h.get? b:=λe ne=>hs.2 _ (cK ha e ne.symm)
 have lv:∀{b},aS h b→aS h' b:=λ{b} q=>dE (p:=b=a) (λz=>z▸l) λz=>q.imp λo e=>(hs.2 b z).trans e
 have nz:∀o,Tag.fz o≠u:=λo z=>by rcases hu with q | ⟨_,q⟩<;>cases z.trans q
 ⟨I.chg ⟨Nat.le_refl _,λ_ _=>rfl,λ_ _=>rfl,λ_ _ e=>e,λb m t _ e q=>⟨e,up e λz=>by rcases q with q | q<;>rcases hu with w | ⟨_,w⟩<;>cases (q.symm.trans z).trans w⟩⟩ I.len
   (λb t e=>⟨lv (I.dom b t e),λo q=>(up (q▸e) (nz o)).trans (I.fz b o (q▸e))⟩) (de I),
   Nat.le_refl _,λ_ _=>rfl,λ_=>lv,λ_ _ _=>rfl,λb o e st=>(hs.2 b λz=>by rw[z,ha]at st;rcases hu with q | ⟨_,q⟩<;>(rw[q]at st;exact nomatch st)).trans e⟩
noncomputable def Gh.more (g:Gh) (a d:Addr) (T:Addr→Option Tag):Gh:=⟨T,λn=>if n=g.len then a else g.adr n,λn=>if n=g.len then d else g.dad n,g.len+1⟩
theorem Go.more {d:Addr} {T:Addr→Option Tag} (I:Inv c g led h) (hT:∀b t,g.tag b=some t→T b=some t) (hn:∀b t,T b=some t→g.tag b=some t∨(aS h' b∧∀o,t≠ .fz o)) (hl:∀b,aS h b→T b=g.tag b) (k:∀b o,h.get? b=some o→h'.get? b=some o)
 (r:g9 c (g.more a d T) h' led.length lo):Go c false g h (g.more a d T) (led++[lo]) h':=
 have ad:∀k,k<g.len→(g.more a d T).adr k=g.adr k:=λk q=>if_neg (Nat.ne_of_lt q)
 have I':=I.kept k
 ⟨I'.chg (n:=led.length) ⟨Nat.le_succ _,ad,λk q=>if_neg (Nat.ne_of_lt q),λb o e=>hT _ _ e,λb m t _ e _=>⟨hT _ _ e,rfl⟩⟩ (by rw[List.length_append,←I.len];rfl)
   (λb t e=>(hn b t e).elim (λq=>⟨I'.dom b t q,λo z=>I'.fz b o (z▸q)⟩) λq=>⟨q.1,λo z=>absurd z (q.2 o)⟩) (Cs r),
   Nat.le_succ _,ad,λb=> .imp (k b),λb l _=>hl b l,λb o e _=>k b o e⟩
theorem mz {d:Addr} {T:Addr→Option Tag}:(g.more a d T).adr g.len=a:=if_pos rfl
theorem zl {d:Addr} {T:Addr→Option Tag}:(g.more a d T).dad g.len=d:=if_pos rfl
end
end Mine
end
section
open PySem PySem.W PySem.Calls PyProof.Rows
namespace Mine
section
variable {c:Cx} {env:Env} {loc:Loc} {g g' g₀:Gh} {led led':Led} {s s':Shared} {h h' h₀:Heap} {a:Addr} {o:Obj} {n:Nat} {F:FH} {ca:Str→Addr}
theorem vF {α:Type} {l:List α} {a:α} (e:l[n]? =some a):n<l.length:=(List.getElem?_eq_some_iff.mp e).1
theorem Inv.listE (I:Inv c g led h) {xs:List D} (q:led[n]? =some (.list xs)) {P:Prop} (k:∀vs m,g.tag (g.adr n)=some (.own n)→h.get? (g.adr n)=some (aX vs m)→aJ c.ca g.F xs vs→P):P:=
 have r:=I.led n _ q
 r.2.elim λvs z=>z.elim λm z=>k vs m r.1 z.1 z.2
theorem Inv.oM (I:Inv c g led h) {l:List (Int×D)} (q:led[n]? =some (.dict l)) {P:Prop} (k:∀o ps,g.tag (g.adr n)=some (.own n)→(g.adr n==sysModules)=false→h.get? (g.adr n)=some o→cM o ps→cX c.ca g.F l ps→P):P:=
 have r:=I.led n _ q
 r.2.2.elim λo z=>z.elim λps z=>k o ps r.1 r.2.1 z.1 z.2.1 z.2.2
theorem Inv.refsE (I:Inv c g led h) {ns:List Nat} (q:led[n]? =some (.refs ns)) {P:Prop} (k:∀m,g.tag (g.adr n)=some (.own n)→h.get? (g.adr n)=some (aX (iB g ns) m)→(∀k∈ns,k<g.len)→P):P:=
 have r:=I.led n _ q
 r.2.1.elim λm z=>k m r.1 z r.2.2
theorem Inv.lrefsE (I:Inv c g led h) {ns:List Nat} (q:led[n]? =some (.lrefs ns)) {P:Prop} (k:∀m,g.tag (g.adr n)=some (.fz (aX (iB g ns) m))→(∀k∈ns,k<g.len)→P):P:=
 have r:=I.led n _ q
 r.1.elim λm z=>k m z r.2
theorem Inv.objE (I:Inv c g led h) {x:Str} {fs:List (Str×AV)} (q:led[n]? =some (.obj x fs)) {P:Prop} (k:∀o ps,g.tag (g.adr n)=some (.own n)→g.tag (g.dad n)=some (.dct n)→h.get? (g.adr n)=some (instObj (c.ca x) (g.dad n))→h.get? (g.dad n)=some o→NsObj o ps→cm c g x fs ps→P):P:=
 have r:=I.led n _ q
 r.2.2.2.elim λo z=>z.elim λps z=>k o ps r.1 r.2.1 r.2.2.1 z.1 z.2.1 z.2.2
theorem vc (I:Inv c g led h) {a:AV} {d:D} {v:Value} (r:ay c g a v) (e:seen led a=some d):Rep c.ca g.F d v:=by
 cases a with
 | v d'=>exact Option.some.inj e▸r
 | r n=>
   refine bE e λo q e=>?_
   cases o with
   | frz d'=>rw[r.2,←Option.some.inj e];exact I.led n _ q
   | _=>exact nE e
theorem fX (I:Inv c g led h):∀{ns:List Nat} {ds:List D},(∀k∈ns,k<g.len)→lx led ns=some ds→aJ c.ca g.F ds (iB g ns)
 | [],_,_,e=>Option.some.inj e▸rfl
 | n::ns,_,hn,e=>bE e λd hd e=>bE e λr hr e=>Option.some.inj e▸⟨vc I (a:= .r n) ⟨hn n List.mem_cons_self,rfl⟩ hd,fX I (λk hk=>hn k (List.mem_cons_of_mem _ hk)) hr⟩
theorem mZ (I:Inv c g led h) {x:Str}:∀{fs:List (Str×AV)} {ds:List (Str×D)} {ps:List (Str×Value)},cm c g x fs ps→ly led fs=some ds→jc c.ca g.F x ds ps
 | [],_,_,r,e=>Option.some.inj e▸r
 | _::_,_,[],r,_=>r.elim
 | y::fs,_,p::ps,r,e=>bE e λd hd e=>bE e λq hq e=>Option.some.inj e▸⟨r.1,r.2.1,vc I r.2.2.1 hd,mZ I r.2.2.2 hq⟩
theorem v7 {f:AV→Led→Option (D×Led)} {h:Heap} (hf:∀{g led a d led'},Inv c g led h→(∀n,a= .r n→n<g.len)→f a led=some (d,led')→∃g',Go c false g h g' led' h):
 ∀{l:List AV} {g:Gh} {led led':Led},Inv c g led h→(∀a∈l,∀n,a= .r n→n<g.len)→Aj f l led=some led'→∃g',Go c false g h g' led' h
 | [],g,_,_,I,_,e=>⟨g,Option.some.inj e▸ .refl I⟩
 | a::l,g,_,_,I,hl,e=>bE e λp hp e=>(hf I (hl a List.mem_cons_self) hp).elim λg₁ S₁=>
   (v7 hf S₁.inv (λb hb n q=>Nat.lt_of_lt_of_le (hl b (List.mem_cons_of_mem _ hb) n q) S₁.ext.len) e).imp λg₂ S₂=>S₁.trans S₂
theorem cm.lt {x:Str}:∀{fs:List (Str×AV)} {ps:List (Str×Value)},cm c g x fs ps→∀a∈vals fs,∀n,a= .r n→n<g.len
 | [],_,_,a,ha,_,_=>nomatch ha
 | _::_,[],r,_,_,_,_=>r.elim
 | y::fs,p::ps,r,a,ha,n,e=>(List.mem_cons.mp ha).elim (λz=>(show ay c g (.r n) p.2 from e▸z▸r.2.2.1).1) λz=>cm.lt r.2.2.2 a z n e
noncomputable abbrev Frz (c:Cx) (g:Gh) (h:Heap) (led':Led) (a:AV) (d:D):Prop:=∃g',Go c false g h g' led' h∧∀v,ay c g a v→Rep c.ca g'.F d v
theorem v5 {g':Gh} {led':Led} {d:D} (S:Go c false g h g' led' h) (R:Rep c.ca g'.F d (.ref (g'.adr n))):Frz c g h led' (.r n) d:=⟨g',S,λv r=>by rw[r.2,←S.ext.adr n r.1];exact R⟩
theorem eA {xs:List D} {vs:List Value} {m:Nat} (e:F a=some (aX vs m)) (r:aJ ca F xs vs):Rep ca F (.list xs) (.ref a):=⟨a,vs,m,rfl,e,r⟩
theorem BV {xs:List D} {vs:List Value} {m:Nat} (e:F a=some (nJ vs m)) (r:aJ ca F xs vs):Rep ca F (.tup xs) (.ref a):=⟨a,vs,m,rfl,e,r⟩
theorem q6 {l:List (Int×D)} {ps:List (Int×Value)} (z:(a==sysModules)=false) (e:F a=some o) (d:cM o ps) (r:cX ca F l ps):Rep ca F (.dict l) (.ref a):=⟨a,o,ps,rfl,z,e,d,r⟩
theorem vG {ns:List Nat} (hk:∀k∈ns,k<n):∀a∈tr ns,∀m,a= .r m→m<n:=λa ha m e=>(List.mem_map.mp ha).elim λj q=>by have q2:=q.2;rw[e]at q2;cases q2;exact hk _ q.1
theorem E8 {l:Led} {ns:List Nat} (h:l[n]?.bind A9=some ns):l[n]? =some (.refs ns):=bE h λo q h=>by
 cases o with
 | refs _=>exact Option.some.inj h▸q
 | _=>exact nE h
theorem Co {l:Led} {ns:List Nat} (h:l[n]?.bind wx=some ns):l[n]? =some (.lrefs ns):=bE h λo q h=>by
 cases o with
 | lrefs _=>exact Option.some.inj h▸q
 | _=>exact nE h
theorem objAt {l:Led} {p:Str×List (Str×AV)} (h:l[n]?.bind Ei=some p):l[n]? =some (.obj p.1 p.2):=bE h λo q h=>by
 cases o with
 | obj _ _=>exact Option.some.inj h▸q
 | _=>exact nE h
theorem Go.frzD {d:D} (I:Inv c g led h) (t:g.tag (g.adr n)=some (.own n)) (ho:h.get? (g.adr n)=some o) (r:Rep c.ca (g.tg (g.adr n) (some (.fz o))).F d (.ref (g.adr n))):Go c false g h (g.tg (g.adr n) (some (.fz o))) (put led n (.frz d)) h:=Go.frz (lo:= .frz d) I t ho r
theorem qc {d:D} {l:Led} {h:Heap} (S:Go c false g h g' l h) (t:g'.tag (g'.adr n)=some (.own n)) (ho:h.get? (g'.adr n)=some o) (r:Rep c.ca (g'.tg (g'.adr n) (some (.fz o))).F d (.ref (g'.adr n))):Frz c g h (put l n (.frz d)) (.r n) d:=
 v5 (S.trans (Go.frzD S.inv t ho r)) r
theorem CZ {d:List (Str×D)} {l:Led} {h:Heap} {x:Str} {fs:List (Str×AV)} (S:Go c false g h g' l h) (q:l[n]? =some (.obj x fs)) (e:ly l fs=some d):Frz c g h (put l n (.frz (.obj x d))) (.r n) (.obj x d):=
 S.inv.objE q λo ps t u ho hd hN r=>by
  have ne:g'.dad n≠g'.adr n:=cK t u λz=>nomatch z
  have t₁:(g'.tg (g'.dad n) (some (.fz o))).tag (g'.adr n)=some (.own n):=(cA ne.symm).trans t
  have R:Rep c.ca ((g'.tg (g'.dad n) (some (.fz o))).tg (g'.adr n) (some (.fz (instObj (c.ca x) (g'.dad n))))).F (.obj x d) (.ref (g'.adr n)):=
   ⟨_,_,o,ps,rfl,dG,Gh.F_iff.mpr ((cA ne).trans cJ),hN,jc.mono (λb o' e=>jh (dT t₁) b o' (jh (r9 u) b o' e)) (mZ S.inv r e)⟩
  have Z:Inv c ((g'.tg (g'.dad n) (some (.fz o))).tg (g'.adr n) (some (.fz (instObj (c.ca x) (g'.dad n))))) (put l n (.frz (.obj x d))) h:=by
   refine S.inv.chg (n:=n) ⟨Nat.le_refl _,λ_ _=>rfl,λ_ _=>rfl,λb o' e=>uY (dT t₁) b o' (uY (r9 u) b o' e),λb m w hm e hw=>⟨(cA (cK t e λz=>?_)).trans ((cA (cK u e λz=>?_)).trans e),rfl⟩⟩
    (S.inv.len.trans jr.symm) (λb w e=>tgE e (λz q=>?_) λz q=>tgE q (λz q=>?_) λz q=>⟨S.inv.dom b w q,λo z=>S.inv.fz b o (z▸q)⟩) (lq (lo:= .frz (.obj x d)) R)
   · rcases hw with q | q<;>cases z.trans q;exact hm rfl
   · rcases hw with q | q<;>cases z.trans q;exact hm rfl
   · cases q;rw[z];exact⟨⟨_,ho⟩,λo' q=>by cases q;exact ho⟩
   · cases q;rw[z];exact⟨⟨_,hd⟩,λo' q=>by cases q;exact hd⟩
  exact v5 (S.trans ⟨Z,(wh (.inr u)).tg λ_ z=>by rw[t]at z;exact z⟩) R
theorem kh {h:Heap}:∀(k:Nat) {g:Gh} {led:Led} {a:AV} {d:D} {led':Led},Inv c g led h→(∀n,a= .r n→n<g.len)→frz k a led=some (d,led')→Frz c g h led' a d
 | 0,g,_,.v _,_,_,I,_,e=>pE e ⟨g,.refl I,λ_ r=>r⟩
 | 0,_,_,.r _,_,_,_,_,e=>nE e
 | k+1,g,_,.v _,_,_,I,_,e=>pE e ⟨g,.refl I,λ_ r=>r⟩
 | k+1,g,led,.r n,d,led',I,hn,e=>by
   have L:=λ{l:List AV} {led':Led}=>v7 (c:=c) (h:=h) (l:=l) (g:=g) (led:=led) (led':=led') (f:=frz k) λI hn e=>(kh k I hn e).imp λ_ z=>z.1
   refine bE e λo q e=>?_
   cases o with
   | frz d=>exact pE e (v5 (.refl I) (I.led n _ q:Rep c.ca g.F d (.ref (g.adr n))))
   | list xs=>exact pE e (I.listE q λvs m t ho r=>qc (.refl I) t ho (eA dG (aJ.mono (jh (dT t)) r)))
   | dict l=>exact pE e (I.oM q λo ps t hs ho hd r=>qc (.refl I) t ho (q6 hs dG hd (cX.mono (jh (dT t)) r)))
   | refs ns=>exact bE e λl hl e=>bE e λns' hq e=>bE e λds hds e=>pE e<|(L I (vG (I.led n _ q).2.2) hl).elim λg₁ S₁=>S₁.inv.refsE (E8 hq) λm t ho hk=>qc S₁ t ho (eA dG (aJ.mono (jh (dT t)) (fX S₁.inv hk hds)))
   | lrefs ns=>exact bE e λl hl e=>bE e λns' hq e=>bE e λds hds e=>pE e<|(L I (vG (I.led n _ q).2) hl).elim λg₁ S₁=>S₁.inv.lrefsE (Co hq) λm t hk=>v5 (S₁.trans ⟨S₁.inv.puts (lo:= .frz (.list ds)) (eA (Gh.F_iff.mpr t) (fX S₁.inv hk hds)),.refl _ _ _⟩) (eA (Gh.F_iff.mpr t) (fX S₁.inv hk hds))
   | obj x fs=>exact bE e λl hl e=>bE e λp hq e=>bE e λds hds e=>pE e<|I.objE q λ_ _ _ _ _ _ _ r₀=>(L I r₀.lt hl).elim λg₁ S₁=>CZ S₁ (objAt hq) hds
   | byt _=>exact nE e
theorem ay.lt {a:AV} {v:Value} (r:ay c g a v):∀n,a= .r n→n<g.len:=λn e=>(show ay c g (.r n) v from e▸r).1
theorem kj {h:Heap}:∀{l:List AV} {g:Gh} {led:Led} {ds:List D} {led':Led} {vs:List Value},Inv c g led h→aQ c g l vs→bH l led=some (ds,led')→
 ∃g',Go c false g h g' led' h∧aJ c.ca g'.F ds vs
 | [],g,_,_,_,_,I,r,e=>pE e ⟨g,.refl I,r⟩
 | _::_,_,_,_,_,[],_,r,_=>r.elim
 | a::l,g,_,_,_,v::vs,I,r,e=>bE e λp hp e=>bE e λq hq e=>pE e<|(kh _ I r.1.lt hp).elim λg₁ S₁=>(kj S₁.1.inv (S₁.1.ext.repAL I r.2) hq).elim λg₂ S₂=>
   ⟨g₂,S₁.1.trans S₂.1,Rep.mono (S₂.1.ext.F S₁.1.inv) (S₁.2 v r.1),S₂.2⟩
end
end Mine
end
section
open PySem PySem.W PySem.Calls PyProof.Rows
namespace Mine
noncomputable abbrev wa {α:Type} (c:Cx) (A:Around) (t:Sem α) (Q:α→Shared→Prop) (s:Shared):Prop:=wpAny (model c.prog c.w) A t Q (λ_ _=>False) s
noncomputable def cG (c:Cx) (F:FH) (h:Heap) (d:D) (v:Value):Prop:=match d with
 | .list ds=>∃a n vs,v= .ref a∧h.get? a=some (aX vs n)∧aJ c.ca F ds vs
 | .tup ds=>∃a n vs,v= .ref a∧h.get? a=some (nJ vs n)∧aJ c.ca F ds vs
 | .dict l=>∃a o ps,v= .ref a∧(a==sysModules)=false∧h.get? a=some o∧cM o ps∧cX c.ca F l ps
 | d=>Rep c.ca F d v
inductive Pst {α:Type} (c:Cx) (env:Env) (loc:Loc) (b:Bool) (g:Gh) (h:Heap) (led':Led) (R:Gh→Heap→α→Prop) (v:α) (s':Shared):Prop where
 | mk (g':Gh) (N:Nice c env loc g' led' s') (X:Ext b g h g' s'.heap) (r:R g' s'.heap v)
noncomputable abbrev bL (c:Cx) (env:Env) (loc:Loc) (g:Gh) (h:Heap) (led':Led) (a:AV):Value→Shared→Prop:=Pst c env loc false g h led' λg' _ v=>ay c g' a v
section
variable {c:Cx} {env:Env} {loc:Loc} {g g' g₀:Gh} {led led':Led} {s s':Shared} {h h' h₀:Heap} {a:Addr} {o:Obj} {n:Nat} {F:FH} {ca:Str→Addr} {A:Around} {d x y:D} {v vx vy:Value} {ds:List D} {vs:List Value}
theorem repLE {P:List Value→Prop} {d:D} {ds:List D} (r:aJ ca F (d::ds) vs) (k:∀v vs,Rep ca F d v→aJ ca F ds vs→P (v::vs)):P vs:=by
 cases vs with
 | nil=>exact r.elim
 | cons v vs=>exact k v vs r.1 r.2
theorem aJ.len:∀{ds:List D} {vs:List Value},aJ ca F ds vs→vs.length=ds.length
 | [],_,r=>congrArg _ r
 | _::_,[],r=>r.elim
 | _::_,_::_,r=>congrArg (· +1) r.2.len
theorem aJ.append {es:List D} {ws:List Value}:∀{ds:List D} {vs:List Value},aJ ca F ds vs→aJ ca F es ws→aJ ca F (ds++es) (vs++ws)
 | [],_,r,q=>(show _=[] from r)▸q
 | _::_,[],r,_=>r.elim
 | d::ds,v::vs,r,q=>(⟨r.1,r.2.append q⟩:Rep ca F d v∧aJ ca F (ds++es) (vs++ws))
theorem aJ.at:∀{ds:List D} {vs:List Value} {n:Nat} {d:D},aJ ca F ds vs→ds[n]? =some d→∃v,vs[n]? =some v∧Rep ca F d v
 | [],_,_,_,_,e=>nomatch e
 | _::_,[],_,_,r,_=>r.elim
 | _::_,v::_,0,_,r,e=>⟨v,rfl,Option.some.inj e▸r.1⟩
 | _::_,_::_,n+1,_,r,e=>aJ.at (n:=n) r.2 e
theorem aJ.take:∀{ds:List D} {vs:List Value} (n:Nat),aJ ca F ds vs→aJ ca F (ds.take n) (vs.take n)
 | _,_,0,_=>rfl
 | [],_,n+1,r=>(show _=[] from r)▸rfl
 | _::_,[],_+1,r=>r.elim
 | _::_,_::_,n+1,r=>⟨r.1,r.2.take n⟩
theorem aJ.drop:∀{ds:List D} {vs:List Value} (n:Nat),aJ ca F ds vs→aJ ca F (ds.drop n) (vs.drop n)
 | _,_,0,r=>r
 | [],_,n+1,r=>(show _=[] from r)▸rfl
 | _::_,[],_+1,r=>r.elim
 | _::_,_::_,n+1,r=>r.2.drop n
theorem aJ.set {d:D} {v:Value} (q:Rep ca F d v):∀{ds:List D} {vs:List Value} (n:Nat),aJ ca F ds vs→aJ ca F (List.set ds n d) (List.set vs n v)
 | [],_,n,r=>(show _=[] from r)▸rfl
 | _::_,[],_,r=>r.elim
 | _::_,_::_,0,r=>⟨q,r.2⟩
 | _::_,_::_,n+1,r=>⟨r.1,r.2.set q n⟩
theorem aJ.rep (r:aJ ca F ds vs):∀n,aJ ca F (cZ ds n) (List.replicate n vs).flatten
 | 0=>rfl
 | n+1=>r.append (aJ.rep r n)
theorem bq {n:Nat} (h:fits n=true):n≤1048576:=Nat.le_of_ble_eq_true h
theorem bt {n:Nat} (h:fits n=true):n≤sizeLine:=Nat.le_trans (bq h) (by rw[sizeLine_eq];decide)
theorem jl {i:Int} (h:small i=true):i.natAbs<2 ^ 64:=Nat.le_of_ble_eq_true h
theorem rep_int (i:Int) (t:Tok):Rep ca F (.int i) (.int i t):=⟨t,rfl⟩
theorem BW (x:Str) (t:Tok):Rep ca F (.str x) (.str x t):=⟨t,rfl⟩
theorem Pst.trans {α:Type} {b:Bool} {R:Gh→Heap→α→Prop} {v:α} {g₁:Gh} {h₁:Heap} (X:Ext b g h g₁ h₁) (p:Pst c env loc b g₁ h₁ led' R v s'):Pst c env loc b g h led' R v s':=by
 cases p with
 | mk g₂ N Y r=>exact⟨g₂,N,X.trans Y,r⟩
theorem om {av:AV} (N:Nice c env loc g led s) (r:ay c g av v):bL c env loc g s.heap led av v s:=⟨g,N,.refl _ _ _,r⟩
theorem fh {av:AV} {t:Nat} (N:Nice c env loc g led s) (r:ay c g av v):bL c env loc g s.heap led av v {s with toks:=t}:=⟨g,N.toks t,.refl _ _ _,r⟩
theorem tJ (N:Nice c env loc g led s) (r:Rep c.ca g.F d v):bL c env loc g s.heap led (.v d) v s:=om N r
theorem fP {t:Nat} (N:Nice c env loc g led s) (r:Rep c.ca g.F d v):bL c env loc g s.heap led (.v d) v {s with toks:=t}:=fh N r
theorem iu {i:Int} {k:Tok} {t:Nat} (N:Nice c env loc g led s):bL c env loc g s.heap led (.v (.int i)) (.int i k) {s with toks:=t}:=fh N ⟨k,rfl⟩
theorem xb {i:Str} {k:Tok} {t:Nat} (N:Nice c env loc g led s):bL c env loc g s.heap led (.v (.str i)) (.str i k) {s with toks:=t}:=fh N ⟨k,rfl⟩
theorem pBool {i:Bool} {t:Nat} (N:Nice c env loc g led s):bL c env loc g s.heap led (.v (.bool i)) (.bool i) {s with toks:=t}:=fh N rfl
theorem k8 {av:AV} {t:Nat} (N:Nice c env loc g led s) (x:Go c false g s.heap g' led' h') (r:ay c g' av v):bL c env loc g s.heap led' av v {s with heap:=h',toks:=t}:=⟨g',N.go x,x.ext,r⟩
theorem rh {t:Nat} (N:Nice c env loc g led s) (k:∀b o,s.heap.get? b=some o→h'.get? b=some o) (ho:o.isFreed=false) (r:∀F:FH,F h'.objs.size=some o→(∀b o,g.F b=some o→F b=some o)→Rep c.ca F d (.ref h'.objs.size)):
 bL c env loc g s.heap led (.v d) (.ref h'.objs.size) {s with heap:=h'.push o,toks:=t}:=
 have K:=Go.kept (b:=false) N.inv k
 k8 N (K.trans (Go.pushFz K.inv ho)) (r _ dG (jh (cW K.inv.fresh (m:=0))))
theorem hZ {t:Nat} (N:Nice c env loc g led s) (k:∀b o,s.heap.get? b=some o→h'.get? b=some o) (r:aJ c.ca g.F ds vs):bL c env loc g s.heap led (.v (.list ds)) (.ref h'.objs.size) {s with heap:=h'.push (aX vs 0),toks:=t}:=
 rh N k rfl λF e m=>eA e (r.mono m)
theorem js {t:Nat} (N:Nice c env loc g led s) (k:∀b o,s.heap.get? b=some o→h'.get? b=some o) (r:aJ c.ca g.F ds vs):bL c env loc g s.heap led (.v (.tup ds)) (.ref h'.objs.size) {s with heap:=h'.push (nJ vs 0),toks:=t}:=
 rh N k rfl λF e m=>BV e (r.mono m)
theorem Inv.sees_rep (I:Inv c g led h) {d:D} (r:Rep c.ca g.F d v):cG c g.F h d v:=by
 cases d with
 | list ds=>exact r.imp λa r=>r.elim λvs r=>r.elim λn r=>⟨n,vs,r.1,I.fz _ _ (Gh.F_iff.mp r.2.1),r.2.2⟩
 | tup ds=>exact r.imp λa r=>r.elim λvs r=>r.elim λn r=>⟨n,vs,r.1,I.fz _ _ (Gh.F_iff.mp r.2.1),r.2.2⟩
 | dict l=>exact r.imp λa r=>r.imp λo r=>r.imp λps r=>⟨r.1,r.2.1,I.fz _ _ (Gh.F_iff.mp r.2.2.1),r.2.2.2⟩
 | _=>exact r
theorem Inv.sees (I:Inv c g led h) {a:AV} {d:D} (r:ay c g a v) (e:view led a=some d):cG c g.F h d v:=by
 cases a with
 | v d'=>exact Option.some.inj e▸I.sees_rep r
 | r n=>
   refine bE e λo q e=>?_
   rw[r.2]
   cases o with
   | list xs=>exact sE e (I.listE q λvs m t ho r=>⟨_,m,vs,rfl,ho,r⟩:cG c g.F h (.list xs) (.ref (g.adr n)))
   | dict l=>exact sE e (I.oM q λo ps t z ho hd r=>⟨_,o,ps,rfl,z,ho,hd,r⟩:cG c g.F h (.dict l) (.ref (g.adr n)))
   | frz d'=>exact sE e (I.sees_rep (I.led n _ q))
   | _=>exact nE e
@[elab_as_elim] theorem dK {W:Value→Prop} {i:Int} (e:dk d=some i) (S:cG c F h d v) (k:∀t,W (.int i t)):W v:=by rw[Cy e]at S;exact Exists.elim S λt q=>q▸k t
@[elab_as_elim] theorem gM {W:Value→Prop} {i:Str} (e:iG d=some i) (S:cG c F h d v) (k:∀t,W (.str i t)):W v:=by rw[Bz e]at S;exact Exists.elim S λt q=>q▸k t
@[elab_as_elim] theorem seesB {W:Value→Prop} {i:Bool} (e:nA d=some i) (S:cG c F h d v) (k:W (.bool i)):W v:=by rw[AX e]at S;exact(show v= .bool i from S)▸k
@[elab_as_elim] theorem cS {W:Value→Prop} {l:List D} (e:ck d=some l) (S:cG c F h d v) (k:∀a n vs,h.get? a=some (aX vs n)→aJ c.ca F l vs→W (.ref a)):W v:=by
  rw[listE e]at S;exact Exists.elim S λa q=>q.elim λn q=>q.elim λvs q=>q.1▸k a n vs q.2.1 q.2.2
@[elab_as_elim] theorem kE {W:Value→Prop} {l:List D} (e:sR d=some l) (S:cG c F h d v) (k:∀a n vs,h.get? a=some (nJ vs n)→aJ c.ca F l vs→W (.ref a)):W v:=by
  rw[tupE e]at S;exact Exists.elim S λa q=>q.elim λn q=>q.elim λvs q=>q.1▸k a n vs q.2.1 q.2.2
@[elab_as_elim] theorem u7 {W:Value→Prop} {l:List (Int×D)} (e:qt d=some l) (S:cG c F h d v) (k:∀a o ps,(a==sysModules)=false→h.get? a=some o→cM o ps→cX c.ca F l ps→W (.ref a)):W v:=by
  rw[oM e]at S;exact Exists.elim S λa q=>q.elim λn q=>q.elim λvs q=>q.1▸k a n vs q.2.1 q.2.2.1 q.2.2.2.1 q.2.2.2.2
@[elab_as_elim] theorem yY {W:Value→Prop} {n:Nat} (e:asNat d=some n) (S:cG c F h d v) (k:∀t,W (.int (n:Int) t)):W v:=by rw[natE e]at S;exact Exists.elim S λt q=>q▸k t
@[elab_as_elim] theorem lZ {W:Value→Value→Prop} {f:Int→Int→Option D} (e:rS x y f=some d) (hx:cG c F h x vx) (hy:cG c F h y vy) (k:∀a b t u,f a b=some d→W (.int a t) (.int b u)):W vx vy:=
  bE e λa ea e=>bE e λb eb e=>dK ea hx λt=>dK eb hy λu=>k a b t u e
@[elab_as_elim] theorem u9 {W:Value→Value→Prop} {f:Int→Int→Bool} {b:Bool} (e:zJ x y f=some b) (hx:cG c F h x vx) (hy:cG c F h y vy) (k:∀i j t u,f i j=b→W (.int i t) (.int j u)):W vx vy:=
  bE e λi ea e=>bE e λj eb e=>dK ea hx λt=>dK eb hy λu=>k i j t u (Option.some.inj e)
theorem mh (x:Str):∀n,(bo x n).cps=((List.replicate n x.cps.toList).flatten).toArray
 | 0=>rfl
 | n+1=>by
   show (x++bo x n).cps=_
   rw[show (x++bo x n).cps=x.cps++(bo x n).cps from rfl,mh x n,List.replicate_succ,List.flatten_cons]
   simp
theorem i6 {α:Type} (x:Array α):∀(n:Nat) (acc:Array α),(List.replicate n x).foldl (· ++ ·) acc=acc++((List.replicate n x.toList).flatten).toArray
 | 0,acc=>by simp
 | n+1,acc=>by
   rw[List.replicate_succ,List.foldl_cons,i6 x n,List.replicate_succ,List.flatten_cons,Array.append_assoc]
   congr 1
   simp
theorem Bx (x:Str) (n:Nat):Txt.mul x (n:Int)=bo x n:=by
 have e:∀{a b:Str},a.cps=b.cps→a=b:=λ{a b} h=>by cases a;cases b;exact congrArg _ h
 apply e
 rw[mh]
 unfold Txt.mul
 by_cases q:(n:Int)<1
 · rw[if_pos q]
   obtain rfl:n=0:=Nat.le_zero.mp (Nat.le_of_lt_succ (Int.ofNat_lt.mp q))
   rfl
 · rw[if_neg q]
   by_cases z:((n:Int)==1 || x.length==0)=true
   · rw[if_pos z]
     rcases Bool.or_eq_true_iff.mp z with z | z
     · obtain rfl:n=1:=Int.ofNat.inj (beq_iff_eq.mp z)
       simp
     · rw[Array.eq_empty_of_size_eq_zero (beq_iff_eq.mp z)];simp
   · rw[if_neg z]
     show List.foldl (· ++ ·) #[] (List.replicate (n:Int).toNat x.cps)=_
     rw[Int.toNat_natCast,i6];simp
theorem Cb {l:Addr} {items:Array Value} {k:Nat} {x:Int} {u:Tok} {Q:Value→Shared→Prop}
 (hl:s.heap.get? l=some {cls:= .type "list",dict:=none,data:= .seq items k,slots:=#[]})
 (hlo: -(2 ^ 63:Int)≤x) (hhi:x<2 ^ 63) (hsz:items.size * x.toNat≤2 ^ 24)
 (h:Q (.ref s.heap.objs.size) {s with heap:=s.heap.push {cls:= .type "list",data:= .seq (List.foldl (λx1 x2=>x1++x2) #[] (List.replicate (if items.isEmpty=true then 0 else x.toNat) items))}}):
 wa c A (binaryOp .Mult (.ref l) (.int x u)) Q s:=
 wpAny_binaryOp_repeat_ref (T:="list") (U:="int") (by decide) ⟨_,hl,rfl⟩ (λs'=>typeIs_int s' x u) noFill_list_mul PySem.F.fills_int_mul PySem.F.slot_int_rmul repeat_list PySem.F.slot_int_index.lookup
  (call_meets PySem.F.slot_int_rmul (typeIs_int s x u) PySem.F.entry_int_rmul (PySem.F.args_int_rmul_2 _ _) (int___rmul___int_list x u l items k)
    ⟨hl,rfl,⟨_,hl,rfl⟩,call_meets PySem.F.slot_list_mul ⟨_,hl,rfl⟩ PySem.F.entry_list_mul (PySem.F.args_list_mul_2 _ _)
      (AutoListH.list___mul___list_int_3 l items k x u (by simp[Builtin.List.listFitsIndex];lia) (by lia) (by simp[Builtin.List.listTooLong,sizeLine];lia))
      ⟨hl,h⟩⟩)
theorem w6 (vs:List Value) (n:Nat):List.foldl (λx1 x2=>x1++x2) #[] (List.replicate (if vs.toArray.isEmpty=true then 0 else n) vs.toArray)=((List.replicate n vs).flatten).toArray:=by
 rw[i6 vs.toArray _ #[]]
 cases vs with
 | nil=>simp
 | cons a l=>rw[if_neg (by simp)];simp
theorem mulOk {x:Str} {n:Nat} (h1:n≤1048576) (h2:x.length * n≤sizeLine):MulOk x (n:Int):=by
 refine⟨?_,λz _=>?_,λ_ _=>?_⟩
 · simp;lia
 · have:((2:Int) ^ 63 - 1) / (n:Int) ≥ (2 ^ 63 - 1) / 1048576:=by
    refine Int.le_ediv_of_mul_le (by lia) ?_
    have:((2:Int) ^ 63 - 1) / 1048576 * (n:Int)≤(2 ^ 63 - 1) / 1048576 * 1048576:=Int.mul_le_mul_of_nonneg_left (by lia) (by decide)
    lia
   have:x.length≤x.length * n:=Nat.le_mul_of_pos_right _ (by lia)
   rw[sizeLine_eq]at h2
   lia
 · rw[Int.toNat_natCast];simp[Builtin.Str.tooLong];exact h2
theorem nU {i:Int} (h:small i=true):Builtin.Int.intBits i≤64:=intBits_le_64 (by have:=jl h;lia) (by have:=jl h;lia)
theorem nonE {vs:List Value} {a:List D} (r:aJ ca F a vs) (h:(!a.isEmpty)=true):¬vs.toArray.isEmpty=true:=by
 cases a with
 | nil=>exact ftE h
 | cons d l=>cases vs with
   | nil=>exact r.elim
   | cons v vs=>exact λz=>by simp at z
theorem sz2 {vs ws:List Value} {a b:List D} (ra:aJ ca F a vs) (rb:aJ ca F b ws) {k:Nat} (h:a.length+b.length≤k):vs.toArray.size+ws.toArray.size≤k:=by
 rw[List.size_toArray,List.size_toArray,ra.len,rb.len];exact h
theorem wg {n:Nat} {i:Int} (h:n≤1048576) (e:i=(n:Int)):i<2 ^ 63∧ -(2 ^ 63:Int)≤i:=by lia
theorem A3 {op:Operator} (N:Nice c env loc g led s) (hx:cG c g.F s.heap x vx) (hy:cG c g.F s.heap y vy) (e:binop op x y=some d):wa c A (binaryOp op vx vy) (bL c env loc g s.heap led (.v d)) s:=by
 cases op with
 | Add=>
   cases x with
   | int a=>exact dK rfl hx λt=>bE e λb eb e=>dK eb hy λu=>sE e (PySem.P.add_int (iu N))
   | str a=>exact gM rfl hx λt=>bE e λb eb e=>gM eb hy λu=>gE e λq e=>eE e (PyProof.Rows.add_str (λt' tk=>xb N) (bt q))
   | list a=>exact cS rfl hx λp n vs hp ra=>bE e λb eb e=>cS eb hy λp' m ws hp' rb=>gE e λq e=>eE e (PySem.P.add_list hp hp' (List.append_toArray vs ws▸hZ N (λ_ _ e=>e) (ra.append rb)) (sz2 ra rb (bt q)))
   | tup a=>exact kE rfl hx λp n vs hp ra=>bE e λb eb e=>kE eb hy λp' m ws hp' rb=>gE e λq e=>aE q λq q3=>aE q λq1 q2=>eE e (PySem.P.add_tuple hp hp' (nonE ra q1) (nonE rb q2) (List.append_toArray vs ws▸js N (λ_ _ e=>e) (ra.append rb)) (sz2 ra rb (bt q3)))
   | _=>exact nE e
 | Sub=>exact lZ e hx hy λa b t u e=>sE e (PySem.P.sub_int (iu N))
 | Mult=>
   cases x with
   | int a=>exact dK rfl hx λt=>bE e λb eb e=>dK eb hy λu=>gE e λq e=>eE e (PySem.P.mul_int (iu N) (IntMulOk.of_left (aE q λq _=>nU q)))
   | str a=>exact gM rfl hx λt=>bE e λn eb e=>yY eb hy λu=>gE e λq e=>aE q λq1 q2=>eE e (PySem.SB.mul (mulOk (bq q1) (bt q2)) λt' k=>Bx a n▸xb N)
   | list a=>exact cS rfl hx λp m vs hp ra=>bE e λn eb e=>yY eb hy λu=>gE e λq e=>aE q λq1 q2=>eE e (Cb hp (wg (bq q1) rfl).2 (wg (bq q1) rfl).1 (by rw[List.size_toArray,ra.len,Int.toNat_natCast];exact bt q2) (by rw[Int.toNat_natCast,w6];exact hZ N (λ_ _ e=>e) (ra.rep n)))
   | _=>exact nE e
 | FloorDiv=>exact lZ e hx hy λa b t u e=>iE e (λ_=>nE) λhb e=>gE e λq e=>eE e (PyProof.Rows.floordiv_int hb (iu N) (.inl (PyProof.noPylong_small (Nat.le_of_ble_eq_true q))))
 | Mod=>exact lZ e hx hy λa b t u e=>iE e (λ_=>nE) λhb e=>sE e (PyProof.Rows.mod_int' hb (iu N))
 | Pow=>exact lZ e hx hy λa b t u e=>bE e λn hn e=>gE e λq e=>aE q λq1 q2=>eE e (xf hn▸PyProof.Rows.pow_int_small (by have:=Nat.le_of_ble_eq_true q2;lia) (by have:=Nat.le_of_ble_eq_true q2;lia) (jl q1) (iu N))
 | BitOr=>exact lZ e hx hy λa b t u e=>sE e (PyProof.Rows.or_int (iu N))
 | BitAnd=>exact lZ e hx hy λa b t u e=>sE e (PyProof.Rows.and_int (iu N))
 | RShift=>exact lZ e hx hy λa b t u e=>bE e λn hn e=>sE e (eE' (xf hn) (PyProof.Rows.rshift_int (Int.natCast_nonneg n) (iu N)))
 | _=>exact nE e
end
end Mine
end
section
open PySem PySem.W PySem.Calls PyProof.Rows
namespace Mine
section
variable {c:Cx} {env:Env} {loc:Loc} {g g' g₀:Gh} {led led':Led} {s s':Shared} {h h' h₀:Heap} {a:Addr} {o:Obj} {n:Nat} {F:FH} {ca:Str→Addr} {A:Around} {d x y:D} {v vx vy:Value} {ds:List D} {vs:List Value}
theorem All2.mem {α β:Type} {R:α→β→Prop} {l:List α} {m:List β} (x:All2 R l m):∀a∈l,∃b,R a b:=by
 induction x with
 | nil=>exact λa q=>nomatch q
 | cons r _ ih=>exact λa q=>(List.mem_cons.mp q).elim (λe=>e▸⟨_,r⟩) (ih a)
theorem All2.length {α β:Type} {R:α→β→Prop} {l:List α} {m:List β} (r:All2 R l m):l.length=m.length:=by
 induction r with
 | nil=>rfl
 | cons _ _ ih=>exact congrArg (· +1) ih
noncomputable abbrev iK (c:Cx):KeyKind c.prog c.w Int:=intKind c.prog c.w
theorem kL {i:Int} {t:Tok}:(iK c).is i (.int i t)=true:=by simp[intKind,Value.isInt]
theorem za {es:List DictEntry} {ps:List (Int×Value)} (x:All2 qx es ps):Pairs (iK c) es ps:=by
 induction x with
 | nil=>exact .nil
 | cons r _ ih=>exact r.1.elim λt e=> .cons (e▸kL) r.2.2 ih
theorem cM.dictOf {o:Obj} {ps:List (Int×Value)} (x:cM o ps) (ha:h.get? a=some o):h.DictOf (iK c) a ps:=
 x.2.elim λes z=>z.elim λep z=>⟨o,es,ep,ha,x.1,z.1,λe he=>(z.2.1.mem e (Array.mem_toList_iff.mpr he)).elim λp q=>q.1.elim λt k=>⟨p.1,k▸kL,q.2.1⟩,za z.2.1,z.2.2⟩
theorem Gk {p:Int×D} {l:List (Int×D)} {k:Int} (e:p.1=k):dU (p::l) k=some p.2:=if_pos e
theorem Gm {p:Int×D} {l:List (Int×D)} {k:Int} (e:¬p.1=k):dU (p::l) k=dU l k:=if_neg e
theorem wN {p:Int×Value} {l:List (Int×Value)} {k:Int} (e:p.1=k):valueAt (p::l) k=some p.2:=by unfold valueAt;rw[List.find?_cons,decide_eq_true e];rfl
theorem wO {p:Int×Value} {l:List (Int×Value)} {k:Int} (e:¬p.1=k):valueAt (p::l) k=valueAt l k:=by unfold valueAt;rw[List.find?_cons,decide_eq_false e]
inductive AtKey (ca:Str→Addr) (F:FH):Option D→Option Value→Prop
 | none:AtKey ca F none none
 | some {d:D} {v:Value} (r:Rep ca F d v):AtKey ca F (some d) (some v)
theorem cX.at (k:Int):∀{l:List (Int×D)} {ps:List (Int×Value)},cX ca F l ps→AtKey ca F (dU l k) (valueAt ps k)
 | [],_,r=>by rw[show _=[] from r];exact .none
 | (_,_)::_,[],r=>r.elim
 | (j,d)::l,p::ps,r=>dE (p:=j=k) (λe=>by rw[Gk e,wN (r.1.trans e)];exact .some r.2.1) λe=>by rw[Gm e,wO λz=>e (r.1.symm.trans z)];exact cX.at k r.2.2
theorem cX.keys:∀{l:List (Int×D)} {ps:List (Int×Value)},cX ca F l ps→ps.map (·.1)=l.map (·.1)
 | [],_,r=>congrArg _ (show _=[] from r)
 | (_,_)::_,[],r=>r.elim
 | (j,d)::l,p::ps,r=>by rw[List.map_cons,List.map_cons,cX.keys r.2.2,r.1]
theorem AtKey.same {p:Option D} {q:Option Value} (r:AtKey ca F p q):q.isSome=p.isSome:=by cases r<;>rfl
@[elab_as_elim] theorem Gz {o:Option Value} (r:AtKey ca F (some d) o) {P:Option Value→Prop} (k:∀v,Rep ca F d v→P (some v)):P o:=by cases r with | some q=>exact k _ q
noncomputable def zI (i:Int):Value→Bool
 | .int j _=>j==i
 | _=>false
noncomputable def zG (x:Str):Value→Bool
 | .str y _=>y.cps.toList==x.cps.toList
 | _=>false
theorem Dj {i j:Int}:(i==j)=decide (i=j):=rfl
theorem qh (x y:Str):(x.cps.toList==y.cps.toList)=eqS x y:=by
 rw[Bool.eq_iff_iff,aG,beq_iff_eq]
 exact⟨tw,λe=>e▸rfl⟩
theorem Bc {P:Value→Prop} {f:Value→Bool} {b b':Bool} (hv:P v) (e:f v=b) (r:(∀y∈vs,P y)∧vs.any f=b'):(∀y∈v::vs,P y)∧(v::vs).any f=(b || b'):=
 ⟨λy q=>(List.mem_cons.mp q).elim (λz=>z▸hv) (r.1 y),by rw[List.any_cons,e,r.2]⟩
theorem oD {i:Int} (t:Tok):∀{l:List D} {vs:List Value} {b:Bool},aJ ca F l vs→t5 i l=some b→(∀y∈vs,MeetsSeq.EqGives y (.int i t) (zI i y))∧vs.any (zI i)=b
 | [],_,_,r,e=>by rw[show _=[] from r];exact sE e ⟨λy q=>(nomatch q),rfl⟩
 | _::_,[],_,r,_=>r.elim
 | d::l,v::vs,b,r,e=>bE e λj hj e=>bE e λb' hb e=>sE e ((show Rep ca F (.int j) v from Cy hj▸r.1).elim λu q=>q▸Bc (MeetsSeq.EqGives.int j i u t) Dj (oD t r.2 hb))
theorem rT {x:Str} (t:Tok):∀{l:List D} {vs:List Value} {b:Bool},aJ ca F l vs→ke x l=some b→(∀y∈vs,MeetsSeq.EqGives y (.str x t) (zG x y))∧vs.any (zG x)=b
 | [],_,_,r,e=>by rw[show _=[] from r];exact sE e ⟨λy q=>(nomatch q),rfl⟩
 | _::_,[],_,r,_=>r.elim
 | d::l,v::vs,b,r,e=>bE e λy hy e=>bE e λb' hb e=>sE e ((show Rep ca F (.str y) v from Bz hy▸r.1).elim λu q=>q▸Bc (SeqRoads2.EqGives.str y x u t) (qh y x) (rT t r.2 hb))
noncomputable def nG (s:Shared) (b:Bool) (v:Value) (s':Shared):Prop:=v= .bool b∧∃t,s'={s with toks:=t}
theorem aI (b:Bool):nG s b (.bool b) s:=⟨rfl,s.toks,rfl⟩
theorem mq (b:Bool) (t:Nat):nG s b (.bool b) {s with toks:=t}:=⟨rfl,t,rfl⟩
theorem oE (k:Nat):∀l:List Nat,rU k l=decide (k∈l)
 | []=>rfl
 | d::l=>by
   show (match Nat.beq d k with | true=>true | false=>rU k l)=_
   cases h:Nat.beq d k with
   | true=>exact(decide_eq_true (Nat.eq_of_beq_eq_true h▸List.mem_cons_self)).symm
   | false=>exact(oE k l).trans (decide_eq_decide.mpr ⟨List.mem_cons_of_mem _,λq=>(List.mem_cons.mp q).resolve_left λe=>Nat.ne_of_beq_eq_false h e.symm⟩)
theorem u1 {x:Str} {k:Nat} (h:one? x.cps.toList=some k):x=⟨#[k]⟩:=tw (rm h)
noncomputable abbrev Dt (c:Cx) (A:Around) (op op':CmpOp) (vx vy:Value) (b:Bool) (s:Shared):Prop:=wa c A (compareOp op vx vy) (nG s b) s∧wa c A (compareOp op' vx vy) (nG s (!b)) s
theorem zK {b:Bool} (hx:cG c F s.heap x vx) (hy:cG c F s.heap y vy) (e:inD x y=some b):Dt c A .In .NotIn vx vy b s:=by
 have arr:∀{P:Value→Prop} {vs:List Value},(∀y∈vs,P y)→∀y∈vs.toArray,P y:=λh y q=>h y (Array.mem_toList_iff.mpr q)
 cases x with
 | int i=>
   refine dK rfl hx λt=>?_
   cases y with
   | tup l=>exact kE rfl hy λa n vs ha ra=>have q:=oD t ra e;⟨SeqRoads2.in_tuple _ (arr q.1) ha (by rw[List.any_toArray,q.2];exact aI _),SeqRoads2.notIn_tuple _ (arr q.1) ha (by rw[List.any_toArray,q.2];exact aI _)⟩
   | dict l=>
     refine u7 rfl hy λa o ps hs ha hd rk=>?_
     have hm:=Heap.DictOf.mapOf (hd.dictOf (c:=c) ha)
     have q:=(cX.at i rk).same
     exact sE e ⟨wpAny_in_of (knd:=iK c) (k:=i) kL hs hm (q▸mq _ _),wpAny_notIn_of (knd:=iK c) (k:=i) kL hs hm (q▸mq _ _)⟩
   | _=>exact nE e
 | str x=>
   refine gM rfl hx λt=>?_
   cases y with
   | list l=>exact cS rfl hy λa n vs ha ra=>have q:=rT t ra e;⟨SeqRoads2.in_list _ (arr q.1) ha (by rw[List.any_toArray,q.2];exact aI _),SeqRoads2.notIn_list _ (arr q.1) ha (by rw[List.any_toArray,q.2];exact aI _)⟩
   | str y=>
     refine gM rfl hy λu=>bE e λk hk e=>sE e ?_
     have q:Txt.contains y x=rU k y.cps.toList:=by rw[u1 hk,oE];exact StrLaws.found_one y k
     exact⟨PySem.SB.contains (q▸aI _),PySem.SB.notContains (q▸aI _)⟩
   | _=>exact nE e
 | _=>exact nE e
theorem Gf {l m:List D} {b:Bool} (hu:A.units<cLine) {p q:Addr} {n k:Nat} {vs ws:List Value} (ha:s.heap.get? p=some (aX vs n)) (ra:aJ ca F l vs) (hb:s.heap.get? q=some (aX ws k)) (rb:aJ ca F m ws) (e:eqL l m=some b):Dt c A .Eq .NotEq (.ref p) (.ref q) b s:=by
 have far:(vs.toArray.size != ws.toArray.size)=true→Dt c A .Eq .NotEq (.ref p) (.ref q) false s:=λne=>
  ⟨PySem.P.eq_list_lengths ha hb ne hu (aI _),cmp_ofNotEq (SeqAt.RcNeAt.lists_lengths ⟨_,ha,rfl,_,rfl⟩ ⟨_,hb,rfl,_,rfl⟩ ne hu _ _ _ _ (aI _))⟩
 have l1:=ra.len
 have l2:=rb.len
 cases l with
 | nil=>
   cases m with
   | nil=>
     obtain rfl:vs=[]:=ra
     obtain rfl:ws=[]:=rb
     exact sE e ⟨PySem.P.eq_list (e:=λ_=>true) ha hb rfl (λj h1=>absurd h1 (Nat.not_lt_zero _)) hu (aI _),cmp_ofNotEq (SeqAt.RcNeAt.lists (e:=λ_=>true) ⟨_,ha,rfl,_,rfl⟩ ⟨_,hb,rfl,_,rfl⟩ rfl hu (λj h1=>absurd h1 (Nat.not_lt_zero _)) _ _ _ _ (aI _))⟩
   | cons _ _=>exact sE e (far (by rw[List.size_toArray,List.size_toArray,l1,l2];rfl))
 | cons _ _=>
   cases m with
   | nil=>exact sE e (far (by rw[List.size_toArray,List.size_toArray,l1,l2];rfl))
   | cons _ _=>exact nE e
theorem Av {b:Bool} (hu:A.units<cLine) (hx:cG c F s.heap x vx) (hy:cG c F s.heap y vy) (e:eqD x y=some b):Dt c A .Eq .NotEq vx vy b s:=by
 cases x with
 | int i=>exact dK rfl hx λt=>bE e λj hj e=>dK hj hy λu=>sE e ⟨PySem.P.eq_int (aI _),PySem.P.ne_int (aI _)⟩
 | str i=>exact gM rfl hx λt=>bE e λj hj e=>gM hj hy λu=>sE e ⟨PySem.P.eq_str (qh i j▸aI _),PySem.P.ne_str (by rw[bne,qh];exact aI _)⟩
 | list l=>exact cS rfl hx λa n vs ha ra=>bE e λm hm e=>cS hm hy λb k ws hb rb=>Gf hu ha ra hb rb e
 | _=>exact nE e
theorem pC (r:Rep ca F x v):PySem.plainIs v .none=true∧(v== .none)=isNone x:=by
 have R:∀{P:Addr→Prop} {d:D},isNone d=false→(∃a,P a∧v= .ref a)→PySem.plainIs v .none=true∧(v== .none)=isNone d:=λh z=>z.elim λa q=>by rw[q.2,h];exact⟨rfl,rfl⟩
 cases x with
 | none=>rw[show v= .none from r];exact⟨rfl,rfl⟩
 | bool b=>rw[show v= .bool b from r];exact⟨rfl,rfl⟩
 | int=>exact r.elim λt q=>q▸⟨rfl,rfl⟩
 | str=>exact r.elim λt q=>q▸⟨rfl,rfl⟩
 | byt=>exact r.elim λt q=>q▸⟨rfl,rfl⟩
 | list=>exact R rfl (r.imp λa z=>z.elim λ_ z=>z.elim λ_ z=>⟨trivial,z.1⟩)
 | tup=>exact R rfl (r.imp λa z=>z.elim λ_ z=>z.elim λ_ z=>⟨trivial,z.1⟩)
 | dict=>exact R rfl (r.imp λa z=>z.elim λ_ z=>z.elim λ_ z=>⟨trivial,z.1⟩)
 | obj=>exact R rfl (r.imp λa z=>z.elim λ_ z=>z.elim λ_ z=>z.elim λ_ z=>⟨trivial,z.1⟩)
theorem dD (r:cG c F h x v):PySem.plainIs v .none=true∧(v== .none)=isNone x:=by
 cases x with
 | list=>exact r.elim λa z=>z.elim λ_ z=>z.elim λ_ z=>z.1▸⟨rfl,rfl⟩
 | tup=>exact r.elim λa z=>z.elim λ_ z=>z.elim λ_ z=>z.1▸⟨rfl,rfl⟩
 | dict=>exact r.elim λa z=>z.elim λ_ z=>z.elim λ_ z=>z.1▸⟨rfl,rfl⟩
 | _=>exact pC (ca:=c.ca) (F:=F) r
theorem ot {b b':Bool} {op:CmpOp} (hy:cG c F h y vy) (e:tK y b=some b') (k:wa c A (compareOp op vx .none) (nG s b) s):wa c A (compareOp op vx vy) (nG s b') s:=by
 cases y with
 | none=>exact sE e ((show vy= .none from hy)▸k)
 | _=>exact nE e
theorem Gr {op:CmpOp} {b:Bool} (hu:A.units<cLine) (hx:cG c F s.heap x vx) (hy:cG c F s.heap y vy) (e:cmp op x y=some b):wa c A (compareOp op vx vy) (nG s b) s:=by
 cases op with
 | Eq=>exact(Av hu hx hy e).1
 | NotEq=>exact mE e λb hb e=>sE e (Av hu hx hy hb).2
 | Lt=>exact u9 e hx hy λi j t u e=>e▸PySem.P.lt_int (aI _)
 | LtE=>exact u9 e hx hy λi j t u e=>e▸PySem.P.le_int (aI _)
 | Gt=>exact u9 e hx hy λi j t u e=>e▸PySem.P.gt_int (aI _)
 | GtE=>exact u9 e hx hy λi j t u e=>e▸PySem.P.ge_int (aI _)
 | Is=>exact ot hy e (wpAny_is_plain (dD hx).1 ((dD hx).2▸aI _))
 | IsNot=>exact ot hy e (wpAny_isNot_plain (dD hx).1 ((dD hx).2▸aI (!(vx== .none))))
 | In=>exact(zK hx hy e).1
 | NotIn=>exact mE e λb hb e=>sE e (zK hx hy hb).2
@[elab_as_elim] theorem qr {α:Type} {l:List α} {i:Int} {a:α} (e:at? l i=some a) {P:Int→Prop} (k:∀n:Nat,n≤1048576→l[n]? =some a→P n):P i:=
  bE e λn hn e=>tE e λq e=>xf hn▸k n (bq q) e
theorem jo {n m:Nat} (h:n<m):seqIndex? (n:Int) m=some n:=by
 unfold seqIndex?
 rw[if_neg (Int.not_lt.mpr (Int.natCast_nonneg n))]
 simp[h]
theorem wy {vs:List Value} {n:Nat} (e:vs[n]? =some v):vs.toArray[n]? =some v:=(List.getElem?_toArray ..).trans e
theorem jD {n:Nat} (h:n≤1048576):0≤(n:Int)∧(n:Int)<2 ^ 63∧ -(2 ^ 63:Int)≤(n:Int):=by lia
theorem Cv {k:D} {vk:Value} (N:Nice c env loc g led s) (hx:cG c g.F s.heap x vx) (hk:cG c g.F s.heap k vk) (e:item x k=some d):wa c A (getItem vx vk) (bL c env loc g s.heap led (.v d)) s:=by
 cases x with
 | list l=>exact cS rfl hx λa n vs ha ra=>bE e λi hi e=>dK hi hk λt=>qr e λj q1 q2=>(ra.at q2).elim λv z=>wpAny_getItem_list (x:=v) ⟨_,ha,rfl,_,rfl⟩ (jD q1).1 (jD q1).2.1 (wy z.1) (tJ N z.2)
 | tup l=>exact kE rfl hx λa n vs ha ra=>bE e λi hi e=>dK hi hk λt=>qr e λj q1 q2=>(ra.at q2).elim λv z=>PySem.P.getItem_tuple (y:=v) (k:=j) ha (jD q1).2.2 (jD q1).2.1 (jo (by rw[List.size_toArray];exact vF z.1)) (wy z.1) (tJ N z.2)
 | str x=>exact gM rfl hx λt=>bE e λi hi e=>dK hi hk λu=>mE e λch q e=>sE e (qr q λj q1 q2=>PySem.P.getItem_str (c:=ch) (by simp;lia) (by rw[Str.length,jo (by have:=vF q2;rwa [Array.length_toList]at this)];simpa using q2) (xb N))
 | dict l=>exact u7 rfl hx λa o ps hs ha hd rk=>bE e λi hi e=>dK hi hk λu=>Gz (e▸cX.at i rk) (P:=λo=>valueAt ps i=o→wa c A (getItem (.ref a) (.int i u)) (bL c env loc g s.heap led (.v d)) s) (λv rv hv=>wpAny_getItem_of (knd:=iK c) (k:=i) kL (Heap.DictOf.mapOf (hd.dictOf ha)) hv (fP N rv)) rfl
 | _=>exact nE e
theorem nr (n:Nat) (i:Int):clipAt n i=bound i n:=by
 cases i with
 | ofNat m=>exact clipAt_nat ..
 | negSucc m=>exact clipAt_neg _ (m+1) (Nat.succ_pos m)
theorem zr {n j:Nat} {a:D} (e:lower n a=some j) (r:Rep ca F a v):∃p,IsPart v p∧j=p.elim 0 (clipAt n):=by
 cases a with
 | none=>exact(show v=_ from r)▸sE e ⟨_,.none,rfl⟩
 | int i=>exact r.elim λt q=>q▸sE e ⟨_,.int i t,(nr _ _).symm⟩
 | _=>exact nE e
theorem yv {n j:Nat} {a:D} (e:upper n a=some j) (r:Rep ca F a v):∃p,IsPart v p∧j=p.elim n (clipAt n):=by
 cases a with
 | none=>exact(show v=_ from r)▸sE e ⟨_,.none,rfl⟩
 | int i=>exact r.elim λt q=>q▸sE e ⟨_,.int i t,(nr _ _).symm⟩
 | _=>exact nE e
theorem AH {l r:List D} {a b:D} {va vb:Value} (e:cut l a b=some r) (hl:aJ ca F l vs) (ra:Rep ca F a va) (rb:Rep ca F b vb):
 l.length≤1048576∧∃lo hi,IsPart va lo∧IsPart vb hi∧∃ws,slicePick vs.toArray lo hi none=ws.toArray∧aJ ca F r ws:=
 tE e λq e=>bE e λi hi e=>bE e λj hj e=>⟨bq q,(zr (hl.len▸hi) ra).elim λlo z1=>(yv (hl.len▸hj) rb).elim λhi' z2=>sE e ⟨lo,hi',z1.1,z2.1,_,by rw[slicePick_plain,z1.2,z2.2];simp,(hl.drop _).take _⟩⟩
theorem Cw {d:D} (h:isNone d=true) (r:Rep ca F d v):v= .none:=by
 cases d with
 | none=>exact r
 | _=>exact ftE h
theorem yU {p q:D} {va vb:Value} {sl:Addr} (N:Nice c env loc g led s) (hx:cG c g.F s.heap x vx) (ra:Rep c.ca g.F p va) (rb:Rep c.ca g.F q vb) (hs:s.heap.IsSliceOf sl va vb .none) (e:slice x p q=some d):
 wa c A (getItem vx (.ref sl)) (bL c env loc g s.heap led (.v d)) s:=by
 cases x with
 | list l=>exact cS rfl hx λa n vs ha rl=>mE e λr hr e=>have z:=AH hr rl ra rb;z.2.elim λlo y=>y.elim λhi y=>y.2.2.elim λws w=>sE e (wpAny_getItem_list_slice ⟨_,ha,rfl,_,rfl⟩ hs y.1 y.2.1 .none (λh=>nomatch h) (w.1▸hZ N (λ_ _ e=>e) w.2) (by rw[List.size_toArray,rl.len,sizeLine_eq];exact Nat.le_trans z.1 (by decide)))
 | tup l=>
   refine kE rfl hx λa n vs ha rl=>bE e λm hm e=>gE e λz e=>aE z λz q4=>aE z λz q3=>aE z λq1 q2=>eE e ?_
   refine(show Rep c.ca g.F (.int (m:Int)) va from natE hm▸ra).elim λt z=>?_
   rw[z,Cw q1 rb]at hs
   exact getItem_tuple_from (a:=m) ⟨_,ha,rfl,_,rfl⟩ hs (Nat.le_of_ble_eq_true q2) (by rw[List.size_toArray,rl.len];exact Nat.le_of_ble_eq_true q4) (js N (λ_ _ e=>e) (rl.drop _)) (by rw[List.size_toArray,rl.len];exact bt q3)
 | _=>exact nE e
end
end Mine
end
section
open PySem PySem.W PySem.Calls PyProof.Rows
namespace Mine
section
variable {c:Cx} {env:Env} {loc:Loc} {g g' g₀:Gh} {led led':Led} {s s':Shared} {h h' h₀:Heap} {a:Addr} {o:Obj} {n:Nat} {F:FH} {ca:Str→Addr} {A:Around} {d x y:D} {v vx vy:Value} {ds:List D} {vs:List Value}
theorem Ft {k:Nat} (N:Nice c env loc g led s) (hx:cG c g.F s.heap x vx) (e:Fv x=some k):wa c A (call (.builtin "len") [vx]) (bL c env loc g s.heap led (.v (.int k))) s:=by
 cases x with
 | list l=>exact cS rfl hx λa n vs ha ra=>tE e λq e=>sE e (call_len_list ⟨_,ha,rfl,_,rfl⟩ (by rw[List.size_toArray,ra.len];exact(jD (bq q)).2.1) (by rw[List.size_toArray,ra.len];exact iu N))
 | tup l=>exact kE rfl hx λa n vs ha ra=>tE e λq e=>sE e (PySem.P.len_tuple ha (by rw[List.size_toArray,ra.len];exact Int.not_le.mpr (jD (bq q)).2.1) (by rw[List.size_toArray,ra.len];exact iu N))
 | str x=>exact gM rfl hx λt=>tE e λq e=>sE e (PySem.P.len_str (Int.not_le.mpr (jD (bq q)).2.1) (iu N))
 | _=>exact nE e
theorem rx {i:Int} (h:small i=true):i.natAbs.log2<1920:=dE (p:=i.natAbs=0) (λz=>by rw[z];decide) λz=>Nat.lt_of_lt_of_le ((Nat.log2_lt z).mpr (jl h)) (by decide)
theorem qo:∀{ds:List D} {vs:List Value} {bs:List Bool},aJ ca F ds vs→bools ds=some bs→vs=bs.map .bool
 | [],_,_,r,e=>sE e r
 | _::_,[],_,r,_=>r.elim
 | d::ds,v::vs,_,r,e=>bE e λb hb e=>bE e λbs hbs e=>sE e (by
   have r1:=r.1
   rw[AX hb]at r1
   rw[show v= .bool b from r1,qo r.2 hbs];rfl)
theorem wB:∀bs:List Bool,anyB bs=bs.any id
 | []=>rfl
 | b::l=>congrArg (b || ·) (wB l)
theorem wC:∀bs:List Bool,allB bs=bs.all id
 | []=>rfl
 | b::l=>congrArg (b&& ·) (wC l)
theorem getD_at {bs:List Bool} {i:Nat} (lt:i<bs.length):(bs[i]?).getD false=bs[i]:=by rw[List.getElem?_eq_getElem lt];rfl
theorem range_any (bs:List Bool):(List.range bs.length).any (λi=>(bs[i]?).getD false)=anyB bs:=by
 rw[wB,Bool.eq_iff_iff,List.any_eq_true,List.any_eq_true]
 exact⟨λ⟨i,hi,e⟩=>⟨_,List.getElem_mem (List.mem_range.mp hi),(getD_at (List.mem_range.mp hi)).symm.trans e⟩,λ⟨b,hb,e⟩=>(List.getElem_of_mem hb).elim λi z=>z.elim λlt q=>⟨i,List.mem_range.mpr lt,(getD_at lt).trans (q.trans e)⟩⟩
theorem range_all (bs:List Bool):(List.range bs.length).all (λi=>(bs[i]?).getD false)=allB bs:=by
 rw[wC,Bool.eq_iff_iff,List.all_eq_true,List.all_eq_true]
 exact⟨λe b hb=>(List.getElem_of_mem hb).elim λi z=>z.elim λlt q=>q▸(getD_at lt).symm.trans (e i (List.mem_range.mpr lt)),λe i hi=>(getD_at (List.mem_range.mp hi)).trans (e _ (List.getElem_mem _))⟩
theorem iy (bs:List Bool):TruthOf c.prog c.w A (λi v=>(bs.map Value.bool).toArray[i]? =some v) (λi=>(bs[i]?).getD false):=by
 intro i v s Q E hv hQ
 rw[List.getElem?_toArray,List.getElem?_map]at hv
 exact mE hv λb hb e=>by cases e;exact wpAny_truthy_bool ((congrArg (·.getD false) hb:_=b)▸hQ)
theorem xn {o:Obj} {h₁:Heap} (k:∀b o',b∉[h.objs.size]→(h.push o).get? b=some o'→h₁.get? b=some o'):∀b o',h.get? b=some o'→h₁.get? b=some o':=λb o' e=>
 k b o' (by rw[List.mem_singleton];exact Nat.ne_of_lt (Heap.lt_size e)) (bh b o' e)
theorem DY {b:Bool} {t:Nat} {o:Obj} (N:Nice c env loc g led s) (k:∀b o',b∉[s.heap.objs.size]→(s.heap.push o).get? b=some o'→h'.get? b=some o'):bL c env loc g s.heap led (.v (.bool b)) (.bool b) {s with heap:=h',toks:=t}:=k8 N (.kept N.inv (xn k)) rfl
theorem any_v {l:List D} {b:Bool} (hA:A.handled=none) (N:Nice c env loc g led s) (ha:s.heap.get? a=some (aX vs n)) (ra:aJ c.ca g.F l vs) (e:Dn l=some b):wa c A (call (.builtin "any") [.ref a]) (bL c env loc g s.heap led (.v (.bool b))) s:=
 mE e λbs hb e=>by
  obtain rfl:=qo ra hb
  refine call_any_walk (wpAny_pyIter_list ⟨_,ha,rfl,_,rfl⟩ ⟨s.heap.objs.size,_,_,_,_,_,λi=>(bs[i]?).getD false,rfl,Walks.list (A:=A.in1) hA _ a (Nat.ne_of_lt (Heap.lt_size ha)) _,⟨⟨_,Heap.get?_push_size _ rfl,rfl,rfl⟩,⟨_,bh _ _ ha,rfl,_,rfl⟩⟩,iy bs,λh' tk k=>?_⟩)
  rw[List.size_toArray,List.length_map,range_any]
  exact sE e (DY N k)
theorem all_v {l:List D} {b:Bool} (hA:A.handled=none) (N:Nice c env loc g led s) (ha:s.heap.get? a=some (aX vs n)) (ra:aJ c.ca g.F l vs) (e:Dp l=some b):wa c A (call (.builtin "all") [.ref a]) (bL c env loc g s.heap led (.v (.bool b))) s:=
 mE e λbs hb e=>by
  obtain rfl:=qo ra hb
  refine call_all_walk (wpAny_pyIter_list ⟨_,ha,rfl,_,rfl⟩ ⟨s.heap.objs.size,_,_,_,_,_,λi=>(bs[i]?).getD false,rfl,Walks.list (A:=A.in1) hA _ a (Nat.ne_of_lt (Heap.lt_size ha)) _,⟨⟨_,Heap.get?_push_size _ rfl,rfl,rfl⟩,⟨_,bh _ _ ha,rfl,_,rfl⟩⟩,iy bs,λh' tk k=>?_⟩)
  rw[List.size_toArray,List.length_map,range_all]
  exact sE e (DY N k)
theorem xX {f:Blt} (hA:A.handled=none) (N:Nice c env loc g led s) (hx:cG c g.F s.heap x vx) (e:f5 f x=some d):wa c A (call (AZ f) [vx]) (bL c env loc g s.heap led (.v d)) s:=by
 cases f with
 | len=>exact bE e λk hk e=>sE e (Ft N hx hk)
 | str=>exact bE e λi hi e=>dK hi hx λt=>gE e λq e=>eE e (PySem.P.str_of_int (rx q) (xb N))
 | int=>exact bE e λi hi e=>seesB hi hx (sE e (call_int_bool (iu N)))
 | ord=>exact bE e λi hi e=>gM hi hx λt=>bE e λk hk e=>sE e (u1 hk▸PySem.P.ord_of_char (iu N))
 | chr=>exact bE e λm hm e=>yY hm hx λt=>gE e λq e=>eE e (PySem.P.chr_of_int (by have:=Nat.le_of_ble_eq_true q;simp;lia) (xb N))
 | any=>exact bE e λl hl e=>cS hl hx λa n vs ha ra=>mE e λb hb e=>sE e (any_v hA N ha ra hb)
 | all=>exact bE e λl hl e=>cS hl hx λa n vs ha ra=>mE e λb hb e=>sE e (all_v hA N ha ra hb)
 | tuple=>exact bE e λl hl e=>cS hl hx λa n vs ha ra=>gE e λq e=>eE e (call_tuple_list ⟨_,ha,rfl,_,rfl⟩ (λh' k=>js N k ra) (by rw[List.size_toArray,ra.len];exact bt q))
 | _=>exact nE e
end
end Mine
end
section
open PySem PySem.W PySem.Calls PyProof.Rows
namespace Mine
noncomputable def wp {α:Type} (c:Cx) (A:Around) (t:Sem α) (Q:α→Shared→Prop) (s:Shared):Prop:=
 ∀Γ p,Γ.In A→Good Γ→Sem.wp (model c.prog c.w) Γ t (λa _ s'=>Q a s') (λ_ _ _=>False) p s
noncomputable def cd (c:Cx) (A:Around) (k:Code) (R:Result→Shared→Prop) (s:Shared):Prop:=
 ∀Γ p,Γ.code=k→Γ.Below A→Good Γ→wpCode (model c.prog c.w) Γ R p s
noncomputable def okR {α:Type} (Q:Flow→Shared→Prop) (r:Except α Flow) (s':Shared):Prop:=match r with
 | .ok f=>Q f s'
 | .error _=>False
noncomputable def retF (Q:Value→Shared→Prop) (f:Flow) (s':Shared):Prop:=match f with
 | .ret v=>Q v s'
 | _=>False
noncomputable abbrev qZ (Q:Value→Shared→Prop):Result→Shared→Prop:=okR (retF Q)
section
variable {α β:Type} {c:Cx} {A:Around} {s:Shared} {t t' m:Sem α} {f:α→Sem β} {Q Q':α→Shared→Prop} {k k':Code} {R R':Result→Shared→Prop} {env:Env}
theorem au (h:wa c A t Q s):wp c A t Q s:=λΓ p hΓ _=>h Γ p hΓ
theorem cany (h:codeAny (model c.prog c.w) A k R s):cd c A k R s:=λΓ p hc hΓ _=>h Γ p hc hΓ
theorem aw {a:α} (h:Q a s):wp c A (pure a) Q s:=au (wpAny_pure h)
theorem weq (e:t=t') (h:wp c A t' Q s):wp c A t Q s:=e▸h
theorem wofEq {a:α} (e:t=pure a) (h:Q a s):wp c A t Q s:=weq e (aw h)
theorem bc (h:wp c A t Q s) (hQ:∀a s,Q a s→Q' a s):wp c A t Q' s:=λΓ p hΓ hg=>Sem.wp_mono _ Γ t (λa _ s=>hQ a s) (λ_ _ _ e=>e) p s (h Γ p hΓ hg)
theorem ah {Q:β→Shared→Prop} (h:wp c A m (λa s'=>wp c A (f a) Q s') s):wp c A (m>>=f) Q s:=λΓ p hΓ hg=>(Sem.wp_bind' ..).symm▸Sem.wp_mono _ Γ m (λa p' s' h'=>h' Γ p' hΓ hg) (λ_ _ _ h'=>h') p s (h Γ p hΓ hg)
theorem bV {P:α→Shared→Prop} {Q:β→Shared→Prop} (h:wp c A m P s) (k:∀a s',P a s'→wp c A (f a) Q s'):wp c A (m>>=f) Q s:=ah (bc h k)
theorem gp {a:α} {Q:β→Shared→Prop} (e:m=pure a) (h:wp c A (f a) Q s):wp c A (m>>=f) Q s:=ah (wofEq e h)
theorem fL {a:α} {Q:β→Shared→Prop} (h:wp c A (f a) Q s):wp c A (pure a>>=f) Q s:=ah (aw h)
theorem wif {p:Prop} [Decidable p] (h:wp c A t Q s) (h':wp c A t' Q s):wp c A (if p then t else t') Q s:=dE (p:=p) (λz=>weq (if_pos z) h) λz=>weq (if_neg z) h'
theorem iH {k:Value→Sem Unit} (h:wp c A m Q s):wp c A (m.onRaise k) Q s:=λΓ p hΓ hg=>(Sem.wp_onRaise ..).symm▸Sem.wp_mono _ Γ m (λ_ _ _ h'=>h') (λ_ _ _ h'=>h'.elim) p s (h Γ p hΓ hg)
theorem watt {Q:Except Value α→Shared→Prop} (h:wp c A m (λa=>Q (.ok a)) s):wp c A m.attempt Q s:=λΓ p hΓ hg=>(Sem.wp_attempt ..).symm▸Sem.wp_mono _ Γ m (λ_ _ _ h'=>h') (λ_ _ _ h'=>h'.elim) p s (h Γ p hΓ hg)
theorem wtry {k:Value→Sem α} (h:wp c A m Q s):wp c A (tryCatch m k) Q s:=λΓ p hΓ hg=>(Sem.wp_tryCatch' ..).symm▸Sem.wp_mono _ Γ m (λ_ _ _ h'=>h') (λ_ _ _ h'=>h'.elim) p s (h Γ p hΓ hg)
theorem aK {vs:List Value} (h:wp c A m Q s):wp c A (holding vs m) Q s:=λΓ p hΓ hg=>(Sem.wp_holding ..).symm▸h Γ p hΓ hg
theorem wkeep {vs:List Value} (h:wp c A m Q s):wp c A (m.keep vs) Q s:=λΓ p hΓ hg=>(Sem.wp_keep ..).symm▸h Γ p hΓ hg
theorem n9 {vs:List Value} {m:Sem Value} {Q:Value→Shared→Prop} (h:wp c A m Q s):wp c A (operate vs m) Q s:=λΓ p hΓ hg=>(Sem.wp_operate ..).symm▸h Γ p hΓ hg
theorem ym {x:Str} {v:Value} {Q:Unit→Shared→Prop} (h:wp c A (storeName env x v) Q s):wp c A (bindName env x v) Q s:=λΓ p hΓ hg=>(Sem.wp_bindName ..).symm▸h Γ p hΓ hg
theorem aA {pos:Pos} {f:Unit→Sem β} {Q:β→Shared→Prop} (h:wp c A (f ()) Q s):wp c A (standAt pos>>=f) Q s:=ah (au (wpAny_standAt h))
theorem uP {tag:String} {f:Unit→Sem β} {Q:β→Shared→Prop} (h:wp c A (f ()) Q s):wp c A (rule tag>>=f) Q s:=ah (au (wpAny_rule h))
theorem wtmp {base:Expr} {o r:Value} {f:Unit→Sem β} {Q:β→Shared→Prop} (h:wp c A (f ()) Q s):wp c A (letTemporaryGo base o r>>=f) Q s:=ah (au (wpAny_letTemporaryGo h))
theorem jX {b:Bool} {Q:Bool→Shared→Prop} (h:Q b s):wp c A (truthy (.bool b)) Q s:=au (wpAny_truthy_bool h)
theorem yl {x:Str} {pos:Pos} {v:Value} {Q:Unit→Shared→Prop} (h:wp c A (storeName env x v) Q s):wp c A (assign (.Name x pos) env v) Q s:=weq (arm_assign_Name ..) (aA (ym h))
theorem Good.enter {Γ:Ctx} (g:Good Γ) (hd:Option Value) (p:Pos) (hc:isBad k=false):Good (Γ.enter k hd p):=⟨hc,λx hx=>(List.mem_cons.mp (show x∈(Γ.code,p)::Γ.below from hx)).elim (λe=>e▸g.1) (g.2 x)⟩
theorem DL {Q:Flow→Shared→Prop} (hb:isBad k=false) (hc:cd c A k (okR Q) s):wp c A (run k) Q s:=λΓ p hΓ hg=>(Sem.wp_run ..).symm▸wpCode_mono (λr s' q=>by cases r<;>exact q) (hc _ p rfl (hΓ.enter k none p λz=>nomatch z) (hg.enter none p hb))
theorem Bw {Q:Flow→Shared→Prop} (hb:isBad k=false) (hc:cd c A k (okR Q) s):wp c A (runOwn k env) Q s:=iH (DL hb hc)
theorem wrunV {Q:Value→Shared→Prop} (hb:isBad k=false) (hc:cd c A k (qZ Q) s):wp c A (runValue k) Q s:=λΓ p hΓ hg=>(Sem.wp_runValue ..).symm▸wpCode_mono (λr s' q=>by rcases r with e | (v | _ | _ | _)<;>exact q) (hc _ p rfl (hΓ.enter k none p λz=>nomatch z) (hg.enter none p hb))
theorem iw {f:Value} {pos:List Value} {kw:List (Str×Value)} {Q:Value→Shared→Prop} (hc:cd c A (.call f ⟨pos,kw⟩) (qZ Q) s):wp c A (PySem.call f pos kw) Q s:=wrunV rfl hc
theorem AM (h:cd c A k R s) (hR:∀r s,R r s→R' r s):cd c A k R' s:=λΓ p hc hΓ hg=>wpCode_mono hR (h Γ p hc hΓ hg)
noncomputable def uz (c:Cx) (A:Around) (R:Result→Shared→Prop) (fin:PySem.Fin) (s':Shared):Prop:=match fin with
 | .done f=>R (.ok f) s'
 | .again k=>k.quiet=true∧isBad k=false∧cd c A k R s'
theorem gY (h:wp c (A.under k) ((model c.prog c.w).den k) (uz c A R) s):cd c A k R s:=λΓ p hc hΓ hg=>by
 rw[wpCode_iff_wp,hc]
 refine Sem.wp_mono _ Γ _ (λfin p' s' h'=>?_) (λ_ _ _ h'=>h'.elim) p s (h Γ p (hc▸hΓ.in) hg)
 cases fin with
 | done f=>exact h'
 | again k'=>exact⟨h'.1,h'.2.2 (Γ.goto k') p' rfl (hΓ.goto k') ⟨h'.2.1,hg.2⟩⟩
noncomputable def Turn (c:Cx) (A:Around) (k:Code) (I:Nat→Shared→Prop) (n:Nat) (R:Result→Shared→Prop) (fin:PySem.Fin) (s':Shared):Prop:=match fin with
 | .done f=>R (.ok f) s'
 | .again k'=>(k'=k∧∃m,m<n∧I m s')∨(k'.quiet=true∧isBad k'=false∧cd c A k' R s')
theorem Eg (hq:k.quiet=true) (hb:isBad k=false) (I:Nat→Shared→Prop) (turn:∀n s,I n s→wp c (A.under k) ((model c.prog c.w).den k) (Turn c A k I n R) s) (n:Nat) (h:I n s):cd c A k R s:=by
 induction n using Nat.strongRecOn generalizing s with
 | ind n ih=>
   refine gY (bc (turn n s h) λfin s' hf=>?_)
   cases fin with
   | done f=>exact hf
   | again k'=>exact hf.elim (λz=>z.1▸⟨hq,hb,z.2.elim λm q=>ih m q.1 q.2⟩) id
theorem wspl0 {Q:List Value→Shared→Prop} (h:Q [] s):wp c A (spliced []) Q s:=aw h
theorem wspl {x:Sem Value} {rest:List (Bool×Sem Value)} {Q:List Value→Shared→Prop} (h:wp c A x (λv s₁=>wp c A (spliced rest) (λvs s₂=>Q (v::vs) s₂) s₁) s):wp c A (spliced ((false,x)::rest)) Q s:=by
 refine weq (by rw[spliced]) (bV h λv s₁ h₁=>?_)
 exact weq (t':=(do let a←pure [v];let rest←holding a (spliced rest);pure (a++rest))) rfl (fL (ah (aK (bc h₁ λvs s₂ h₂=>aw h₂))))
theorem wargs {f:Value} {x:Sem Value} {rest:List (Bool×Sem Value)} {Q:Args→Shared→Prop} (h:wp c A (spliced ((false,x)::rest)) (λvs s'=>Q ⟨vs,[]⟩ s') s):wp c A (evalArgs f true ((false,x)::rest) []) Q s:=by
 show wp c A (spliced ((false,x)::rest)>>=_) Q s
 exact bV h λvs s' h'=>aK (fL (fL (aw h')))
theorem EL {f:Value} {Q:Args→Shared→Prop} (h:Q ⟨[],[]⟩ s):wp c A (evalArgs f true [] []) Q s:=au (evalArgs_nil3 h)
theorem EJ {f:Value} {first:List Value} {pos:Pos} {Q:Value→Shared→Prop} {args:List (Bool×Sem Value)} {keywords:List (Option Str×Sem Value)} (hplain:(args.any (·.1) || keywords.any (·.1.isNone))=false)
 (h:wp c A (evalArgs f true args keywords) (λa s₁=>(∃k,(k=Keeper.frame∨k=Keeper.machine∨k=Keeper.boundFrame)∧Looks (model c.prog c.w) s₁.heap (keeperOf f) k)∧wp c A (PySem.call f (first++a.pos) a.kw) Q s₁) s):wp c A (callWith pos f first args keywords) Q s:=by
 unfold callWith
 refine ah (aK (bc h λa s₁ h₁=>aA ?_))
 refine cF λGG gg=>?_
 obtain⟨k,hk',L⟩:=h₁.1
 refine gg ?_
 rw[hplain]
 refine ah (au (L.here ?_))
 have tail:∀{t:Sem Value},wp c A t Q s₁→wp c A (t>>=λr=>holding [r] point>>=λ_=>pure r) Q s₁:=λht=>bV ht λr s₂ hr=>ah (aK (au (wpAny_point (aw hr))))
 have marked (mk:Value):wp c A (callMarked mk f (first++a.pos) a.kw) Q s₁:=wkeep h₁.2
 rcases hk' with rfl | rfl | rfl
 · exact wif (tail h₁.2) (tail (marked _))
 · exact tail h₁.2
 · exact wif (tail h₁.2) (tail (marked _))
end
end Mine
end
section
open PySem PySem.W PySem.Calls PyProof.Rows
namespace Mine
section
variable {α β:Type} {c:Cx} {A:Around} {s:Shared} {t t' m:Sem α} {f:α→Sem β} {Q Q':α→Shared→Prop} {k k':Code} {R R':Result→Shared→Prop} {env:Env}
theorem cfunc {body:List Stmt} (h:wp c (A.deeper env) (PySem.execs body env) (λf s'=>R (.ok (.ret (match f with | .ret v=>v | _=> .none))) s') s):cd c A (.func body env) R s:=by
 refine gY ?_
 show wp c (A.deeper env) (do point;match←(PySem.execs body env).onRaise (leaving env)with | .ret v=>ret v | _=>ret .none) _ s
 refine ah (au (wpAny_point (bV (iH h) λf s' h'=>?_)))
 cases f<;>exact aw h'
theorem Gw {a:Addr} {args:Args} {o:Obj} {fd:FuncData} {body:List Stmt} (hroom:A.depth<recursionLimit) (ho:s.heap.get? a=some o)
 (hd':o.data= .func fd) (hco:fd.scope.isCoroutine=false) (hgen:fd.scope.isGenerator=false) (hbody:fd.body= .stmts body) (hcd:s.heap.CodeRec fd.code fd.qualname)
 (h:wa c A.in1 (bindArgs fd args) (λbinds s₁=>wa c A.in1 (newFunctionEnv fd.scope fd.globals fd.closure binds (fd.qualname++ ".<locals>.") (some a) fd.code none fd.builtins)
    (λenv s₂=>s₂.heap.NoLimit∧cd c A (.func body env) R s₂) s₁) s):cd c A (.call (.ref a) args) R s:=by
 refine gY ?_
 show wp c A.in1 (callAny (.ref a) args) _ s
 unfold callAny
 refine ah (au (wpAny_load ho ?_))
 refine cF λGG gg=>?_
 obtain⟨k,oc,vs,tq,hc,hoc,hdc,hq⟩:=hcd
 refine gg ?_
 rw[hd']
 show wp c _ (callFunction a fd args) _ _
 unfold callFunction
 rw[hco,hgen,hbody,hc]
 rw[hc]at h
 refine ah (m:=field (.ref k) 1) (au (wpAny_field hoc hdc hq ?_))
 exact fL (ah (au (wpAny_mono h (λbinds s₁ h₁=>ah (au (wpAny_mono h₁ (λenv s₂ h₂=>ah (au (wpAny_enterFrame h₂.1 hroom (aw ⟨rfl,rfl,h₂.2⟩)))) λ_ _ h'=>h'))) λ_ _ h'=>h')))
theorem Gx {stmts:List Stmt} (h:wp c A (PySem.execs stmts env) (λf s'=>R (.ok f) s') s):cd c A (.block stmts env) R s:=by
 refine gY ?_
 show wp c _ (do return Fin.done (←(PySem.execs stmts env).onRaise (λx=>do noteFrame x env;theTreesLotGoes x))) _ s
 exact bV (iH h) λf s' h'=>aw h'
theorem uQ {Q:Flow→Shared→Prop} (h:Q .next s):wp c A (PySem.execs [] env) Q s:=au (wpAny_execs_nil h)
theorem tm {st:Stmt} {rest:List Stmt} {Q:Flow→Shared→Prop} (h:wp c A (PySem.exec st env) (λf s'=>match f with | .next=>wp c A (PySem.execs rest env) Q s' | f=>Q f s') s):wp c A (PySem.execs (st::rest) env) Q s:=by
 refine weq (arm_execs_cons ..) (bV h λf s' h'=>?_)
 cases f<;>first | exact h' | exact aw h'
theorem cfor {target:Expr} {it:Value} {body:List Stmt} (I:Nat→Shared→Prop)
 (turn:∀n s,I n s→wa c A (pyNext it) (λr s₁=>match r with
   | none=>R (.ok .next) s₁
   | some v=>wa c A (letOwnedTupleGo target it v) (λ_ s₁'=>wp c A (assign target env v) (λ_ s₂=>wp c A (PySem.execs body env) (λf s₃=>match f with
      | .next=>∃m,m<n∧I m s₃
      | .cont=>∃m,m<n∧I m s₃
      | .brk=>R (.ok .next) s₃
      | .ret v=>R (.ok (.ret v)) s₃) s₂) s₁') s₁) s)
 (n:Nat) (h:I n s):cd c A (.forLoop target it body [] env) R s:=by
 refine Eg rfl rfl I (λn s hI=>?_) n h
 show wp c A ((forTurn target it body [] env).onRaise (λx=>do noteFrame x env;theTreesLotGoes x)) _ s
 refine iH ?_
 unfold forTurn
 refine aA (bV (iH (au (turn n s hI))) λr s₁ h₁=>?_)
 cases r with
 | none=>exact aw (.inr ⟨rfl,rfl,Gx (uQ h₁)⟩)
 | some v=>
   refine ah (au (wpAny_mono h₁ (λ_ s₁' h₁'=>bV h₁' λ_ s₂ h₂=>bV h₂ λf s₃ h₃=>?_) λ_ _ e=>e))
   cases f with
   | next=>exact aw (.inl ⟨rfl,h₃⟩)
   | cont=>exact aw (.inl ⟨rfl,h₃⟩)
   | brk=>exact aw h₃
   | ret v=>exact aw h₃
theorem wFor {target iter:Expr} {body:List Stmt} {pos:Pos} {Q:Flow→Shared→Prop}
 (h:wp c A (eval iter env) (λx s₁=>wa c A (pyIter x) (λit s₂=>cd c A (.forLoop target it body [] env) (okR Q) s₂) s₁) s)
 (hs:∀x,foldedSetIterable iter env x=pure x):wp c A (PySem.exec (.For target iter body [] pos) env) Q s:=
 weq (arm_exec_For ..) (aA (bV h λx s₁ h₁=>gp (hs x) (aA (ah (aK (au (wpAny_mono h₁ (λit s₂ h₂=>Bw rfl h₂) λ_ _ h'=>h')))))))
noncomputable abbrev yD (env:Env) (ifs:List Expr):Sem Bool:=forIn ifs true λc r=>if r=true then do let ok←isTrue c env (eval c env);pure (ForInStep.yield ok)else pure (ForInStep.yield r)
theorem ccomp {elt target iter:Expr} {ifs:List Expr} {scope:Scope} {pos:Pos} {it acc:Value} (I:Nat→Shared→Prop)
 (turn:∀n s,I n s→wa c A (pyNext it) (λr s₁=>match r with
   | none=>R (.ok .next) s₁
   | some v=>wp c A (assign target env v) (λ_ s₂=>wp c A (yD env ifs) (λok s₃=>match ok with
      | true=>wp c A (eval elt env) (λx s₄=>wp c A (PySem.call (.builtin "list.append") [acc,x]) (λ_ s₅=>∃m,m<n∧I m s₅) s₄) s₃
      | false=>∃m,m<n∧I m s₃) s₂) s₁) s)
 (n:Nat) (h:I n s) (ht:∀v,letOwnedTupleGo target it v=pure ()):cd c A (.compLoop (.ListComp elt [⟨target,iter,ifs,0⟩] scope pos) 0 it acc env) R s:=by
 refine Eg rfl rfl I (λn s hI=>?_) n h
 show wp c A ((compTurn (.ListComp elt [⟨target,iter,ifs,0⟩] scope pos) 0 it acc env).onRaise (λx=>do noteFrame x env;theTreesLotGoes x)) _ s
 refine iH (weq (compTurn_list ..) (aA (bV (au (turn n s hI)) λr s₁ h₁=>?_)))
 cases r with
 | none=>exact aw h₁
 | some v=>
   refine gp (ht v) (bV h₁ λ_ s₂ h₂=>bV h₂ λok s₃ h₃=>?_)
   cases ok with
   | false=>exact aw (.inl ⟨rfl,h₃⟩)
   | true=>exact ah (bV h₃ λx s₄ h₄=>bV h₄ λ_ s₅ h₅=>aw (aw (.inl ⟨rfl,h₅⟩)))
theorem Gu {elt target iter:Expr} {ifs:List Expr} {scope:Scope} {pos:Pos} {it acc:Value} (h0:cd c A (.compLoop (.ListComp elt [⟨target,iter,ifs,0⟩] scope pos) 0 it acc env) R s)
 (h:wp c A (pyIter it) (λit' s'=>cd c A (.compLoop (.ListComp elt [⟨target,iter,ifs,0⟩] scope pos) 0 it' acc env) R s') s):cd c A (.compStart (.ListComp elt [⟨target,iter,ifs,0⟩] scope pos) 0 it acc env) R s:=by
 refine gY ?_
 show wp c _ ((compStart (.ListComp elt [⟨target,iter,ifs,0⟩] scope pos) 0 it acc env).onRaise (λx=>do noteFrame x env;standAt theWindowsPlace)) _ s
 refine iH ?_
 unfold compStart
 show wp c _ (ask>>=_) _ s
 refine ah (au (wpAny_askSetting ?_))
 split
 · first
    | exact fL (aw ⟨rfl,rfl,h0⟩)
    | exact aw ⟨rfl,rfl,h0⟩
 · first
    | exact uP (aA (bV h λit' s' h'=>aw ⟨rfl,rfl,h'⟩))
    | (refine uP ?_;show wp c _ (standAt iter.pos>>=_) _ s;exact aA (bV h λit' s' h'=>aw ⟨rfl,rfl,h'⟩))
noncomputable def compPost (c:Cx) (A:Around) (use:Option (Value→Sem Unit)) (Q:Value→Shared→Prop) (acc:Value) (C:Addr) (s':Shared):Prop:=match use with
 | none=>∃m,s'.heap.Ns C m∧∀h',Heap.SameBut C s'.heap h'→Q acc {s' with heap:=h'}
 | some u=>wp c A (u acc) (λ_ s''=>∃m,s''.heap.Ns C m∧∀h',Heap.SameBut C s''.heap h'→Q .none {s'' with heap:=h'}) s'
theorem wcomp {e:Expr} {scope:Scope} {pos:Pos} {newAcc first:Sem Value} {g:Comprehension} {gs:List Comprehension} {cl:List (Str×Addr)} {use:Option (Value→Sem Unit)} {Q:Value→Shared→Prop}
 (hcl:clausesOf e=g::gs) (hs:∀x,foldedSetIterable g.iter env x=pure x) (hclos:closureFor scope env=pure cl) (hkind:scope.kind= .function) (hnames:∀x∈scope.names,x.2= .local→scope.names.lookup x.1=some .local)
 (hb:∀it acc cenv,isBad (.compStart e 0 it acc cenv)=false)
 (h:wp c A first (λx s₁=>wp c A (pyIter x) (λit s₂=>wp c A newAcc (λacc s₃=>wp c A (newFunctionEnv scope env.globals cl [] env.qual none .none (some env)) (λcenv s₄=>
    cd c A (.compStart e 0 it acc {cenv with scope:=relabel scope env}) (okR λ_=>compPost c A use Q acc cenv.locals) s₄) s₃) s₂) s₁) s):
 wp c A (comprehension e scope env pos newAcc false first use) Q s:=by
 unfold comprehension
 rw[hclos,hcl]
 have sif:∀{p:Prop} [Decidable p] {pos:Pos} {k:PUnit→Sem Value} {s:Shared},wp c A (k ()) Q s→wp c A (if p then (standAt pos>>=k)else k ()) Q s:=λh=>wif (aA h) h
 refine bV h λx s₁ h₁=>aA (gp (hs x) (ah (aK (bc h₁ λit s₂ h₂=>sif (bV h₂ λacc s₃ h₃=>fL (bV h₃ λcenv s₄ h₄=>?_))))))
 dsimp only
 have hv:∀x∈(scope.names.filter λx=>(x.2== .local || x.2== .cell)&&x.1 != (".0":Str)).reverse,x.2= .local→Env.kindOf {cenv with scope:=relabel scope env} x.1=some .local:=λx hx hl=>lookup_relabel_local (hnames x (List.mem_filter.mp (List.mem_reverse.mp hx)).1 hl)
 refine aK (ah (watt (aK (DL (hb _ _ _) (AM h₄ λr s' hr=>?_)))))
 cases r with
 | ok f=>
   cases use with
   | none=>exact hr.elim λm hr=>ah (aK (au (wpAny_comp_letGo (cenv:={cenv with scope:=relabel scope env}) hkind _ s' m hv hr.1 λh' m' _ hs'=>aw (hr.2 h' hs'))))
   | some u=>exact uP (ah (aK (bc hr λ_ s'' hr'=>hr'.elim λm hr'=>ah (au (wpAny_comp_letGo (cenv:={cenv with scope:=relabel scope env}) hkind _ s'' m (λx hx hl=>(List.mem_append.mp hx).elim (λh1=>hv x (List.mem_of_mem_drop h1) hl) λh1=>hv x (List.mem_of_mem_take h1) hl) hr'.1 λh' m' _ hs'=>aw (hr'.2 h' hs'))))))
 | error x=>exact hr.elim
theorem wsetT {elts:List Expr} {x1:Nat} {pos:Pos} {t:Addr} {items:Array Value} {Q:Unit→Shared→Prop} (hh:A.handled=none) (ht:s.heap.IsTuple t items)
 (hn:(assignEach elts env).length=items.size) (hstar:(assignEach elts env).findIdx? (·.1)=none)
 (h:∀h',Heap.ExtBut s.heap.objs.size s.heap h'→wp c A (assignInOrder ((assignEach elts env).map (·.2)) items.toList) Q {s with heap:=h'}):wp c A (assign (.Tuple elts x1 pos) env (.ref t)) Q s:=by
 refine weq (arm_assign_Tuple ..) (aA ?_)
 unfold unpack
 rw[hn,hstar]
 exact ah (aK (au (wpAny_unpackItems_tuple hh ht h)))
theorem wpairs0 {Q:List (Value×Value)→Shared→Prop} (h:Q [] s):wp c A (evalPairs []) Q s:=aw h
theorem EH {k v:Sem Value} {rest:List (Sem Value×Sem Value)} {Q:List (Value×Value)→Shared→Prop}
 (h:wp c A k (λkv s₁=>wp c A v (λvv s₂=>wp c A (evalPairs rest) (λvs s₃=>Q ((kv,vv)::vs) s₃) s₂) s₁) s):wp c A (evalPairs ((k,v)::rest)) Q s:=
 weq (by rw[evalPairs]) (bV h λkv s₁ h₁=>ah (aK (bc h₁ λvv s₂ h₂=>ah (aK (bc h₂ λvs s₃ h₃=>aw h₃)))))
theorem wdict {keys:List (Option Expr)} {values:List Expr} {pos:Pos} {pairs:List (Sem Value×Sem Value)} {Q:Value→Shared→Prop}
 (hshape:(evalEachOpt keys env).zip ((evalEach values env).map λv=>do let x←v;standAt pos;pure x)=pairs.map λp=>(some p.1,p.2)) (h0:pairs≠[]) (hlen:pairs.length≤15)
 (h:wp c A (evalPairs pairs) (λvs s₁=>∃kvs,Carries (iK c) vs kvs∧s₁.heap.DictOf (iK c) s.heap.objs.size []∧
   ∀h',h'.DictOf (iK c) s.heap.objs.size (merged [] kvs)→Heap.SameBut s.heap.objs.size s₁.heap h'→Q (.ref s.heap.objs.size) {s₁ with heap:=h',toks:=s₁.toks+vs.length})
   {s with heap:=s.heap.push {cls:= .type "dict",data:= .dict #[]}}):
 wp c A (eval (.Dict keys values pos) env) Q s:=by
 rw[arm_eval_Dict,hshape,dictDisplay_pairs pairs h0 (by lia)]
 refine aA (ah ?_)
 unfold subDict
 refine ah (au (wpAny_alloc (ah (aK ?_))))
 rw[if_pos hlen]
 refine bV (P:=λvs s₁=>vs.length=pairs.length∧∃kvs,Carries (iK c) vs kvs∧s₁.heap.DictOf (iK c) s.heap.objs.size []∧
  ∀h',h'.DictOf (iK c) s.heap.objs.size (merged [] kvs)→Heap.SameBut s.heap.objs.size s₁.heap h'→Q (.ref s.heap.objs.size) {s₁ with heap:=h',toks:=s₁.toks+vs.length}) (λΓ p hΓ hg=>wp_evalPairs_len _ Γ pairs _ _ p _ (h Γ p hΓ hg)) λvs s₁ h₁=>?_
 refine cF λGG gg=>?_
 obtain⟨hvl,kvs,hc,hm,hQ⟩:=h₁
 refine gg ?_
 have hsz:([]:List (Int×Value)).length+kvs.length≤sizeLine:=by
  have e:=hc.length
  rw[sizeLine_eq,List.length_nil];lia
 exact aK (ah (au (wpAny_storeAll (knd:=iK c) vs kvs [] s₁ _ hc hm hsz λh' hm' hs'=>aw (aw (aw (hQ h' hm' hs'))))))
theorem sJ {id:String} {args:Args} {b:Builtin} (hq:(Code.builtin id args).quiet=true) (hbad:b6.contains id=true) (hb:entryFor table id=some b)
 (h:wa c A.in1 (checkBuiltinCall id args) (λ_ s₁=>wp c (A.under (.builtin id args)) (b args) (uz c A R) s₁) s):cd c A (.call (.builtin id) args) R s:=by
 refine gY ?_
 show wp c A.in1 (do checkBuiltinCall id args;again (.builtin id args)) _ s
 refine ah (au (wpAny_mono h (λ_ s₁ h₁=>aw ⟨hq,congrArg (!·) hbad,gY ?_⟩) λ_ _ h'=>h'))
 show wp c _ (match entryFor table id with | some b=>b args | none=>unsupported ((withoutEnding? id "#data").getD id)) _ s₁
 rw[hb];exact h₁
variable {C:Addr} {h:Heap} {g:Array GenState} {d:Drawn} {t:Nat} {os:OsState}
theorem Ef {rest:List Value} {kw:List (Str×Value)} {init:Value} (Y:Makes (model c.prog c.w) h C) (hi:Looks (model c.prog c.w) h (typeLookup (.ref C) "__init__") (some init))
 (hb:∀self,Looks (model c.prog c.w) h (bindSpecial init self) (init,[self])) (hne:(some init != some (Value.builtin "object.__init__"))=true)
 (hq:cd c (A.under (.builtin "type.__call__" ⟨.ref C::rest,kw⟩)) (.call init ⟨.ref (h.objs.size+1)::rest,kw⟩) (qZ λv s'=>v= .none∧R (.ok (.ret (.ref (h.objs.size+1)))) s') ⟨(h.push emptyDict).push (instObj C h.objs.size),g,d,t,os⟩):
 cd c A (.call (.ref C) ⟨rest,kw⟩) R ⟨h,g,d,t,os⟩:=by
 have Y':=Y
 refine cF λGG gg=>?_
 obtain⟨⟨oc,od,cdt,sl,hC,e1,e2,e4⟩,made,base,self,top,call,typ⟩:=Y
 refine gg ?_
 refine gY ?_
 show wp c _ (callAny (.ref C) _) _ _
 unfold callAny
 refine ah (au (wpAny_load hC ?_))
 show wp c _ (callAny.viaDunder (.ref C) _) _ _
 unfold callAny.viaDunder
 refine ah (au (call.here ?_))
 dsimp only
 rw[tc_bind]
 refine fL (fL (aw (a:=Fin.again (.call (.builtin "type.__call__") ⟨.ref C::rest,kw⟩)) ⟨rfl,rfl,?_⟩))
 refine sJ (Code.quiet_builtin _ (by decide+kernel)) (by decide+kernel) entry_typeCall (check_slot tc_kind tc_split typ (tc_args _ _ _) ?_)
 unfold Builtin.«type.__call__»
 have hm:Looks (model c.prog c.w) h (mroOf (.ref C)) cdt.mro:=((Looks.ld (part:=none) hC).andThen .now).andThen .now
 have k:∀b o,h.get? b=some o→((h.push emptyDict).push (instObj C h.objs.size)).get? b=some o:=λb o e=>Heap.get?_push_of_some _ (Heap.get?_push_of_some _ e)
 have hs:(h.push emptyDict).objs.size=h.objs.size+1:=Heap.size_push ..
 have hx:((h.push emptyDict).push (instObj C h.objs.size)).get? (h.objs.size+1)=some (instObj C h.objs.size):=hs▸Heap.get?_push_size _ rfl
 have t1:Looks (model c.prog c.w) ((h.push emptyDict).push (instObj C h.objs.size)) (typeOf (.ref (h.objs.size+1))) (.ref C):=(Looks.ld hx).andThen .now
 have c0:¬((Value.ref C==Value.type "type")=true):=λz=>Bool.false_ne_true z
 dsimp only
 rw[if_neg c0]
 refine ah (au (hm.here ?_))
 rw[e4,if_neg Bool.false_ne_true]
 refine ah (au (made.here ?_))
 refine fL (ah (aK (iw (cany (new_K Y' hi (.inl hne) ?_)))))
 have ii:Looks (model c.prog c.w) ((h.push emptyDict).push (instObj C h.objs.size)) (isInstance (.ref (h.objs.size+1)) (.ref C)) true:=t1.andThen (self.keeps k)
 refine ah (au (ii.here ?_))
 rw[Bool.not_true,if_neg Bool.false_ne_true]
 unfold callSpecial? specialOf
 refine ah (aK (ah (ah (au (t1.here (au ((hi.keeps k).here ?_)))))))
 refine aK (ah (au (((hb (.ref (h.objs.size+1))).keeps k).here ?_)))
 refine ah (iw (AM hq λr s' z=>?_))
 cases r with
 | error _=>exact z
 | ok f=>cases f with
   | ret v=>
     obtain⟨rfl,z⟩:=z
     exact aw (aw z)
   | _=>exact z
end
end Mine
end
section
open PySem PySem.W PySem.Calls PyProof.Rows
namespace Mine
structure AOk (n:Nat) (A:Around):Prop where
 hd:A.handled=none
 dp:A.depth+2 * n≤900
 un:A.units+10 * n≤9000
noncomputable def yw (k:NameKind):NameKind:=match k with
 | .free=> .cell
 | k=>k
structure ScOk (sc:Scope) (env:Env):Prop where
 own:∀x k,get sc.names x=some k→env.kindOf x=some (yw k)
 dbg:env.kindOf "__debug__"=none
structure At (c:Cx) (n:Nat) (sc:Scope) (loc:Loc) (led:Led) (env:Env) (A:Around) (g:Gh) (s:Shared):Prop where
 a:AOk n A
 sc:ScOk sc env
 n:Nice c env loc g led s
section
variable {α β:Type} {c:Cx} {n:Nat} {sc:Scope} {env:Env} {loc l1 l2:Loc} {g g' g₀:Gh} {led led' led₁ led₂:Led} {s s':Shared} {h h' h₀:Heap} {A:Around} {d:D} {v:Value} {x:Str} {pos:Pos} {e:Expr} {a:AV}
theorem zg {a b:NameKind} (h:nkEq a b=true):a=b:=by
 cases a with
 | «local»=>cases b with | «local»=>rfl | _=>exact ftE h
 | cell=>cases b with | cell=>rfl | _=>exact ftE h
 | free=>cases b with | free=>rfl | _=>exact ftE h
 | globalImplicit=>cases b with | globalImplicit=>rfl | _=>exact ftE h
 | _=>exact ftE h
theorem eR {k:NameKind} (h:bw sc x k=true):get sc.names x=some k:=by
 unfold bw at h
 cases e:get sc.names x with
 | none=>rw[e]at h;exact ftE h
 | some k'=>rw[e]at h;rw[zg h]
theorem ScOk.of {k:NameKind} (S:ScOk sc env) (h:bw sc x k=true):env.kindOf x=some (yw k):=S.own x k (eR h)
theorem mJ (h:cv sc loc x=true):bw sc x .globalImplicit=true:=by
 unfold cv at h
 cases e:get loc x with
 | some _=>rw[e]at h;exact ftE h
 | none=>rw[e]at h;exact h
theorem AOk.hu (hA:AOk n A):A.units<cLine:=Nat.lt_of_le_of_lt (Nat.le_trans (Nat.le_add_right ..) hA.un) (by decide)
theorem At.to (M:At c n sc loc led env A g s) (N:Nice c env l1 g' led' s'):At c n sc l1 led' env A g' s':=⟨M.a,M.sc,N⟩
variable {R:Gh→Heap→α→Prop} {R':Gh→Heap→β→Prop} {m:Sem α} {f:α→Sem β} {b:Bool}
theorem stp (M:At c n sc loc led env A g s) (h:wp c A m (Pst c env l1 b g s.heap led₁ R) s) (k:∀v s₁ g₁,At c n sc l1 led₁ env A g₁ s₁→Ext b g s.heap g₁ s₁.heap→R g₁ s₁.heap v→wp c A (f v) (Pst c env l2 b g₁ s₁.heap led₂ R') s₁):
 wp c A (m>>=f) (Pst c env l2 b g s.heap led₂ R') s:=bV h λv s₁ p=>by
 cases p with
 | mk g₁ N X r=>exact bc (k v s₁ g₁ (M.to N) X r) λ_ _=> .trans X
theorem stpF (M:At c n sc loc led env A g s) (h:wp c A m (Pst c env l1 false g s.heap led₁ R) s) (k:∀v s₁ g₁,At c n sc l1 led₁ env A g₁ s₁→Ext false g s.heap g₁ s₁.heap→R g₁ s₁.heap v→wp c A (f v) (Pst c env l2 true g₁ s₁.heap led₂ R') s₁):
 wp c A (m>>=f) (Pst c env l2 true g s.heap led₂ R') s:=bV h λv s₁ p=>by
 cases p with
 | mk g₁ N X r=>exact bc (k v s₁ g₁ (M.to N) X r) λ_ _=> .trans (X.weak true)
theorem wlast {R':Gh→Heap→α→Prop} (h:wp c A m (Pst c env l1 b g h' led₁ R) s) (k:∀g' h' v,R g' h' v→R' g' h' v):wp c A m (Pst c env l1 b g h' led₁ R') s:=bc h λv s' p=>by
 cases p with
 | mk g₁ N X r=>exact⟨g₁,N,X,k _ _ _ r⟩
theorem here {r:α} (M:At c n sc loc led env A g s) (k:R g s.heap r):wp c A (pure r) (Pst c env loc b g s.heap led R) s:=aw ⟨g,M.n,.refl _ _ _,k⟩
end
noncomputable def Gv (c:Cx) (n:Nat) (sc:Scope) (loc:Loc) (e:Expr) (led:Led) (a:AV) (l1:Led):Prop:=
 ∀{env A g s},At c n sc loc led env A g s→wp c A (eval e env) (bL c env loc g s.heap l1 a) s
noncomputable abbrev wG (c:Cx) (env:Env) (loc:Loc) (g:Gh) (h:Heap) (led':Led) (b:Bool):Bool→Shared→Prop:=Pst c env loc false g h led' λ_ _ v=>v=b
noncomputable def Tv (c:Cx) (n:Nat) (sc:Scope) (loc:Loc) (e:Expr) (led:Led) (b:Bool) (l1:Led):Prop:=
 ∀{env A g s},At c n sc loc led env A g s→wp c A (isTrue e env (eval e env)) (wG c env loc g s.heap l1 b) s
noncomputable def FlOk (c:Cx) (g:Gh) (fl:Fl) (f:Flow):Prop:=match fl with
 | .next=>f= .next
 | .cont=>f= .cont
 | .ret a=>∃v,f= .ret v∧ay c g a v
noncomputable abbrev gA (c:Cx) (env:Env) (loc:Loc) (g:Gh) (h:Heap) (led':Led) (fl:Fl):Flow→Shared→Prop:=Pst c env loc true g h led' λg' _ f=>FlOk c g' fl f
noncomputable abbrev eM (c:Cx) (env:Env) (loc:Loc) (g:Gh) (h:Heap) (led':Led):Unit→Shared→Prop:=Pst c env loc true g h led' λ_ _ _=>True
noncomputable def StR (c:Cx) (n:Nat) (sc:Scope) (st:Stmt) (loc:Loc) (led:Led) (fl:Fl) (l1:Loc) (led1:Led):Prop:=
 ∀⦃env A g s⦄,At c n sc loc led env A g s→wp c A (PySem.exec st env) (gA c env l1 g s.heap led1 fl) s
noncomputable def bK (e:Expr):Nat:=match e with
 | .Starred ..=>0
 | .Set ..=>0
 | .SetComp ..=>0
 | .DictComp ..=>0
 | .ListComp ..=>1
 | .BoolOp ..=>2
 | .IfExp ..=>2
 | .Compare ..=>2
 | .UnaryOp op _ _=>(match op with
   | .USub=>3
   | _=>2)
 | _=>3
noncomputable abbrev SubL (l1 l2:Loc):Prop:=∀x a,get l1 x=some a→get l2 x=some a
structure Ex (c:Cx) (n:Nat) (sc:Scope) (loc:Loc) (e:Expr) (led:Led) (a:AV) (l1:Led):Prop where
 gv:Gv c n sc loc e led a l1
 tv:∀b,a= .v (.bool b)→Tv c n sc loc e led b l1
 pl:bK e≠0
 use:bK e=1→∀l2,SubL loc l2→∀x np pos,iF sc x=true→∀env,swapsWith e (some (.Name x np)) pos.line env=pure true→∀{A g s},At c n sc l2 led env A g s→wp c A (PySem.exec (.Assign [.Name x np] e pos) env) (gA c env (set l2 x a) g s.heap l1 .next) s
section
variable {α β:Type} {c:Cx} {n:Nat} {sc:Scope} {env:Env} {loc l1 l2:Loc} {g g' g₀:Gh} {led led' led₁ led₂ led₃:Led} {s s':Shared} {h h' h₀:Heap} {A:Around} {d y z:D} {v:Value} {x:Str} {pos p0:Pos} {e el er:Expr} {a p q:AV}
theorem isTrue_plain (h:bK e=3∨bK e=1):isTrue e env (eval e env)=(do let v←eval e env;standAt e.pos;holding [v] (truthy v)):=by
 cases e with
 | UnaryOp op _ _=>cases op with
   | USub=>rfl
   | _=>exact h.elim (λz=>nomatch z) λz=>nomatch z
 | BoolOp _ _ _=>exact h.elim (λz=>nomatch z) λz=>nomatch z
 | IfExp _ _ _ _=>exact h.elim (λz=>nomatch z) λz=>nomatch z
 | Compare _ _ _ _=>exact h.elim (λz=>nomatch z) λz=>nomatch z
 | _=>rfl
theorem iN {b:Bool} (r:ay c g (.v (.bool b)) v):v= .bool b:=r
theorem qP (h:bK e=3∨bK e=1) (G:Gv c n sc loc e led a led₁):∀b,a= .v (.bool b)→Tv c n sc loc e led b led₁:=λb z _ _ _ _ M=>
 weq (isTrue_plain h) (stp M (G M) λv s₁ g₁ M₁ X₁ r₁=>aA (aK (iN (z▸r₁)▸jX ⟨g₁,M₁.n,.refl _ _ _,rfl⟩)))
theorem Nice.wk (N:Nice c env loc g led s) (h:SubL l1 loc):Nice c env l1 g led s:=⟨N.inv,N.ok,λx a e=>N.loc x a (h x a e),N.gens,N.os⟩
theorem At.wk (M:At c n sc loc led env A g s) (h:SubL l1 loc):At c n sc l1 led env A g s:=⟨M.a,M.sc,M.n.wk h⟩
theorem wwk {R:Gh→Heap→α→Prop} {m:Sem α} (M:At c n sc loc led env A g s) (h:wp c A m (Pst c env l1 false g s.heap led₁ R) s):wp c A m (Pst c env loc false g s.heap led₁ R) s:=bc h λv s' p=>by
 cases p with
 | mk g₁ N X r=>exact⟨g₁,M.n.ext X N.inv (N.gens.trans M.n.gens.symm) (N.os.trans M.n.os.symm),X,r⟩
theorem Ex.wk (h:Ex c n sc l1 e led a led₁) (H:SubL l1 loc):Ex c n sc loc e led a led₁:=⟨λM=>wwk M (h.gv (M.wk H)),λb z _ _ _ _ M=>wwk M (h.tv b z (M.wk H)),h.pl,λk l2 H2=>h.use k l2 λx a e=>H2 x a (H x a e)⟩
theorem Ex.of (h:bK e=3) (G:Gv c n sc loc e led a led₁):Ex c n sc loc e led a led₁:=⟨G,qP (.inl h) G,h▸(λz=>nomatch z),λz=>absurd (h.symm.trans z) λz=>nomatch z⟩
theorem Ex.of2 (h:bK e=2) (G:Gv c n sc loc e led a led₁) (T:∀b,a= .v (.bool b)→Tv c n sc loc e led b led₁):Ex c n sc loc e led a led₁:=⟨G,T,h▸(λz=>nomatch z),λz=>absurd (h.symm.trans z) λz=>nomatch z⟩
@[elab_as_elim] theorem w7 {W:Value→Prop} {i:Int} (hi:bX a=some i) (r:ay c g a v) (k:∀t,W (.int i t)):W v:=by rw[FE hi]at r;exact Exists.elim r λt q=>q▸k t
theorem repV (hd:bY a=some d) (r:ay c g a v):Rep c.ca g.F d v:=by rw[jB hd]at r;exact r
theorem vI {Q:Value→Shared→Prop} (M:At c n sc loc led env A g s) (r:NameIs env s.heap x v) (h:Q v s):wa c A (loadName env x) Q s:=by
 cases r with
 | loc m k n e=>exact wpAny_loadName_local M.n.ok.kind k n e h
 | cel a o k l e d=>exact wpAny_loadName_cell M.n.ok.kind k l ⟨o,e,d⟩ h
theorem NameIs.gP (S:ScOk sc env) (r:NameIs env h x v):(x==("__debug__":Str))=false:=cE (x==("__debug__":Str)) (λe=>by
 rw[beq_iff_eq]at e
 subst e
 cases r with
 | loc m k n e=>exact absurd (S.dbg.symm.trans k) λz=>nomatch z
 | cel a o k l e d=>exact absurd (S.dbg.symm.trans k) λz=>nomatch z) id
theorem yz {Q:Value→Shared→Prop} (M:At c n sc loc led env A g s) (hk:bw sc x .globalImplicit=true) (hd:(x==("__debug__":Str))=false) (k:wa c A (loadGlobal env x) Q s):wa c A (eval (.Name x pos) env) Q s:=Name_function_global M.n.ok.kind (M.sc.of hk) k hd
theorem At.mg (M:At c n sc loc led env A g s):s.heap.Ns env.globals c.mg:=M.n.ok.glob▸c.W.g.keeps M.n.keeps
theorem At.mb (M:At c n sc loc led env A g s):s.heap.Ns env.builtins c.mb:=M.n.ok.blt▸c.W.b.keeps M.n.keeps
theorem vX {Q:Value→Shared→Prop} (M:At c n sc loc led env A g s) (hk:bw sc x .globalImplicit=true) (hd:(x==("__debug__":Str))=false) (e:c.mg x=some v) (q:Q v s):wa c A (eval (.Name x pos) env) Q s:=yz M hk hd (loadGlobal_global M.mg e q)
theorem ky {Q:Value→Shared→Prop} {k:Blt} (M:At c n sc loc led env A g s) (ht:cv sc loc x=true) (e:get f9 x=some k) (q:Q (AZ k) s):wa c A (eval (.Name x pos) env) Q s:=
 have w:=c.W.blt x k e
 yz M (mJ ht) w.1 (loadGlobal_builtin M.mg w.2.1 M.mb w.2.2 q)
noncomputable def nameOf (sc:Scope) (x:Str) (loc:Loc):Option AV:=match get loc x with
 | some a=>some a
 | none=>match bw sc x .globalImplicit with
   | true=>(glb x).map .v
   | false=>none
theorem CM (e:nameOf sc x loc=some a):Gv c n sc loc (.Name x pos) led a led:=λM=>au<|j4 (get loc x)
 (λz=>by
   unfold nameOf at e
   rw[z]at e
   exact tE e λhk e=>mE e λd hd e=>sE e ((c.W.glob x d hd).2.elim λv w=>vX M hk (c.W.glob x d hd).1 w.1 (tJ M.n (M.n.inv.repK w.2))))
 λb z=>by
  unfold nameOf at e
  rw[z]at e
  exact sE e ((M.n.loc x b z).elim λv w=>wpAny_Name (vI M w.1 (om M.n w.2)) (w.1.gP M.sc))
theorem CK {k:Nat}:Gv c n sc loc (.Constant .none k pos) led (.v .none) led:=λM=>weq (arm_eval_Constant ..) (here M rfl)
theorem CS {k:Nat} {b:Bool}:Gv c n sc loc (.Constant (.bool b) k pos) led (.v (.bool b)) led:=λM=>weq (arm_eval_Constant ..) (here M rfl)
theorem FR {k:Nat} {i:Int}:Gv c n sc loc (.Constant (.int i) k pos) led (.v (.int i)) led:=λM=>weq (arm_eval_Constant ..) (au (wpAny_mkInt (iu M.n)))
theorem FP {k:Nat} {i:Str}:Gv c n sc loc (.Constant (.str i) k pos) led (.v (.str i)) led:=λM=>weq (arm_eval_Constant ..) (au (wpAny_mkText (xb M.n)))
theorem FT {k:Nat} {b:List UInt8}:Gv c n sc loc (.Constant (.bytes b) k pos) led (.v (.byt b)) led:=λM=>weq (arm_eval_Constant ..) (au (wpAny_mkTextBytes (fP M.n ⟨_,rfl⟩)))
theorem zZ {op:Operator} (hd:binop op y z=some d) (hy:view led₂ q=some z) (hx:view led₂ p=some y) (hr:Ex c n sc loc er led₁ q led₂) (hl:Ex c n sc loc el led p led₁):Gv c n sc loc (.BinOp el op er pos) led (.v d) led₂:=λM=>
 weq (arm_eval_BinOp ..) (stp M (hl.gv M) λv s₁ g₁ M₁ X₁ r₁=>stp M₁ (aK (hr.gv M₁)) λu s₂ g₂ M₂ X₂ r₂=>aA (n9 (au (A3 M₂.n (M₂.n.inv.sees (X₂.repA M₁.n.inv r₁) hx) (M₂.n.inv.sees r₂ hy) hd))))
theorem FQ {i:Int} (hi:bX p=some i) (hx:Ex c n sc loc el led p led₁):Gv c n sc loc (.UnaryOp .USub el pos) led (.v (.int (-i))) led₁:=λM=>
 weq (arm_eval_UnaryOp ..) (stp M (hx.gv M) λv s₁ g₁ M₁ X₁ r₁=>w7 hi r₁ λt=>aA (aK (au (PySem.P.neg_int (iu M₁.n)))))
theorem Ex.test {b:Bool} (h:Ex c n sc loc e led p led₁) (hb:gr p=some b):Tv c n sc loc e led b led₁:=h.tv b (zB hb)
theorem D8 {t o:Expr} {b:Bool} (ht:b=true→Ex c n sc loc el led₁ a led₂) (hf:b=false→Ex c n sc loc o led₁ a led₂) (hb:Tv c n sc loc t led b led₁):Ex c n sc loc (.IfExp t el o pos) led a led₂:=by
 refine .of2 rfl (λM=>weq (arm_eval_IfExp ..) (stp M (hb M) λv s₁ g₁ M₁ X₁ r₁=>?_)) λb' z=>λM=>weq (arm_isTrue_IfExp ..) (stp M (hb M) λv s₁ g₁ M₁ X₁ r₁=>?_)
 · rw[r₁]
   cases b with
   | true=>exact(ht rfl).gv M₁
   | false=>exact(hf rfl).gv M₁
 · rw[r₁]
   cases b with
   | true=>exact(ht rfl).tv b' z M₁
   | false=>exact(hf rfl).tv b' z M₁
end
end Mine
end
section
open PySem PySem.W PySem.Calls PyProof.Rows
namespace Mine
structure Evs (c:Cx) (n:Nat) (sc:Scope) (loc:Loc) (es:List Expr) (led:Led) (R:Gh→List Value→Prop) (l1:Led):Prop where
 run:∀{env A g s pos},At c n sc loc led env A g s→wp c A (spliced (backTo pos (starEach es env))) (Pst c env loc false g s.heap l1 λg' _ vs=>R g' vs) s
 pl:∀e∈es,bK e≠0
noncomputable abbrev EvL (c:Cx) (n:Nat) (sc:Scope) (loc:Loc) (es:List Expr) (led:Led) (as:List AV) (l1:Led):Prop:=Evs c n sc loc es led (λg vs=>aQ c g as vs) l1
noncomputable abbrev EvD (c:Cx) (n:Nat) (sc:Scope) (loc:Loc) (es:List Expr) (led:Led) (ds:List D) (l1:Led):Prop:=Evs c n sc loc es led (λg vs=>aJ c.ca g.F ds vs) l1
section
variable {c:Cx} {n:Nat} {sc:Scope} {env:Env} {loc l1 l2:Loc} {g g' g₀:Gh} {led led' led₁ led₂ led₃:Led} {s s':Shared} {h h' h₀:Heap} {A:Around} {d y z:D} {v:Value} {x:Str} {pos p0:Pos} {e el er o:Expr} {es:List Expr} {a p q:AV} {as:List AV} {ds:List D} {b:Bool}
theorem fN {rest:List Expr} (h:bK e≠0):starEach (e::rest) env=(false,eval e env)::starEach rest env:=by
 cases e with
 | Starred _ _=>exact absurd rfl h
 | _=>rfl
theorem fY {R:Gh→List Value→Prop} (h:∀g,R g []):Evs c n sc loc [] led R led:=⟨λM=>here M (h _),λ_ z=>nomatch z⟩
theorem gX {R R':Gh→List Value→Prop} (hs:Evs c n sc loc es led₁ R led₂) (he:Ex c n sc loc e led a led')
 (hf:∀{env g s v},Nice c env loc g led' s→ay c g a v→∃g₁,Go c false g s.heap g₁ led₁ s.heap∧∀{g' h'},Ext false g₁ s.heap g' h'→∀vs,R g' vs→R' g' (v::vs)):Evs c n sc loc (e::es) led R' led₂ where
 run:=λ{env A g s pos} M=>by
  rw[fN he.pl]
  refine wspl (bc (he.gv M) λv s₁ p=>?_)
  cases p with
  | mk g₁ N₁ X₁ r₁=>
    refine(hf N₁ r₁).elim λg₂ z=>bc (hs.run (M.to (N₁.gh z.1))) λvs s₂ p=>?_
    cases p with
    | mk g₃ N₃ X₃ r₃=>exact⟨g₃,N₃,X₁.trans (z.1.ext.trans X₃),z.2 X₃ vs r₃⟩
 pl:=λx hx=>(List.mem_cons.mp hx).elim (λz=>z▸he.pl) (hs.pl x)
theorem jL (hs:EvL c n sc loc es led₁ as led₂) (he:Ex c n sc loc e led a led₁):EvL c n sc loc (e::es) led (a::as) led₂:=
 gX hs he λN r=>⟨_,.refl N.inv,λX vs q=>⟨X.repA N.inv r,q⟩⟩
theorem Au (hs:EvD c n sc loc es led₁ ds led₂) (hf:frz depth a led'=some (d,led₁)) (he:Ex c n sc loc e led a led'):EvD c n sc loc (e::es) led (d::ds) led₂:=
 gX hs he λN r=>(kh _ N.inv r.lt hf).imp λg₁ z=>⟨z.1,λX vs q=>⟨Rep.mono (X.F z.1.inv) (z.2 _ r),q⟩⟩
theorem o3 {pos:Pos}:∀{es:List Expr},(∀e∈es,bK e≠0)→(backTo pos (starEach es env)).any (·.1)=false
 | [],_=>rfl
 | e::r,hs=>by
   rw[fN (hs e List.mem_cons_self)]
   exact(Bool.false_or _).trans (o3 (es:=r) λx hx=>hs x (List.mem_cons_of_mem _ hx))
theorem all_plain {pos:Pos}:∀{es:List Expr},(∀e∈es,bK e≠0)→(backTo pos (starEach es env)).all (!·.1)=true
 | [],_=>rfl
 | e::r,hs=>by
   rw[fN (hs e List.mem_cons_self)]
   exact(Bool.true_and _).trans (all_plain (es:=r) λx hx=>hs x (List.mem_cons_of_mem _ hx))
theorem CO (hf:fits ds.length=true) (h:EvD c n sc loc es led ds led₁):Gv c n sc loc (.List es pos) led (.v (.list ds)) led₁:=λM=>
 weq (arm_eval_List ..) (aA (stp M (h.run M) λvs s₁ g₁ M₁ X₁ r₁=>au (wpAny_newList (hZ M₁.n (λ_ _ e=>e) r₁) (r₁.len▸bt hf))))
theorem FO {k:Nat} (hf:fits ds.length=true) (h:EvD c n sc loc es led ds led₁):Gv c n sc loc (.Tuple es k pos) led (.v (.tup ds)) led₁:=λM=>
 weq (arm_eval_Tuple ..) (aA (stp M (h.run M) λvs s₁ g₁ M₁ X₁ r₁=>au (wpAny_newTuple (js M₁.n (λ_ _ e=>e) r₁) (r₁.len▸bt hf))))
theorem jj (e:Expr) (o i:Value):subscripted e false o i=operate (match e with | .Slice _ _ none _=>[i,o] | _=>[o,i]) (getItem o i):=by
 cases e with
 | Slice lo hi st p=>cases st<;>rfl
 | _=>rfl
theorem yH {value slice:Expr} {Q:Value→Shared→Prop}
 (h:wp c A (eval value env) (λo s₁=>wp c A (eval slice env) (λi s₂=>∃T id,typeLookup (.type T) "__getitem__"=pure (some (.builtin id))∧s₂.TypeIs o T∧wa c A (getItem o i) Q s₂) s₁) s):wp c A (eval (.Subscript value slice pos) env) Q s:=by
 refine weq (arm_eval_Subscript ..) (bV h λo s₁ h₁=>ah (aK (bc h₁ λi s₂ h₂=>aA (h₂.elim λT h₂=>h₂.elim λid h₂=>?_))))
 refine ah (weq (getitemInPython_of_ne h₂.2.1.not_modules) (ah (au (wpAny_specialOf h₂.2.1 h₂.1 ?_))))
 have fin:wp c A (subscripted slice false o i) (λr s₃=>wp c A (letTemporaryGo value o r>>=λ_=>pure r) Q s₃) s₂:=
  weq (jj ..) (n9 (bc (au h₂.2.2) λr s₃ h₃=>wtmp (aw h₃)))
 first
  | exact wpAny_pure (ah fin)
  | exact aw (ah fin)
  | exact ah (aw (ah fin))
  | exact ah fin
theorem xp {k:D} {F:FH} (hx:cG c F s.heap y v) (e:item y k=some d):∃T id,typeLookup (.type T) "__getitem__"=pure (some (.builtin id))∧s.TypeIs v T:=by
 cases y with
 | list l=>exact cS rfl hx λa n vs ha ra=>⟨_,_,PySem.F.slot_list_getitem.lookup,_,ha,rfl⟩
 | tup l=>exact kE rfl hx λa n vs ha ra=>⟨_,_,PySem.F.slot_tuple_getitem.lookup,_,ha,rfl⟩
 | str l=>exact gM rfl hx λt=>⟨_,_,PySem.F.slot_str_getitem.lookup,typeIs_str _ _ _⟩
 | dict l=>exact u7 rfl hx λa o ps hs ha hd rk=>⟨_,_,PySem.F.slot_dict_getitem.lookup,Heap.DictOf.typeIs (hd.dictOf (c:=c) ha)⟩
 | _=>exact nE e
theorem tB {k j:D} {F:FH} (hx:cG c F s.heap y v) (e:slice y k j=some d):∃T id,typeLookup (.type T) "__getitem__"=pure (some (.builtin id))∧s.TypeIs v T:=by
 cases y with
 | list l=>exact cS rfl hx λa n vs ha ra=>⟨_,_,PySem.F.slot_list_getitem.lookup,_,ha,rfl⟩
 | tup l=>exact kE rfl hx λa n vs ha ra=>⟨_,_,PySem.F.slot_tuple_getitem.lookup,_,ha,rfl⟩
 | _=>exact nE e
theorem wgo {α:Type} {R:Gh→Heap→α→Prop} {m:Sem α} {Q:α→Shared→Prop} {b:Bool} (M:At c n sc loc led env A g s) (h:wp c A m (Pst c env l1 b g s.heap led₁ R) s) (k:∀v s₁ g₁,At c n sc l1 led₁ env A g₁ s₁→Ext b g s.heap g₁ s₁.heap→R g₁ s₁.heap v→Q v s₁):wp c A m Q s:=bc h λv s₁ p=>by
 cases p with
 | mk g₁ N X r=>exact k v s₁ g₁ (M.to N) X r
theorem CP {k:D} (hd:item z k=some d) (hz:view led₂ p=some z) (hk:bY q=some k) (hi:Ex c n sc loc er led₁ q led₂) (ho:Ex c n sc loc el led p led₁):Gv c n sc loc (.Subscript el er pos) led (.v d) led₂:=λM=>
 yH (wgo M (ho.gv M) λv s₁ g₁ M₁ X₁ r₁=>wgo M₁ (hi.gv M₁) λu s₂ g₂ M₂ X₂ r₂=>
  have vx:=M₂.n.inv.sees (X₂.repA M₁.n.inv r₁) hz
  (xp vx hd).imp λT z=>z.imp λid z=>⟨z.1,z.2,wpAny_mono (Cv M₂.n vx (M₂.n.inv.sees_rep (repV hk r₂)) hd) (λ_ _=> .trans (X₁.trans X₂)) λ_ _ e=>e⟩)
noncomputable def Opt (c:Cx) (n:Nat) (sc:Scope) (loc:Loc) (o:Option Expr) (led:Led) (d:D) (l1:Led):Prop:=∀{env A g s},At c n sc loc led env A g s→wp c A (valueOrNone (evalOpt o env)) (bL c env loc g s.heap l1 (.v d)) s
theorem zb:Opt c n sc loc none led .none led:=λM=>here M rfl
theorem xc (hd:bY a=some d) (he:Ex c n sc loc e led a led₁):Opt c n sc loc (some e) led d led₁:=λM=>jB hd▸he.gv M
theorem qX {lo hi:Option Expr} {ps:Pos} {d1 d2:D} {Q:Value→Shared→Prop} (hh:Opt c n sc loc hi led₂ d2 led₃) (hl:Opt c n sc loc lo led₁ d1 led₂) (ho:Ex c n sc loc el led p led₁) (M:At c n sc loc led env A g s)
 (k:∀(v vl vu:Value) (s₁:Shared) (g₁:Gh) (t:Nat),At c n sc loc led₃ env A g₁ {s₁ with heap:=s₁.heap.push {cls:= .type "slice",data:= .fields #[vl,vu,.none]},toks:=t}→Ext false g s.heap g₁ (s₁.heap.push {cls:= .type "slice",data:= .fields #[vl,vu,.none]})→ay c g₁ p v→Rep c.ca g₁.F d1 vl→Rep c.ca g₁.F d2 vu→
   ∃T id,typeLookup (.type T) "__getitem__"=pure (some (.builtin id))∧Shared.TypeIs {s₁ with heap:=s₁.heap.push {cls:= .type "slice",data:= .fields #[vl,vu,.none]},toks:=t} v T∧wa c A (getItem v (.ref s₁.heap.objs.size)) Q {s₁ with heap:=s₁.heap.push {cls:= .type "slice",data:= .fields #[vl,vu,.none]},toks:=t}):
 wp c A (eval (.Subscript el (.Slice lo hi none ps) pos) env) Q s:=
 yH (wgo M (ho.gv M) λv s₁ g₁ M₁ X₁ r₁=>weq (arm_eval_Slice ..) (ah (wgo M₁ (hl M₁) λvl s₂ g₂ M₂ X₂ r₂=>ah (aK (wgo M₂ (hh M₂) λvu s₃ g₃ M₃ X₃ r₃=>ah (aK (aw (au (wpAny_newObj_type (T:="slice")
  (k v vl vu s₃ g₃ s₃.toks (M₃.to (M₃.n.junk _)) (X₁.trans (X₂.trans (X₃.trans (Go.junk M₃.n.inv _).ext))) ((X₂.trans X₃).repA M₁.n.inv r₁) (Rep.mono (X₃.F M₂.n.inv) r₂) r₃))))))))))
theorem zX {lo hi:Option Expr} {ps:Pos} {d1 d2:D} (hd:slice z d1 d2=some d) (hz:view led₃ p=some z) (hh:Opt c n sc loc hi led₂ d2 led₃) (hl:Opt c n sc loc lo led₁ d1 led₂) (ho:Ex c n sc loc el led p led₁):Gv c n sc loc (.Subscript el (.Slice lo hi none ps) pos) led (.v d) led₃:=λM=>
 qX hh hl ho M λv vl vu s₁ g₁ t M₁ X r rl ru=>
  have vx:=M₁.n.inv.sees r hz
  (tB vx hd).imp λT z=>z.imp λid z=>⟨z.1,z.2,wpAny_mono (yU M₁.n vx rl ru (Heap.IsSliceOf.new _ _ _ _) hd) (λ_ _=> .trans X) λ_ _ e=>e⟩
theorem Ex.gvB (he:Ex c n sc loc e led p led₁) (hb:gr p=some b):Gv c n sc loc e led (.v (.bool b)) led₁:=zB hb▸he.gv
noncomputable def jV (c:Cx) (n:Nat) (sc:Scope) (loc:Loc) (op:BoolOp) (es:List Expr) (led:Led) (b:Bool) (l1:Led):Prop:=
 (∀{env A g s pos},At c n sc loc led env A g s→wp c A (boolOp pos op (evalEach es env)) (bL c env loc g s.heap l1 (.v (.bool b))) s)∧(∀{env A g s},At c n sc loc led env A g s→wp c A (allTrue op es env) (wG c env loc g s.heap l1 b) s)∧es≠[]
noncomputable def yL (op:BoolOp):Bool:=match op with
 | .And=>false
 | .Or=>true
theorem AW {op:BoolOp} (hb:gr p=some b) (he:Ex c n sc loc e led p led₁):jV c n sc loc op [e] led b led₁:=by
 refine⟨λM=>he.gvB hb M,λ{env A g s} M=>weq (arm_allTrue_cons ..) (stp M (he.test hb M) λv s₁ g₁ M₁ X₁ r₁=>?_),λz=>nomatch z⟩
 rw[r₁]
 cases op<;>cases b<;>exact here M₁ rfl
theorem oT {op:BoolOp} (hs:yL op=b) (hb:gr p=some b) (he:Ex c n sc loc e led p led₁):jV c n sc loc op (e::el::es) led b led₁:=by
 refine⟨λ{env A g s pos} M=>?_,λM=>weq (arm_allTrue_cons ..) (stp M (he.test hb M) λv s₁ g₁ M₁ X₁ r₁=>?_),λz=>nomatch z⟩
 · show wp c A (boolOp pos op (eval e env::eval el env::evalEach es env)) _ s
   refine stp M (he.gvB hb M) λv s₁ g₁ M₁ X₁ r₁=>aA (ah (aK (iN r₁▸jX ?_)))
   cases op<;>cases b<;>first | exact here M₁ rfl | exact nomatch hs
 · rw[r₁]
   cases op<;>cases b<;>first | exact here M₁ rfl | exact nomatch hs
theorem oU {op:BoolOp} {b':Bool} (hr:jV c n sc loc op (el::es) led₁ b' led₂) (hs:yL op= !b) (hb:gr p=some b) (he:Ex c n sc loc e led p led₁):jV c n sc loc op (e::el::es) led b' led₂:=by
 refine⟨λ{env A g s pos} M=>?_,λM=>weq (arm_allTrue_cons ..) (stp M (he.test hb M) λv s₁ g₁ M₁ X₁ r₁=>?_),λz=>nomatch z⟩
 · show wp c A (boolOp pos op (eval e env::eval el env::evalEach es env)) _ s
   refine stp M (he.gvB hb M) λv s₁ g₁ M₁ X₁ r₁=>aA (ah (aK (iN r₁▸jX ?_)))
   cases op<;>cases b<;>first | exact hr.1 M₁ | exact nomatch hs
 · rw[r₁]
   cases op<;>cases b<;>first | exact hr.2.1 M₁ | exact nomatch hs
theorem C7 {op:BoolOp} (h:jV c n sc loc op es led b led₁):Ex c n sc loc (.BoolOp op es pos) led (.v (.bool b)) led₁:=
 .of2 rfl (λM=>weq (arm_eval_BoolOp ..) (h.1 M)) λb' z=>λM=>weq (arm_isTrue_BoolOp ..) (by cases z;exact h.2.1 M)
noncomputable def gj (c:Cx) (n:Nat) (sc:Scope) (loc:Loc) (a:AV) (ops:List CmpOp) (es:List Expr) (led:Led) (b:Bool) (l1:Led):Prop:=∀{env A g s pos va},At c n sc loc led env A g s→ay c g a va→
 wp c A (compareChain pos va ops (evalEach es env)) (bL c env loc g s.heap l1 (.v (.bool b))) s∧wp c A (testChain pos va ops (evalEach es env)) (wG c env loc g s.heap l1 b) s
theorem lA {op:CmpOp} {va:Value} (M:At c n sc loc led env A g s) (ra:ay c g a va) (rp:ay c g p v) (e:kx led op a p=some b):wp c A (compareOp op va v) (Pst c env loc false g s.heap led λ_ _ v=>v= .bool b) s:=
 bE e λx hx e=>bE e λy hy e=>au (wpAny_mono (Gr M.a.hu (M.n.inv.sees ra hx) (M.n.inv.sees rp hy) e) (λu s₁ q=>q.2.elim λt z=>z▸⟨g,M.n.toks t,.refl _ _ _,q.1⟩) λ_ _ e=>e)
theorem xV {op:CmpOp} (hc:kx led₁ op a p=some b) (he:Ex c n sc loc e led p led₁):gj c n sc loc a [op] [e] led b led₁:=λ{env A g s pos va} M ra=>by
 refine⟨?_,?_⟩
 · show wp c A (compareChain pos va [op] [eval e env]) _ s
   exact stp M (aK (he.gv M)) λv s₁ g₁ M₁ X₁ r₁=>aA (n9 (wlast (lA M₁ (X₁.repA M.n.inv ra) r₁ hc) λ_ _ _ z=>z))
 · show wp c A (testChain pos va [op] [eval e env]) _ s
   exact stp M (aK (he.gv M)) λv s₁ g₁ M₁ X₁ r₁=>aA (stp M₁ (n9 (lA M₁ (X₁.repA M.n.inv ra) r₁ hc)) λu s₂ g₂ M₂ X₂ r₂=>aK (r₂▸jX ⟨g₂,M₂.n,.refl _ _ _,rfl⟩))
theorem nj {op op2:CmpOp} {ops:List CmpOp} {b':Bool} (ht:b=true→gj c n sc loc p (op2::ops) (el::es) led₁ b' led₂) (hf:b=false→b'=false∧led₂=led₁) (hc:kx led₁ op a p=some b) (he:Ex c n sc loc e led p led₁):gj c n sc loc a (op::op2::ops) (e::el::es) led b' led₂:=λ{env A g s pos va} M ra=>by
 refine⟨?_,?_⟩
 · show wp c A (compareChain pos va (op::op2::ops) (eval e env::eval el env::evalEach es env)) _ s
   refine stp M (aK (he.gv M)) λv s₁ g₁ M₁ X₁ r₁=>aA (stp M₁ (aK (lA M₁ (X₁.repA M.n.inv ra) r₁ hc)) λu s₂ g₂ M₂ X₂ r₂=>ah (au (wpAny_release' (ah (aK (r₂▸jX ?_))))))
   cases b with
   | true=>exact(ht rfl M₂ (X₂.repA M₁.n.inv r₁)).1
   | false=>rw[(hf rfl).1,(hf rfl).2];exact here M₂ rfl
 · show wp c A (testChain pos va (op::op2::ops) (eval e env::eval el env::evalEach es env)) _ s
   refine stp M (aK (he.gv M)) λv s₁ g₁ M₁ X₁ r₁=>aA (stp M₁ (aK (lA M₁ (X₁.repA M.n.inv ra) r₁ hc)) λu s₂ g₂ M₂ X₂ r₂=>ah (au (wpAny_release' (ah (aK (r₂▸jX ?_))))))
   cases b with
   | true=>exact(ht rfl M₂ (X₂.repA M₁.n.inv r₁)).2
   | false=>rw[(hf rfl).1,(hf rfl).2];exact here M₂ rfl
theorem Gd {ops:List CmpOp} (h:gj c n sc loc p ops es led₁ b led₂) (he:Ex c n sc loc el led p led₁) (hm:lastMarks ops es=false):Ex c n sc loc (.Compare el ops es pos) led (.v (.bool b)) led₂:=
 .of2 rfl (λM=>by
   rw[arm_eval_Compare,markedEach_of_false _ _ _ hm]
   exact stp M (he.gv M) λv s₁ g₁ M₁ X₁ r₁=>(h M₁ r₁).1) λb' z=>λM=>by
   rw[arm_isTrue_Compare,markedEach_of_false _ _ _ hm]
   cases z
   exact stp M (he.gv M) λv s₁ g₁ M₁ X₁ r₁=>(h M₁ r₁).2
end
end Mine
end
section
open PySem PySem.W PySem.Calls PyProof.Rows
namespace Mine
namespace BF
theorem mr:PlainAttrs "bytearray":=
 ⟨⟨"bytearray.__getattribute__",by rw[typeLookup_type,builtinLookup_eq_fast];kernel_rfl,by decide+kernel⟩,by rw[typeLookup_type,builtinLookup_eq_fast];kernel_rfl⟩
theorem kC:Slot "bytearray" "append" "bytearray.append":=
 .of (owner:="bytearray") (n:="append") (by rw[typeLookup_type,builtinLookup_eq_fast];kernel_rfl) (by decide+kernel) (by decide+kernel) (by decide+kernel)
   (by first | exact .inl (by decide+kernel) | exact .inr (by decide+kernel)) (by rw[isSubtype_type];kernel_rfl)
theorem qO:typeOf (.builtin "bytearray.append")=pure (.type "method_descriptor"):=by show builtinType _=_;rw[builtinType_eq_fast];kernel_rfl
theorem kB:Slot "bytearray" "extend" "bytearray.extend":=
 .of (owner:="bytearray") (n:="extend") (by rw[typeLookup_type,builtinLookup_eq_fast];kernel_rfl) (by decide+kernel) (by decide+kernel) (by decide+kernel)
   (by first | exact .inl (by decide+kernel) | exact .inr (by decide+kernel)) (by rw[isSubtype_type];kernel_rfl)
theorem qN:typeOf (.builtin "bytearray.extend")=pure (.type "method_descriptor"):=by show builtinType _=_;rw[builtinType_eq_fast];kernel_rfl
theorem qj:entryFor table "bytearray.append"=some Builtin.«bytearray.append»:=entryFor_of_tree (by kernel_rfl)
theorem qi:entryFor table "bytearray.extend"=some Builtin.«bytearray.extend»:=entryFor_of_tree (by kernel_rfl)
theorem sT (a b:Value):argsOk "bytearray.append" ⟨[a,b],[]⟩:=by unfold argsOk;kernel_rfl
theorem sS (a b:Value):argsOk "bytearray.extend" ⟨[a,b],[]⟩:=by unfold argsOk;kernel_rfl
theorem zc:typeLookup (.type "bytearray") "__bytes__"=pure none:=by rw[typeLookup_type,builtinLookup_eq_fast];kernel_rfl
theorem B7:typeLookup (.type "bytearray") "__index__"=pure none:=by rw[typeLookup_type,builtinLookup_eq_fast];kernel_rfl
theorem buffer:typeLookup (.type "bytearray") "__buffer__"=pure (some (.builtin "bytearray.__buffer__")):=by rw[typeLookup_type,builtinLookup_eq_fast];kernel_rfl
theorem release:typeLookup (.type "bytearray") "__release_buffer__"=pure (some (.builtin "bytearray.__release_buffer__")):=by rw[typeLookup_type,builtinLookup_eq_fast];kernel_rfl
theorem sub_self:isSubtype (.type "bytearray") (.type "bytearray")=pure true:=by rw[isSubtype_type];kernel_rfl
theorem mro:mroOf (.type "bytearray")=pure [.type "bytearray",.type "object"]:=by rw[mroOf_type];kernel_rfl
theorem tU:typeLookup (.type "bytearray") "__new__"=pure (some (.builtin "bytearray.__new__")):=by rw[typeLookup_type,builtinLookup_eq_fast];kernel_rfl
theorem hU:Slot "bytearray" "__init__" "bytearray.__init__":=
 .of (owner:="bytearray") (n:="__init__") (by rw[typeLookup_type,builtinLookup_eq_fast];kernel_rfl) (by decide+kernel) (by decide+kernel) (by decide+kernel)
   (by first | exact .inl (by decide+kernel) | exact .inr (by decide+kernel)) (by rw[isSubtype_type];kernel_rfl)
theorem called:TypeCalled "bytearray" "bytearray.__new__" "bytearray.__init__":=
 ⟨by decide+kernel,by decide+kernel,⟨_,_,mro⟩,madeBy_type mro tU (by decide+kernel),by decide+kernel,by rw[isSubtype_type];kernel_rfl,hU⟩
theorem typeCall:checkTypeCall "bytearray" ⟨[],[]⟩=pure ():=by kernel_rfl
theorem B9:checkBuiltinCall "bytearray.__new__" ⟨[.type "bytearray"],[]⟩=pure ():=by kernel_rfl
theorem xO:entryFor table "bytearray.__new__"=some Builtin.«list.__new__»:=entryFor_alias (id':="list.__new__") (by kernel_rfl) rfl (by decide+kernel) (by kernel_rfl)
theorem oq:plainId "bytearray.__new__"=true:=by decide+kernel
theorem ug:entryFor table "bytearray.__init__"=some Builtin.«bytearray.__init__»:=entryFor_of_tree (by kernel_rfl)
theorem x6 (a:Value):argsOk "bytearray.__init__" ⟨[a],[]⟩:=by unfold argsOk;kernel_rfl
theorem bind:Builtin.Bytes.bindOptional "bytearray.__init__" "bytearray" ["source","encoding","errors"] [] []=pure [none,none,none]:=by kernel_rfl
theorem jt:plainId "bytearray.extend.loop"=true:=by decide+kernel
theorem ri:plainId "bytearray.extend.end"=true:=by decide+kernel
theorem su:entryFor table "bytearray.extend.loop"=some Builtin.«bytearray.extend.loop»:=entryFor_of_tree (by kernel_rfl)
theorem Aw:entryFor table "bytearray.extend.end"=some Builtin.«bytearray.extend.end»:=entryFor_of_tree (by kernel_rfl)
end BF
section
variable {α β:Type} {c:Cx} {A:Around} {s:Shared} {a l:Addr} {b cs:List UInt8} {Q:Value→Shared→Prop} {R:Result→Shared→Prop} {vs:List Value}
theorem Bb {F:Code×Pos→Bool}:∀{l:List (Code×Pos)},(∀x∈l,F x=false)→l.any F=false
 | [],_=>rfl
 | x::l,h=>by rw[List.any_cons,h x List.mem_cons_self,Bb λy hy=>h y (List.mem_cons_of_mem _ hy)];rfl
theorem allG {P:String→Prop} (h1:P "type.__call__") (h2:P "bytearray.append") (h3:P "bytearray.extend") (h4:P "bytearray.extend.loop") (h5:P "bytearray.extend.end") (h6:P "bytearray.__init__") (h7:P "claim.caller"):∀x,x∈b6→P x:=λx h=>by
 simp only[b6,List.mem_cons,List.not_mem_nil,or_false]at h
 rcases h with rfl | rfl | rfl | rfl | rfl | rfl | rfl<;>assumption
theorem wM {self:Value} {f:Bool→Sem β} {Q:β→Shared→Prop} (h:wp c A (f false) Q s):wp c A (Builtin.Bytes.exported self>>=f) Q s:=ah λΓ p hΓ hg=>by
 show wp c A (f (((Γ.code,p)::Γ.below).any _)) Q s
 rw[Bb]
 · exact h
 · rintro⟨k,p⟩ hx
   have hk:isBad k=false:=(List.mem_cons.mp hx).elim (λe=>(congrArg (λx:Code×Pos=>isBad x.1) e).trans hg.1) (hg.2 _)
   cases k with
   | builtin id args=>
     have hm:id∈b6:=List.contains_iff_mem.mp ((Bool.not_eq_false' _).mp (show (!b6.contains id)=false from hk))
     obtain⟨pos,kw⟩:=args
     have fin:∀{x:Bool} {i:String},Builtin.Bytes.decodersThatHold.contains i=false→(x&&Builtin.Bytes.decodersThatHold.contains i)=false:=λe=>by rw[e,Bool.and_false]
     cases pos with
     | nil=>clear hk hx;revert id;refine allG ?_ ?_ ?_ ?_ ?_ ?_ ?_<;>kernel_rfl
     | cons v r=>clear hk hx;revert id;refine allG ?_ ?_ ?_ ?_ ?_ ?_ ?_<;>exact fin (by decide+kernel)
   | _=>rfl
theorem lN {x:Bool} {t u:Sem α} {Q:α→Shared→Prop} (e:x=false) (h:wp c A u Q s):wp c A (if x=true then t else u) Q s:=weq (if_neg (e▸Bool.false_ne_true)) h
theorem qJ {ba:Array UInt8} {f:Bool→Sem β} {Q:β→Shared→Prop} (ho:s.heap.get? a=some {cls:= .type "bytearray",data:= .bytearray ba}) (h:wp c A (f false) Q s):wp c A ((Builtin.Bytes.exported (.ref a)<||> (do return (←Builtin.Bytes.exportsOf (.ref a))>0))>>=f) Q s:=by
 refine ah ?_
 unfold orM
 refine wM ?_
 show wp c A (Builtin.Bytes.exportsOf (.ref a)>>=_) _ s
 refine ah ?_
 unfold Builtin.Bytes.exportsOf
 exact ah (au (wpAny_load ho (aw (aw h))))
theorem yt {ba:Array UInt8} {f:Unit→Sem β} {Q:β→Shared→Prop} (ho:s.heap.get? a=some {cls:= .type "bytearray",data:= .bytearray ba}) (h:wp c A (f ()) Q s):wp c A (Builtin.Bytes.checkResize (.ref a)>>=f) Q s:=ah (by
 unfold Builtin.Bytes.checkResize
 exact qJ ho (lN rfl (aw h)))
theorem yk {T:String} {name:Str} {id:String} {B:Builtin} {self:Value} {rest:List Value} (slot:Slot T name id) (hbad:b6.contains id=true) (hT:s.TypeIs self T)
 (entry:entryFor table id=some B) (args:argsOk id ⟨self::rest,[]⟩) (h:wp c A.in1 (B ⟨self::rest,[]⟩) (uz c A (qZ Q)) s):wp c A (PySem.call (.builtin id) (self::rest)) Q s:=
 iw (sJ (plainId_quiet slot.plain _) hbad entry (slot.check _ _ _ _ _ _ _ _ hT args (by rw[Around.under_plainId slot.plain];exact h)))
theorem jS (k:UInt8) (t:Tok):Builtin.Bytes.byteValue (.int (k.toNat:Int) t)=pure k:=by
 have h:=k.toNat_lt
 unfold Builtin.Bytes.byteValue
 show (if (decide ((k.toNat:Int)<0) || decide ((k.toNat:Int) ≥ 256))=true then _ else pure _)=_
 rw[if_neg]
 · simp
 · simp;lia
theorem lK {ba:Array UInt8} {f:Array UInt8→Array UInt8} {k:Unit→Sem β} {Q:β→Shared→Prop} (ho:s.heap.get? a=some {cls:= .type "bytearray",data:= .bytearray ba}) (hz:(f ba).size≤sizeLine)
 (h:∀h',Heap.SameBut a s.heap h'→h'.get? a=some {cls:= .type "bytearray",data:= .bytearray (f ba)}→wp c A (k ()) Q {s with heap:=h'}):wp c A (Builtin.Bytes.write (.ref a) f>>=k) Q s:=ah (au (by
 show wpAny _ A (updateBytearray a f) _ _ s
 unfold updateBytearray
 refine wpAny_bind (wpAny_load ho (wpAny_bind (wpAny_update ho ?_)))
 have e:=Heap.get?_update_self (Obj.mapBytearray f) ho rfl
 exact wpAny_lookBehind e (if_neg (Nat.not_lt.mpr hz)) (h _ (Heap.SameBut.update ..) e)))
theorem lY {n:Nat} (h:n≤1048576):n≤sizeLine:=Nat.le_trans h (by rw[sizeLine_eq];decide)
theorem sN {ba:List UInt8}:eL (b++ba)={cls:= .type "bytearray",data:= .bytearray (b.toArray++ba.toArray)}:=by simp
theorem gc {k:UInt8} {t:Tok} (ho:s.heap.get? a=some (eL b)) (hz:b.length≤1048576) (h:∀h' t,Heap.SameBut a s.heap h'→h'.get? a=some (eL (b++[k]))→Q .none {s with heap:=h',toks:=t}):
 wp c A (PySem.call (.builtin "bytearray.append") [.ref a,.int (k.toNat:Int) t]) Q s:=by
 refine yk BF.kC (by decide+kernel) ⟨_,ho,rfl⟩ BF.qj (BF.sT _ _) ?_
 show wp c _ (Builtin.Bytes.byteValue (.int (k.toNat:Int) t)>>=_) _ s
 refine gp (jS ..) (yt ho (lK ho ?_ λh' hs he=>aw (h h' s.toks hs (he.trans ?_))))
 · rw[Array.size_push,List.size_toArray,sizeLine_eq];lia
 · rw[sN];congr 2
theorem ui {id:String} {args:Args} {B:Builtin} (hp:plainId id=true) (hb:entryFor table id=some B) (h:wp c A.in1 (B args) (uz c A R) s):cd c A (.builtin id args) R s:=by
 refine gY ?_
 show wp c _ (match entryFor table id with | some b=>b args | none=>unsupported ((withoutEnding? id "#data").getD id)) _ s
 rw[hb,Around.under_plainId hp];exact h
theorem xe_ok {S:Addr} (ho:s.heap.get? a=some (eL b)) (hS:s.heap.get? S=some (eL cs)) (hsz:b.length+cs.length≤1048576) (h:∀h',Heap.SameBut a s.heap h'→h'.get? a=some (eL (b++cs))→Q .none {s with heap:=h'}):
 cd c A (.builtin "bytearray.extend.end" ⟨[.ref a,.ref l,.ref S],[]⟩) (qZ Q) s:=by
 refine ui BF.ri BF.Aw ?_
 show wp c _ (point>>=_) _ s
 refine ah (au (wpAny_point (ah ?_)))
 unfold Builtin.Bytes.payload Builtin.Bytes.payload?
 refine ah (ah (au (wpAny_load hS (aw (aw ?_)))))
 have wr:wp c A.in1 (Builtin.Bytes.write (.ref a) (· ++cs.toArray)>>=λ_=>ret .none) (uz c A (qZ Q)) s:=
  lK ho (by rw[Array.size_append,List.size_toArray,List.size_toArray];exact lY hsz) λh' hs he=>aw (h h' hs (he.trans (congrArg some sN.symm)))
 show wp c _ (if (!cs.toArray.isEmpty)=true then _ else _) _ s
 exact wif (yt ho wr) wr
noncomputable abbrev Bg (v:Value) (k:UInt8):Prop:=∃t,v= .int (k.toNat:Int) t
theorem All2.at {α β:Type} {R:α→β→Prop}:∀{l:List α} {m:List β} {i:Nat},All2 R l m→i<m.length→∃a b,l[i]? =some a∧m[i]? =some b∧R a b
 | _,_,i,.nil,h=>absurd h (Nat.not_lt_zero _)
 | _::_,_::_,0,.cons r _,_=>⟨_,_,rfl,rfl,r⟩
 | _::l,_::m,i+1,.cons _ t,h=>All2.at (l:=l) (m:=m) (i:=i) t (Nat.lt_of_succ_lt_succ h)
theorem xl_ok {I S:Addr} (hA:A.handled=none) (hv:All2 Bg vs cs) (hsz:b.length+cs.length≤1048576) (hIS:I≠S) (hlI:l≠I) (hlS:l≠S) (haI:a≠I) (haS:a≠S):
 ∀(k i:Nat) (s:Shared),i+k=cs.length→s.heap.get? a=some (eL b)→s.heap.IsList l vs.toArray→s.heap.IsListIter I l i→s.heap.get? S=some (eL (cs.take i))→
  (∀h',(∀x o,x≠a→x≠I→x≠S→s.heap.get? x=some o→h'.get? x=some o)→h'.get? a=some (eL (b++cs))→Q .none {s with heap:=h'})→
  cd c A (.builtin "bytearray.extend.loop" ⟨[.ref a,.ref l,.ref I,.ref S],[]⟩) (qZ Q) s:=by
 have hlen:=hv.length
 intro k
 induction k with
 | zero=>
   intro i s hk ho hl hit hS hR
   obtain rfl:i=cs.length:=hk
   refine ui BF.jt BF.su ?_
   show wp c A.in1 (pyNext (.ref I)>>=_) _ s
   refine ah (au (wpAny_pyNext_list_end hA hit hl (by simp[hlen]) λh' he=>aw ⟨plainId_quiet BF.ri _,(by decide+kernel:(!b6.contains "bytearray.extend.end")=false),?_⟩))
   rw[List.take_length]at hS
   exact xe_ok (s:={s with heap:=h'}) (he a _ haI ho) (he S _ (Ne.symm hIS) hS) hsz λh2 hs h2a=>hR h2 (λx o xa xI _ e=>hs.extBut x o xa (he x o xI e)) h2a
 | succ k ih=>
   intro i s hk ho hl hit hS hR
   obtain⟨x,ch,hx,hc,t,rfl⟩:=hv.at (i:=i) (by lia)
   refine ui BF.jt BF.su ?_
   show wp c A.in1 (pyNext (.ref I)>>=_) _ s
   refine ah (au (wpAny_pyNext_list_item (x:= .int ch.toNat t) hit hl (by simpa using hx) λh' hit' hs=>?_))
   show wp c A.in1 ((holding [.int ch.toNat t] (Builtin.Bytes.byteValue (.int ch.toNat t))).tryCatch _>>=_) _ _
   rw[jS]
   refine ah (wtry (aK (aw (ah (au (wpAny_letGo (lK ((hs.2 S (Ne.symm hIS)).trans hS) (by rw[Array.size_push,List.size_toArray,List.length_take,sizeLine_eq];lia) λh2 hs2 h2S=>aw ⟨plainId_quiet BF.jt _,(by decide+kernel:(!b6.contains "bytearray.extend.loop")=false),?_⟩)))))))
   refine ih (i+1) {s with heap:=h2} (by lia) (hs2.extBut a _ haS (hs.extBut a _ haI ho)) ((hl.extBut hs.extBut hlI).extBut hs2.extBut hlS) (hit'.extBut hs2.extBut hIS) (h2S.trans ?_) λh3 k3 h3a=>hR h3 (λx o xa xI xS e=>k3 x o xa xI xS (hs2.extBut x o xS (hs.extBut x o xI e))) h3a
   rw[List.take_add_one,hc]
   congr 2;simp
theorem gb {m:Nat} (hA:A.handled=none) (ho:s.heap.get? a=some (eL b)) (hl:s.heap.get? l=some (aX vs m)) (hv:All2 Bg vs cs) (hsz:b.length+cs.length≤1048576)
 (h:∀h' t,(∀x o,x≠a→s.heap.get? x=some o→h'.get? x=some o)→h'.get? a=some (eL (b++cs))→Q .none {s with heap:=h',toks:=t}):wp c A (PySem.call (.builtin "bytearray.extend") [.ref a,.ref l]) Q s:=by
 have hl':s.heap.IsList l vs.toArray:=⟨_,hl,rfl,m,rfl⟩
 refine yk BF.kB (by decide+kernel) ⟨_,ho,rfl⟩ BF.qi (BF.sS _ _) ?_
 show wp c _ (specialOf (.ref l) "__buffer__">>=_) _ s
 refine ah (au (wpAny_specialOf hl'.typeIs F.bm_no_buffer (lN rfl (ah (wtry (au (wpAny_pyIter_list hl' ?_)))))))
 have hl₁:(s.heap.push {cls:= .type "list_iterator",data:= .fields #[.ref l,.int 0 0]}).IsList l vs.toArray:=hl'.push _
 have hT₁:({s with heap:=s.heap.push {cls:= .type "list_iterator",data:= .fields #[.ref l,.int 0 0]}}:Shared).TypeIs (.ref l) "list":=Heap.IsList.typeIs (s:={s with heap:=s.heap.push {cls:= .type "list_iterator",data:= .fields #[.ref l,.int 0 0]}}) hl₁
 refine ah (aK (au ?_))
 unfold Builtin.Bytes.lengthHint
 refine wpAny_bind (wpAny_specialOf hT₁ slot_list_len.lookup ?_)
 dsimp only
 rw[F.bm_split]
 refine wpAny_bind (wpAny_isInstance hT₁ F.bm_sub_list (bm_if_false rfl (bm_if_true (by decide+kernel) (wpAny_pure (ah ?_)))))
 unfold Builtin.Bytes.newBytearray
 have hsz':(s.heap.push {cls:= .type "list_iterator",data:= .fields #[.ref l,.int 0 0]}).objs.size=s.heap.objs.size+1:=Heap.size_push _ _
 have lt1:∀{x o},s.heap.get? x=some o→x≠s.heap.objs.size:=λe=>Nat.ne_of_lt (Heap.lt_size e)
 have lt2:∀{x o},s.heap.get? x=some o→x≠(s.heap.push {cls:= .type "list_iterator",data:= .fields #[.ref l,.int 0 0]}).objs.size:=λe=>hsz'▸Nat.ne_of_lt (Nat.lt_succ_of_lt (Heap.lt_size e))
 refine au (wpAny_newObj_type (aw ⟨plainId_quiet BF.jt _,(by decide+kernel:(!b6.contains "bytearray.extend.loop")=false),?_⟩) (Nat.zero_le _))
 exact xl_ok (I:=s.heap.objs.size) hA hv hsz (hsz'▸Nat.ne_of_lt (Nat.lt_succ_self _)) (lt1 hl) (lt2 hl) (lt1 ho) (lt2 ho)
  cs.length 0 _ (Nat.zero_add _) (bh _ _ (bh _ _ ho)) (hl₁.push _) ⟨_,bh _ _ (Heap.get?_push_size _ rfl),rfl,rfl⟩ (Heap.get?_push_size _ rfl) λh' hk ha=>
  h h' s.toks (λx o xa e=>hk x o xa (lt1 e) (lt2 e) (bh _ _ (bh _ _ e))) ha
end
end Mine
end
section
open PySem PySem.W PySem.Calls PyProof.Rows
namespace Mine
noncomputable def ju (T:String):Bool:=["enumerate","zip","dict_itemiterator","dict_reverseitemiterator","odict_iterator","itertools.zip_longest","itertools.pairwise"].contains T
set_option maxRecDepth 1000000 in
set_option maxHeartbeats 4000000 in
theorem iv:("bytearray.__new__".splitOn ".__new__").headD ""= "bytearray":=by first | decide+kernel | simp+decide [String.splitOn,String.splitOnAux]
section
variable {α β:Type} {c:Cx} {A:Around} {s:Shared} {a l:Addr} {b cs:List UInt8} {Q:Value→Shared→Prop} {R:Result→Shared→Prop} {vs:List Value} {ba:Array UInt8}
theorem biter {t:Tok} (hA:A.handled=none) (h:(∀(o:Obj) (St:Nat→Heap→Prop),o.isFreed=false→(∀i h,St i h→∃o T,h.get? s.heap.objs.size=some o∧o.cls= .type T∧ju T=false)→
 (∀A':Around,A'.handled=none→Walks c.prog c.w A' s.heap.objs.size [s.heap.objs.size] [s.heap.objs.size] b.length (λi v=>∃k u,b[i]? =some k∧v= .int (k.toNat:Int) u) St)→St 0 (s.heap.push o)→
 Q (.ref s.heap.objs.size) {s with heap:=s.heap.push o})):wa c A (pyIter (.bytes b.toArray t)) Q s:=by
 refine PySem.W.KBw.pyIter_bytes (h _ (λi h=>PySem.W.KBw.IsBytesIter h s.heap.objs.size b.toArray t i) rfl (λi h ⟨o,ho,hc,_⟩=>⟨o,_,ho,hc,by decide⟩) (λA' hA'=>?_) ⟨_,Heap.get?_push_size _ rfl,rfl,rfl⟩)
 have W:=PySem.W.KBw.walks (prog:=c.prog) (w:=c.w) hA' s.heap.objs.size b.toArray t
 rw[List.size_toArray]at W
 exact⟨W.sub,W.frame,λi s Q E hi st hQ=>W.item i s Q E hi st (λv h' tk ⟨c,u,hc,hv⟩=>hQ v h' tk ⟨c,u,by simpa using hc,hv⟩),W.done,W.self⟩
theorem mK {n id:String} {Q:Bool→Shared→Prop} (ho:s.heap.get? a=some {cls:= .type "bytearray",data:= .bytearray ba})
 (hl:typeLookup (.type "bytearray") n=pure (some (.builtin id))) (he:id.endsWith ("."++n)=true) (hd:id.dropRight (n.length+1)= "bytearray") (h:Q true s):wa c A (Builtin.Bytes.slotIsOwn (.ref a) n) Q s:=by
 unfold Builtin.Bytes.slotIsOwn
 have hT:s.TypeIs (.ref a) "bytearray":=⟨_,ho,rfl⟩
 refine wpAny_bind (wpAny_specialOf hT hl (bm_if_false (by rw[he];rfl) ?_))
 rw[hd]
 first | exact wpAny_isInstance hT BF.sub_self h | exact wpAny_bind (wpAny_pure (wpAny_isInstance hT BF.sub_self h))
theorem ur (ho:s.heap.get? a=some {cls:= .type "bytearray",data:= .bytearray ba}) (hz:ba.size≤sizeLine) (hQ:∀t k,Q (.bytes ba t) {s with toks:=k}):
 codeAny (model c.prog c.w) A (.call (.builtin "bytes.__new__") ⟨[.type "bytes",.ref a],[]⟩) (wants Q λ_ _=>False) s:=by
 refine codeAny_of_tree ?_
 show wpAny _ A.in1 (do checkBuiltinCall "bytes.__new__" ⟨[.type "bytes",.ref a],[]⟩;again (.builtin "bytes.__new__" ⟨[.type "bytes",.ref a],[]⟩)) _ _ s
 refine wpAny_bind (wpAny_of_eq (F.bm_newCall _) (wpAny_pure ⟨plainId_quiet F.bm_plain _,codeAny_builtin F.bm_entry ?_⟩))
 rw[Around.under_plainId F.bm_plain _]
 have hT:s.TypeIs (.ref a) "bytearray":=⟨_,ho,rfl⟩
 unfold Builtin.«bytes.__new__»
 refine wpAny_bind (wpAny_of_eq (a:=true) rfl (bm_if_false rfl ?_))
 refine wpAny_bind (wpAny_of_eq F.bm_sub (bm_if_false rfl ?_))
 refine wpAny_bind (wpAny_of_eq (F.bm_bind _) ?_)
 refine wpAny_bind (wpAny_of_eq (a:=()) rfl ?_)
 refine wpAny_bind (wpAny_of_eq (a:=()) rfl (bm_if_false rfl ?_))
 refine wpAny_bind (wpAny_specialOf hT BF.zc ?_)
 refine wpAny_bind (wpAny_bind ?_)
 show wpAny _ _ (load a>>=_) _ _ _
 refine wpAny_bind (wpAny_load ho (wpAny_pure (wpAny_pure (bm_if_false rfl ?_))))
 refine wpAny_bind (wpAny_specialOf hT BF.B7 (bm_if_true rfl ?_))
 refine wpAny_bind ?_
 unfold Builtin.Bytes.buffer?
 refine wpAny_bind (wpAny_specialOf hT BF.buffer ?_)
 refine wpAny_bind (mK ho BF.buffer (by decide+kernel) (by decide+kernel) (bm_if_false rfl ?_))
 refine wpAny_bind (wpAny_specialOf hT BF.buffer ?_)
 dsimp only
 unfold Builtin.Bytes.ownRelease
 refine wpAny_bind (wpAny_bind (mK ho BF.release (by decide+kernel) (by decide+kernel) (wpAny_pure (bm_if_false rfl ?_))))
 unfold Builtin.Bytes.payload Builtin.Bytes.payload?
 refine wpAny_bind (wpAny_bind (wpAny_bind (wpAny_load ho (wpAny_pure (wpAny_pure ?_)))))
 refine wpAny_pure (wpAny_bind (wpAny_rule (wpAny_bind (wpAny_mkBytes ?_ hz))))
 show wpAny _ _ (if (Value.type "bytes"==Value.type "bytes")=true then _ else _) _ _ _
 exact bm_if_true (by decide) (wpAny_pure (hQ _ _))
theorem Gy (ho:s.heap.get? a=some (eL b)) (hz:b.length≤1048576) (hQ:∀t k,Q (.bytes b.toArray t) {s with toks:=k}):wa c A (PySem.call (.type "bytes") [.ref a]) Q s:=by
 refine callType_codes (Q₁:=λobj s₁=>s₁.TypeIs obj "bytes"∧Q obj s₁) F.bm_called (F.bm_typeCall _) F.entry_object_init
  (ur ho (by rw[List.size_toArray];exact lY hz) λt k=>⟨PySem.W.typeIs_bytes _ _ _,hQ t k⟩) λobj s₁ h₁=>?_
 exact⟨h₁.1,F.args_object_init_2 obj _,object_init_meets F.bm_called.init.lookup F.bm_called.made (by decide) c.prog c.w A.in1 _ s₁ ⟨h₁.1,rfl,h₁.2⟩⟩
theorem i7 {Q₁:Value→Shared→Prop} (h:Q₁ (.ref s.heap.objs.size) {s with heap:=s.heap.push (eL [])}):codeAny (model c.prog c.w) A (.call (.builtin "bytearray.__new__") ⟨[.type "bytearray"],[]⟩) (wants Q₁ λ_ _=>False) s:=by
 refine codeAny_of_tree ?_
 show wpAny _ A.in1 (do checkBuiltinCall "bytearray.__new__" ⟨[.type "bytearray"],[]⟩;again (.builtin "bytearray.__new__" ⟨[.type "bytearray"],[]⟩)) _ _ s
 refine wpAny_bind (wpAny_of_eq BF.B9 (wpAny_pure ⟨plainId_quiet BF.oq _,codeAny_builtin_stack BF.xO rfl λp st=>?_⟩))
 rw[Around.under_plainId BF.oq _]
 have hsub:=BF.sub_self
 have hown:=iv
 refine cF λGG gg=>?_
 obtain⟨hp,g,d,tk,os⟩:=s
 refine gg ?_
 simp only[hown]
 wp_walk
 exact h
theorem Ak {h:Heap} {o:Obj} (ho:h.get? a=some o):o.isFreed=false:=(Heap.get?_some_iff.mp ho).2
theorem qM {h:Heap} {o:Obj} {f:Obj→Obj} (ho:h.get? a=some o) (e:f o=o) (x:Addr):(h.update a f).get? x=h.get? x:=dE (p:=x=a) (λz=>by
 rw[z,Heap.get?_update_self f ho (by rw[e];exact Ak ho),e,ho]) λz=>(Heap.SameBut.update h a f).2 x z
theorem te {f:Array UInt8→Array UInt8} {k:Unit→Sem β} {Q:β→Shared→Prop} (ho:s.heap.get? a=some {cls:= .type "bytearray",data:= .bytearray ba}) (hf:f ba=ba) (hz:ba.size≤sizeLine)
 (h:∀h',(∀x,h'.get? x=s.heap.get? x)→wp c A (k ()) Q {s with heap:=h'}):wp c A (Builtin.Bytes.write (.ref a) f>>=k) Q s:=ah (au (by
 show wpAny _ A (updateBytearray a f) _ _ s
 unfold updateBytearray
 refine wpAny_bind (wpAny_load ho (wpAny_bind (wpAny_update ho ?_)))
 have e:Obj.mapBytearray f {cls:= .type "bytearray",data:= .bytearray ba}=({cls:= .type "bytearray",data:= .bytearray ba}:Obj):=by
  show ({cls:=_,data:= .bytearray (f ba) _}:Obj)=_
  rw[hf]
 have q:=qM ho e
 exact wpAny_lookBehind ((q a).trans ho) (if_neg (Nat.not_lt.mpr hz)) (h _ q)))
theorem binit {A':Around} (ho:s.heap.get? a=some (eL [])) (h:∀h',(∀x,h'.get? x=s.heap.get? x)→R (.ok (.ret .none)) {s with heap:=h'}):wp c A (Builtin.«bytearray.__init__» ⟨[.ref a],[]⟩) (uz c A' R) s:=by
 unfold Builtin.«bytearray.__init__»
 show wp c _ (Builtin.Bytes.ownRelease (.ref a)>>=_) _ s
 unfold Builtin.Bytes.ownRelease
 refine ah (ah (au (mK ho BF.release (by decide+kernel) (by decide+kernel) (aw (lN rfl ?_)))))
 refine gp BF.bind (gp (a:=()) rfl (gp (a:=()) rfl (qJ ho (lN rfl (te ho rfl (Nat.zero_le _) λh' hk=>?_)))))
 dsimp only
 exact ah (lN rfl (lN rfl (aw (aw (h h' hk)))))
theorem xW {id:String} {args:Args} {b:Builtin} (hb:entryFor table id=some b) (h:wp c (A.under (.builtin id args)) (b args) (uz c A R) s):cd c A (.builtin id args) R s:=by
 refine gY ?_
 show wp c _ (match entryFor table id with | some b=>b args | none=>unsupported ((withoutEnding? id "#data").getD id)) _ s
 rw[hb];exact h
theorem bnew (h:∀h',(∀x,h'.get? x=(s.heap.push (eL [])).get? x)→Q (.ref s.heap.objs.size) {s with heap:=h'}):wp c A (PySem.call (.type "bytearray") []) Q s:=by
 refine iw (gY ?_)
 show wp c _ (callAny (.type "bytearray") _) _ _
 show wp c _ (pure (Fin.again (.builtin "type.__call__" ⟨[.type "bytearray"],[]⟩))) _ s
 refine aw ⟨Code.quiet_builtin _ (by decide+kernel),(by decide+kernel:(!b6.contains "type.__call__")=false),xW F.entry_type_call ?_⟩
 unfold Builtin.«type.__call__»
 dsimp only
 refine lN BF.called.notType (lN BF.called.canCreate ?_)
 refine gp BF.typeCall (gp BF.mro (lN rfl (gp BF.called.made ?_)))
 refine fL (ah (aK (iw (AM (cany (i7 (Q₁:=λv s₁=>v= .ref s.heap.objs.size∧s₁={s with heap:=s.heap.push (eL [])}) ⟨rfl,rfl⟩)) λr s₁ z=>?_))))
 have z:qZ (λv s₁=>v= .ref s.heap.objs.size∧s₁={s with heap:=s.heap.push (eL [])}) r s₁:=by rcases r with e | (v | _ | _ | _)<;>first | exact z | exact z.elim
 cases r with
 | error _=>exact z
 | ok f=>cases f with
   | ret v=>
     obtain⟨rfl,rfl⟩:=z
     have ho:(s.heap.push (eL [])).get? s.heap.objs.size=some (eL []):=Heap.get?_push_size _ rfl
     have hT:({s with heap:=s.heap.push (eL [])}:Shared).TypeIs (.ref s.heap.objs.size) "bytearray":=⟨_,ho,rfl⟩
     refine ah (au (wpAny_isInstance hT BF.sub_self (lN rfl (ah (aK ?_)))))
     unfold callSpecial?
     refine ah (au (wpAny_specialOf hT BF.hU.lookup ?_))
     dsimp only
     refine aK ?_
     rw[BF.hU.bind]
     refine fL (ah ?_)
     show wp c _ (PySem.call (.builtin "bytearray.__init__") [.ref s.heap.objs.size]) _ _
     refine yk BF.hU (by decide+kernel) hT BF.ug (BF.x6 _) (binit (s:={s with heap:=s.heap.push (eL [])}) ho λh' hk=>?_)
     exact aw (lN rfl (aw (h h' hk)))
   | _=>exact z
end
end Mine
end
section
open PySem PySem.W PySem.Calls PyProof.Rows
namespace Mine
theorem bmE {α:Type} {P:Prop} {c:Bool} {x y:Option α} {a:α} (h:(match c with | true=>x | false=>y)=some a) (k:c=true→x=some a→P) (k2:c=false→y=some a→P):P:=by
 cases c with
 | false=>exact k2 rfl h
 | true=>exact k rfl h
section
variable {c:Cx} {n m:Nat} {sc:Scope} {env:Env} {loc l1 l2:Loc} {g g' g₀:Gh} {led led' led₁ led₂ led₃:Led} {s s':Shared} {h h' h₀:Heap} {A:Around} {d y z:D} {v vo:Value} {x k:Str} {pos p0 apos:Pos} {e el er o:Expr} {es args:List Expr} {a b p q:AV} {as:List AV} {ds:List D} {vs:List Value} {md:Md} {kd:Kd} {f:Value} {ca:Str→Addr} {F:FH}
theorem iR:∀{l:List DictEntry} {ps:List (Str×Value)},All2 nF l ps→l.any (·.refKey)=false
 | _,_,.nil=>rfl
 | _,_,.cons x r=>by
   rw[List.any_cons,iR r]
   exact x.1.elim λt e=>by simp[DictEntry.refKey,e]
theorem oA (x:Str):∀{l:List DictEntry} {ps:List (Str×Value)},All2 nF l ps→(l.find? (·.key.isStr x)).map (·.val)=get ps x
 | _,_,.nil=>rfl
 | e::l,p::ps,.cons z r=>by
   have k:e.key.isStr x=eqS p.1 x:=z.1.elim λt q=>by
    rw[q]
    show (p.1==x)=_
    rw[Bool.eq_iff_iff,beq_iff_eq,aG]
   rw[List.find?_cons,k]
   exact cE (eqS p.1 x) (λq=>by rw[q,aB q];exact congrArg some z.2) λq=>by rw[q,ak q];exact oA x r
theorem NsObj.look {o:Obj} {ps:List (Str×Value)} (n:NsObj o ps) (x:Str):lookIn x o=some (get ps x):=n.elim λes n=>n.elim λep n=>by
 unfold lookIn
 rw[n.1]
 dsimp only
 have l:=oA x n.2.1
 cases q:es.toList.find? (·.key.isStr x)with
 | some e=>rw[q]at l;rw[←l];rfl
 | none=>rw[q]at l;rw[←l,iR n.2.1];rfl
theorem jc.at:∀{fs:List (Str×D)} {ps:List (Str×Value)} {d:D},jc ca F k fs ps→get fs x=some d→di k x=true∧∃v,get ps x=some v∧Rep ca F d v
 | [],_,_,_,e=>nE e
 | (_,_)::_,[],_,r,_=>r.elim
 | (y,d₀)::fs,p::ps,d,r,e=>cE (eqS y x)
   (λk=>⟨aG.mp k▸r.2.1,p.2,aB (r.1.symm▸k),Option.some.inj ((aB (p:=(y,d₀)) k).symm.trans e)▸r.2.2.1⟩)
   λk=>have q:=jc.at r.2.2.2 ((ak (p:=(y,d₀)) k).symm.trans e)
    ⟨q.1,q.2.imp λv w=>⟨(ak (r.1.symm▸k)).trans w.1,w.2⟩⟩
theorem cm.at:∀{fs:List (Str×AV)} {ps:List (Str×Value)} {d:AV},cm c g k fs ps→get fs x=some d→di k x=true∧∃v,get ps x=some v∧ay c g d v
 | [],_,_,_,e=>nE e
 | _::_,[],_,r,_=>r.elim
 | y::fs,p::ps,d,r,e=>cE (eqS y.1 x)
   (λk=>⟨aG.mp k▸r.2.1,p.2,aB (r.1.symm▸k),Option.some.inj ((aB k).symm.trans e)▸r.2.2.1⟩)
   λk=>have q:=cm.at r.2.2.2 ((ak k).symm.trans e)
    ⟨q.1,q.2.imp λv w=>⟨(ak (r.1.symm▸k)).trans w.1,w.2⟩⟩
theorem jc.miss (h:di k x=false):∀{fs:List (Str×D)} {ps:List (Str×Value)},jc ca F k fs ps→get ps x=none
 | [],_,r=>(show _=[] from r)▸rfl
 | (_,_)::_,[],r=>r.elim
 | (y,d₀)::fs,p::ps,r=>(ak (r.1.symm▸eo.mpr λz=>Bool.false_ne_true (h.symm.trans (z▸r.2.1)))).trans (jc.miss h r.2.2.2)
theorem cm.miss (h:di k x=false):∀{fs:List (Str×AV)} {ps:List (Str×Value)},cm c g k fs ps→get ps x=none
 | [],_,r=>(show _=[] from r)▸rfl
 | _::_,[],r=>r.elim
 | y::fs,p::ps,r=>(ak (r.1.symm▸eo.mpr λz=>Bool.false_ne_true (h.symm.trans (z▸r.2.1)))).trans (cm.miss h r.2.2.2)
theorem mf (r:Rep ca F d v):handedIn v=true:=by
 have R:∀{P:Addr→Prop},(∃a,P a∧v= .ref a)→handedIn v=true:=λz=>z.elim λa q=>q.2▸rfl
 cases d with
 | none=>exact(show v= .none from r)▸rfl
 | bool b=>exact(show v= .bool b from r)▸rfl
 | int=>exact r.elim λt q=>q▸rfl
 | str=>exact r.elim λt q=>q▸rfl
 | byt=>exact r.elim λt q=>q▸rfl
 | list=>exact R (r.imp λa z=>z.elim λ_ z=>z.elim λ_ z=>⟨trivial,z.1⟩)
 | tup=>exact R (r.imp λa z=>z.elim λ_ z=>z.elim λ_ z=>⟨trivial,z.1⟩)
 | dict=>exact R (r.imp λa z=>z.elim λ_ z=>z.elim λ_ z=>⟨trivial,z.1⟩)
 | obj=>exact R (r.imp λa z=>z.elim λ_ z=>z.elim λ_ z=>z.elim λ_ z=>⟨trivial,z.1⟩)
theorem q7 (r:ay c g a v):handedIn v=true:=by
 cases a with
 | v d=>exact mf r
 | r n=>rw[r.2];rfl
theorem i9 {attr:Str} {whole:Sem Value} (h:bare o=true):attributeBase o attr env whole=whole:=by
 refine FL ?_ h
 clear h
 induction o using Expr.casesOn with
 | Call f as ks p=>induction f using Expr.casesOn with
   | Name x q=>rcases as with _ | _<;>rcases ks with _ | _<;>first | exact trivial | exact rfl
   | _=>exact rfl
 | _=>exact rfl
theorem oJ {dx i:Addr} {ob:Obj} {ps:List (Str×Value)} {Q:Value→Shared→Prop} (N:Nice c env loc g led s) (h1:s.heap.get? i=some (instObj (c.ca k) dx)) (h2:s.heap.get? dx=some ob) (n:NsObj ob ps) (hf:di k x=true) (hv:get ps x=some v) (hh:handedIn v=true) (q:Q v {s with toks:=s.toks+1}):
 wa c A (getAttr (.ref i) x true) Q s:=
 get_value N.KI (I:=(⟨h1,rfl,rfl,h2⟩:InstAt s.heap i (instObj (c.ca k) dx) (c.ca k) (some ob))) (c.W.ga k x hf).1 ((c.W.cls k x hf).elim λcd z=>by
  unfold findObj
  rw[z.1,Option.bind_some,z.2.2,Option.bind_some,Option.bind_some,Option.bind_some]
  dsimp only
  unfold PySem.W.ownOf
  rw[z.2.1,if_pos rfl]
  dsimp only
  rw[n.look,hv]
  rfl) hh q
theorem A7 {fs:List (Str×D)} (N:Nice c env loc g led s) (r:Rep c.ca g.F (.obj k fs) v) (e:get fs x=some d):wa c A (getAttr v x true) (bL c env loc g s.heap led (.v d)) s:=
 r.elim λi r=>r.elim λdx r=>r.elim λob r=>r.elim λps r=>r.1▸have q:=r.2.2.2.2.at e
  q.2.elim λu w=>oJ N (N.inv.fz _ _ (Gh.F_iff.mp r.2.1)) (N.inv.fz _ _ (Gh.F_iff.mp r.2.2.1)) r.2.2.2.1 q.1 w.1 (mf w.2) (fP N w.2)
theorem sQ (N:Nice c env loc g led s) (r:Rep c.ca g.F d v) (e:A8 x d=some b):wa c A (getAttr v x true) (bL c env loc g s.heap led b) s:=by
 cases d with
 | obj k fs=>exact mE e λd q e=>sE e (A7 N r q)
 | _=>exact nE e
theorem Dm (N:Nice c env loc g led s) (r:ay c g a v) (e:g5 led x a=some b):wa c A (getAttr v x true) (bL c env loc g s.heap led b) s:=by
 cases a with
 | v d=>exact sQ N r e
 | r n=>
   refine bE e λo q e=>?_
   cases o with
   | obj k fs=>exact N.inv.objE q λo ps t td hi hd n rf=>have w:=rf.at e;w.2.elim λu w'=>r.2▸oJ N hi hd n w.1 w'.1 (q7 w'.2) (fh N w'.2)
   | frz d=>exact sQ N (r.2▸N.inv.led _ _ q) e
   | _=>exact nE e
theorem CT (e:g5 led₁ x p=some a) (hb:bare o=true) (ho:Ex c n sc loc o led p led₁):Gv c n sc loc (.Attribute o x pos) led a led₁:=λM=>
 weq (arm_eval_Attribute ..) (weq (congrArg (· >>=_) (i9 hb)) (stp M (ho.gv M) λv s₁ g₁ M₁ X₁ r₁=>aA (stp M₁ (aK (au (Dm M₁.n r₁ e))) λu s₂ g₂ M₂ X₂ r₂=>wtmp (here M₂ r₂))))
noncomputable def af (c:Cx) (n:Nat) (x:Str) (args:List AV) (led:Led) (a:AV) (l1:Led):Prop:=
 ∀⦃A env loc g s vs⦄,AOk n A→Nice c env loc g led s→aQ c g args vs→wp c A (PySem.call (c.fv x) vs) (bL c env loc g s.heap l1 a) s
noncomputable abbrev Keeps (c:Cx) (f:Value):Prop:=∀h,c.KF.In h→∃k,(k=Keeper.frame∨k=Keeper.machine∨k=Keeper.boundFrame)∧Looks (model c.prog c.w) h (keeperOf f) k
theorem EK {f:Value} {Q:Args→Shared→Prop} (hs:∀e∈es,bK e≠0) (h:wp c A (spliced (backTo pos (starEach es env))) (λvs s'=>Q ⟨vs,[]⟩ s') s):wp c A (evalArgs f true (backTo pos (starEach es env)) []) Q s:=by
 cases es with
 | nil=>exact λΓ p hΓ hg=>EL (h Γ p hΓ hg) Γ p hΓ hg
 | cons e r=>
   rw[fN (hs e List.mem_cons_self)]at h ⊢
   exact wargs h
theorem gZ {first:List Value} {R:Gh→List Value→Prop} {Q:Value→Shared→Prop} (hk:Keeps c f) (E:Evs c n sc loc args led R led₁) (M:At c n sc loc led env A g s)
 (h:∀{vs g₁ s₁},At c n sc loc led₁ env A g₁ s₁→Ext false g s.heap g₁ s₁.heap→R g₁ vs→wp c A (PySem.call f (first++vs)) Q s₁):wp c A (callWith pos f first (backTo pos (starEach args env)) []) Q s:=
 EJ (by rw[o3 E.pl];rfl) (EK E.pl (bc (E.run M) λvs s₁ q=>by
  cases q with
  | mk g₁ N₁ X₁ r₁=>exact⟨hk _ N₁.KI,h (M.to N₁) X₁ r₁⟩))
theorem jR {first:List Value} (hk:Keeps c f) (E:EvL c n sc loc args led as led₁) (M:At c n sc loc led env A g s)
 (h:∀{vs g₁ s₁},At c n sc loc led₁ env A g₁ s₁→Ext false g s.heap g₁ s₁.heap→aQ c g₁ as vs→wp c A (PySem.call f (first++vs)) (bL c env loc g₁ s₁.heap led₂ a) s₁):
 wp c A (callWith pos f first (backTo pos (starEach args env)) []) (bL c env loc g s.heap led₂ a) s:=gZ hk E M λM₁ X₁ r=>bc (h M₁ X₁ r) λ_ _=> .trans X₁
theorem CR (C:af c n x as led₁ a led₂) (E:EvL c n sc loc args led as led₁) (hf:vP tab x=true) (ht:cv sc loc x=true):Gv c n sc loc (.Call (.Name x p0) args [] pos) led a led₂:=λM=>
 have w:=c.W.fn x hf
 weq (arm_eval_Call_Name' ..) (ah (au (vX M (mJ ht) w.1 w.2.1 (jR (keeps_K w.2.2) E M λM₁ X₁ r₁=>C M₁.a M₁.n r₁))))
theorem eh:∀k:Blt,Keeps c (AZ k):=λk h _=>⟨.machine,.inr (.inl rfl),by cases k<;>exact Looks.now⟩
@[elab_as_elim] theorem eB {W:List Value→Prop} (r:aQ c g [a] vs) (k:∀v,ay c g a v→W [v]):W vs:=by
  cases vs with
  | nil=>exact r.elim
  | cons v vs=>rw[show vs=[] from r.2];exact k v r.1
@[elab_as_elim] theorem y5 {W:List Value→Prop} (r:aQ c g (a::as) vs) (k:∀v vs,ay c g a v→aQ c g as vs→W (v::vs)):W vs:=by
  cases vs with
  | nil=>exact r.elim
  | cons v vs=>exact k v vs r.1 r.2
theorem xG {k:Blt} (e:f5 k y=some d) (hy:view led₁ p=some y) (hk:get f9 x=some k) (E:EvL c n sc loc args led [p] led₁) (ht:cv sc loc x=true):Gv c n sc loc (.Call (.Name x p0) args [] pos) led (.v d) led₁:=λM=>
 weq (arm_eval_Call_Name' ..) (ah (au (ky M ht hk (jR (eh _) E M λM₁ X₁ r₁=>eB r₁ λv r=>au (xX M₁.a.hd M₁.n (M₁.n.inv.sees r hy) e)))))
theorem GA {lo:LO} {b:List UInt8} (h:Ej lo=some b):lo= .byt b:=by
 cases lo with
 | byt _=>exact congrArg _ (Option.some.inj h)
 | _=>exact nE h
@[elab_as_elim] theorem uq {nb:Nat×List UInt8} (I:Inv c g led h) (r:ay c g a v) (e:oS led a=some nb) {P:Value→Prop} (k:g.tag (g.adr nb.1)=some (.own nb.1)→h.get? (g.adr nb.1)=some (eL nb.2)→P (.ref (g.adr nb.1))):P v:=by
  cases a with
  | v _=>exact nE e
  | r n=>
    refine mE e λb hb e=>bE hb λo q hb=>?_
    rw[GA hb]at q
    rw[←Option.some.inj e]at k
    rw[r.2]
    exact k (I.led _ _ q).1 (I.led _ _ q).2
theorem zY (e:bytesOf led₁ as=some d) (hk:get f9 x=some .bytes) (E:EvL c n sc loc args led as led₁) (ht:cv sc loc x=true):Gv c n sc loc (.Call (.Name x p0) args [] pos) led (.v d) led₁:=λM=>
 weq (arm_eval_Call_Name' ..) (ah (au (ky M ht hk (jR (eh _) E M λM₁ X₁ r₁=>bE e λa ha e=>bE e λnb hn e=>gE e λq e=>eE e (by
  rw[rm ha]at r₁
  exact eB r₁ λv r=>uq M₁.n.inv r hn λt ho=>au (Gy ho (bq q) λt k=>fP (d:= .byt nb.2) M₁.n ⟨t,rfl⟩))))))
end
end Mine
end
section
open PySem PySem.W PySem.Calls PyProof.Rows
namespace Mine
noncomputable def Cj:Md→String
 | .join=>"str.join"
 | .append=>"list.append"
 | .extend=>"list.extend"
 | .get=>"dict.get"
 | .gc=>"bytearray.append"
 | .gb=>"bytearray.extend"
noncomputable def At1 (h:Heap) (v:Value) (T:String):Prop:=∃a o,v= .ref a∧h.get? a=some o∧o.cls= .type T∧o.dict=none
noncomputable def dC (ca:Str→Addr) (h:Heap) (v:Value):Kd→Prop
 | .str=>∃x t,v= .str x t
 | .list=>At1 h v "list"
 | .dict=>At1 h v "dict"
 | .byt=>At1 h v "bytearray"
 | .obj c=>∃a dx o ps,v= .ref a∧h.get? a=some (instObj (ca c) dx)∧h.get? dx=some o∧NsObj o ps∧∀m,di c m=false→get ps m=none
section
variable {c:Cx} {n m:Nat} {sc:Scope} {env:Env} {loc l1 l2:Loc} {g g' g₀:Gh} {led led' led₁ led₂ led₃:Led} {s s':Shared} {h h' h₀:Heap} {A:Around} {d y z:D} {v vo vk vz:Value} {x k:Str} {pos p0 apos:Pos} {e el er o:Expr} {es args:List Expr} {a b p q:AV} {as:List AV} {ds:List D} {vs ws:List Value} {md:Md} {kd:Kd} {f:Value} {ca:Str→Addr} {F:FH}
theorem rN (I:Inv c g led h) (r:Rep c.ca g.F d v) (e:zA d=some kd):dC c.ca h v kd:=by
 cases d with
 | str x=>exact sE e (r.elim λt q=>⟨x,t,q⟩:dC c.ca h v .str)
 | list l=>exact sE e (r.elim λa r=>r.elim λvs r=>r.elim λn r=>⟨a,_,r.1,I.fz _ _ (Gh.F_iff.mp r.2.1),rfl,rfl⟩:dC c.ca h v .list)
 | dict l=>exact sE e (r.elim λa r=>r.elim λo r=>r.elim λps r=>⟨a,o,r.1,I.fz _ _ (Gh.F_iff.mp r.2.2.1),r.2.2.2.1.1.1,r.2.2.2.1.1.2.1⟩:dC c.ca h v .dict)
 | obj k fs=>exact sE e (r.imp λa r=>r.imp λdx r=>r.imp λo r=>r.imp λps r=>⟨r.1,I.fz _ _ (Gh.F_iff.mp r.2.1),I.fz _ _ (Gh.F_iff.mp r.2.2.1),r.2.2.2.1,λm hm=>r.2.2.2.2.miss hm⟩:dC c.ca h v (.obj k))
 | _=>exact nE e
theorem rO (I:Inv c g led h) (r:ay c g a v) (e:kJ led a=some kd):dC c.ca h v kd:=by
 cases a with
 | v d=>exact rN I r e
 | r n=>
   refine bE e λo q e=>?_
   rw[r.2]
   cases o with
   | list xs=>exact sE e (I.listE q λvs m t ho r=>⟨_,_,rfl,ho,rfl,rfl⟩:dC c.ca h (.ref (g.adr n)) .list)
   | refs xs=>exact sE e (I.refsE q λm t ho r=>⟨_,_,rfl,ho,rfl,rfl⟩:dC c.ca h (.ref (g.adr n)) .list)
   | lrefs xs=>exact sE e (I.lrefsE q λm t r=>⟨_,_,rfl,I.fz _ _ t,rfl,rfl⟩:dC c.ca h (.ref (g.adr n)) .list)
   | dict xs=>exact sE e (I.oM q λo ps t z ho hd r=>⟨_,_,rfl,ho,hd.1.1,hd.1.2.1⟩:dC c.ca h (.ref (g.adr n)) .dict)
   | byt b=>exact sE e (⟨_,_,rfl,(I.led _ _ q).2,rfl,rfl⟩:dC c.ca h (.ref (g.adr n)) .byt)
   | obj k fs=>exact sE e (I.objE q λo ps t td hi hd n rf=>⟨_,_,o,ps,rfl,hi,hd,n,λm hm=>rf.miss hm⟩:dC c.ca h (.ref (g.adr _)) (.obj k))
   | frz d=>exact rN I (I.led _ _ q) e
theorem r7 {T id:String} {pl:Sem Bool} {Q:Value×List Value→Shared→Prop} {nm:Str} (pa:PlainAttrs T) (sl:Slot T nm id) (ty:typeOf (.builtin id)=pure (.type "method_descriptor")) (hk:At1 s.heap v T) (hn:eqS x nm=true) (q:Q (.builtin id,[v]) s):wa c A (getMethod v x pl) Q s:=
 hk.elim λa z=>z.elim λo z=>by
  rw[aG.mp hn]
  rw[z.1]at q ⊢
  exact getMethod_builtin ⟨o,z.2.1,z.2.2.1⟩ pa sl ty (λb e=>by cases e;exact⟨o,z.2.1,z.2.2.2⟩) q
theorem mdQ {md':Md} {Q:Value×List Value→Shared→Prop} (e:some md'=some md) (q:Q (.builtin (Cj md),[v]) s):Q (.builtin (Cj md'),[v]) s:=by cases e;exact q
theorem CY {pl:Sem Bool} {Q:Value×List Value→Shared→Prop} (hk:dC c.ca s.heap v kd) (e:Fq kd x=some md) (q:Q (.builtin (Cj md),[v]) s):wa c A (getMethod v x pl) Q s:=by
 cases kd with
 | str=>
   refine tE e λz e=>Exists.elim hk λy u=>Exists.elim u λt u=>?_
   rw[←Option.some.inj e]at q
   rw[aG.mp z]
   rw[u]at q ⊢
   exact getMethod_builtin (typeIs_str _ _ _) PySem.F.plainAttrs_str PySem.F.slot_str_join PySem.F.type_str_join (λa z=>nomatch z) q
 | list=>exact bmE e (λz e=>r7 PySem.F.plainAttrs_list PySem.F.slot_list_append PySem.F.type_list_append hk z (mdQ e q)) λ_ e=>tE e λz e=>r7 PySem.F.plainAttrs_list PySem.F.slot_list_extend PySem.F.type_list_extend hk z (mdQ e q)
 | dict=>exact tE e λz e=>r7 PySem.F.plainAttrs_dict PySem.F.slot_dict_get PySem.F.type_dict_get hk z (mdQ e q)
 | byt=>exact bmE e (λz e=>r7 BF.mr BF.kC BF.qO hk z (mdQ e q)) λ_ e=>tE e λz e=>r7 BF.mr BF.kB BF.qN hk z (mdQ e q)
 | obj c=>exact nE e
theorem oY:∀{ds:List D} {vs:List Value} {ss:List Str},aJ ca F ds vs→kR iG ds=some ss→∃l:List (Str×Tok),vs=strValues l∧l.map (·.1)=ss
 | [],_,_,r,e=>sE e ⟨[],r,rfl⟩
 | _::_,[],_,r,_=>r.elim
 | d::ds,v::vs,ss,r,e=>bE e λx hx e=>bE e λr' hr e=>sE e ((show Rep ca F (.str x) v from Bz hx▸r.1).elim λt q=>(oY r.2 hr).elim λl w=>⟨(x,t)::l,by rw[q,w.1];rfl,by rw[List.map_cons,w.2]⟩)
theorem jf:∀l:List Str,ew l=(l.map (·.length)).sum
 | []=>rfl
 | x::l=>by rw[ew,jf l];rfl
theorem FG {sep:Str} {ss:List Str} (h:fits (ew ss+sep.length * ss.length)=true):JoinOk sep ss=true:=by
 have h:=Nat.le_of_ble_eq_true h
 unfold JoinOk
 rw[StrLaws.joinTotal]
 rw[jf,most]at h
 simp only[Builtin.Str.tooLong,Bool.not_eq_true',decide_eq_false_iff_not,Nat.not_lt]
 rw[Nat.mul_comm]at h
 rw[sizeLine_eq]
 lia
noncomputable def MdR (c:Cx) (n:Nat) (md:Md) (o:AV) (as:List AV) (led:Led) (a:AV) (l1:Led):Prop:=
 ∀{A env loc g s vo vs},AOk n A→Nice c env loc g led s→ay c g o vo→aQ c g as vs→wp c A (PySem.call (.builtin (Cj md)) (vo::vs)) (bL c env loc g s.heap l1 a) s
theorem Cc {sep:Str} {xs:List D} (hd:rR sep xs=some d) (hx:ck y=some xs) (hy:view led a=some y):MdR c n .join (.v (.str sep)) [a] led (.v d) led:=λ{A env loc g s vo vs} _ N ro ra=>eB ra λv r=>by
 refine au (ro.elim λt q=>q▸cS hx (N.inv.sees r hy) λi m ws hi rw'=>bE hd λss hs e=>gE e λq e=>(oY rw' hs).elim λl w=>?_)
 rw[w.1]at hi
 rw[←w.2]at q e
 exact PySem.SC.join ⟨_,hi,rfl,_,rfl⟩ rfl (FG q) λt' k=>by
  rw[show Txt.join sep (l.map (·.1))=Str.join sep (l.map (·.1)) from StrLaws.glued_eq_join _ _]
  exact e▸fP N (BW _ _)
theorem jv {lo:LO} {t:Nat} (N:Nice c env loc g led s) (ha:g.tag (g.adr n)=some (.own n)) (hs:∀x o,x≠g.adr n→s.heap.get? x=some o→h'.get? x=some o) (hl:aS h' (g.adr n)) (r:g9 c g h' n lo):bL c env loc g s.heap (put led n lo) (.v .none) .none {s with heap:=h',toks:=t}:=
 k8 N (Go.setOwn N.inv (.inl ha) hs hl r) rfl
theorem jb {lo:LO} (N:Nice c env loc g led s) (t:g.tag (g.adr n)=some (.own n)) (ho:s.heap.get? (g.adr n)=some (aX vs m)) (hsz:vs.length≤1048576) (R:∀h',h'.get? (g.adr n)=some (aX (vs++[v]) (m+1))→g9 c g h' n lo):
 wa c A (PySem.call (.builtin "list.append") [.ref (g.adr n),v]) (bL c env loc g s.heap (put led n lo) (.v .none)) s:=
 append_at ho (λh' hs ho'=>have ho':=ho'.trans (congrArg some (by simp[aX]));jv N t hs.extBut ⟨_,ho'⟩ (R h' ho')) (by rw[List.size_toArray];exact lY hsz)
theorem BX {l:List D} {us:List Value} (rl:aJ c.ca g.F l us) (r:ay c g (.v d) v):aJ c.ca g.F (l++[d]) (us++[v]):=rl.append ⟨r,rfl⟩
theorem Fp {i:Nat} {xs:List D} (hf:fits xs.length=true) (hi:led[i]? =some (.list xs)):MdR c n .append (.r i) [.v d] led (.v .none) (put led i (.list (xs++[d]))):=λ_ N ro ra=>eB ra λv r=>au (N.inv.listE hi λus m t ho rl=>
 ro.2▸jb (lo:= .list (xs++[d])) N t ho (rl.len▸bq hf) λh' ho'=>⟨t,_,_,ho',BX rl r⟩)
theorem vC {ns:List Nat} {j:Nat} (hl:∀k∈ns,k<m) (hj:j<m):∀k∈ns++[j],k<m:=λk hk=>(List.mem_append.mp hk).elim (hl k) λe=>List.mem_singleton.mp e▸hj
theorem Ci {i j:Nat} (hi:led[i]? =some (.list [])):MdR c n .append (.r i) [.r j] led (.v .none) (put led i (.refs [j])):=λ_ N ro ra=>eB ra λv r=>au (N.inv.listE hi λus m t ho rl=>by
 rw[show us=[] from rl]at ho
 rw[ro.2,r.2]
 exact jb (lo:= .refs [j]) N t ho (Nat.zero_le _) λh' ho'=>⟨t,⟨_,ho'⟩,vC (ns:=[]) (λ_ z=>nomatch z) r.1⟩)
theorem Cg {i j:Nat} {ns:List Nat} (hf:fits ns.length=true) (hi:led[i]? =some (.refs ns)):MdR c n .append (.r i) [.r j] led (.v .none) (put led i (.refs (ns++[j]))):=λ_ N ro ra=>eB ra λv r=>au (N.inv.refsE hi λm t ho hl=>by
 rw[ro.2,r.2]
 exact jb (lo:= .refs (ns++[j])) N t ho (by rw[List.length_map];exact bq hf) λh' ho'=>⟨t,⟨_,by rw[iB,List.map_append];exact ho'⟩,vC hl r.1⟩)
theorem ue {k:Nat} {i:Addr} {lo:LO} (N:Nice c env loc g led s) (t:g.tag (g.adr n)=some (.own n)) (ho:s.heap.get? (g.adr n)=some (aX vs m)) (hb:s.heap.get? i=some (aX ws k)) (hsz:vs.length+ws.length≤1048576)
 (R:∀h' m',h'.get? (g.adr n)=some (aX (vs++ws) m')→g9 c g h' n lo):wa c A (PySem.call (.builtin "list.extend") [.ref (g.adr n),.ref i]) (bL c env loc g s.heap (put led n lo) (.v .none)) s:=by
 have hsz':vs.toArray.size+ws.toArray.size≤sizeLine:=by rw[List.size_toArray,List.size_toArray];exact lY hsz
 refine call_meets PySem.F.slot_list_extend ⟨_,ho,rfl⟩ PySem.F.entry_list_extend (PySem.F.args_list_extend_2 _ _) (AutoSeq1.list_extend_list_list_0 (g.adr n) vs.toArray m i ws.toArray k (extend_door hsz') (Nat.le_trans (Nat.le_add_right _ _) hsz') (Nat.le_succ_of_le hsz')) ⟨ho,hb,?_⟩
 have ho':=Heap.get?_update_self (Obj.mapSeq λx=>x++ws.toArray) ho (by rw[mapSeq_app];rfl)
 rw[mapSeq_app,List.append_toArray]at ho'
 exact jv N t (Heap.SameBut.update ..).extBut ⟨_,ho'⟩ (R _ _ ho')
theorem Fm {i:Nat} {xs ys:List D} (hf:fits (xs.length+ys.length)=true) (hy:ck y=some ys) (ha:view led a=some y) (hi:led[i]? =some (.list xs)):MdR c n .extend (.r i) [a] led (.v .none) (put led i (.list (xs++ys))):=λ_ N ro ra=>eB ra λv r=>au (N.inv.listE hi λus m t ho rl=>
 ro.2▸cS hy (N.inv.sees r ha) λj k ws hj rw'=>ue (lo:= .list (xs++ys)) N t ho hj (by rw[rl.len,rw'.len];exact bq hf) λh' m' ho'=>⟨t,_,_,ho',rl.append rw'⟩)
theorem Fj {l:List (Int×D)} {i:Int} (hi:dk z=some i) (hk:view led p=some z) (hl:qt y=some l) (hy:view led a=some y):MdR c n .get a [p,.v d] led (.v ((dU l i).getD d)) led:=λ{A env loc g s vo vs} _ N ro ra=>y5 ra λvk _ rk ra=>eB ra λvz rz=>au (dK hi (N.inv.sees rk hk) λt=>u7 hl (N.inv.sees ro hy) λj o ps hs hd hD rk'=>by
 have hm:=Heap.DictOf.mapOf (hD.dictOf (c:=c) hd)
 refine call_meetsIn PySem.F.slot_dict_get hm.typeIs PySem.F.entry_dict_get (PySem.F.args_dict_get_3 _ _ _) (meets_dict_get_default (iK c) j (k:=i) kL hs vz) ⟨_,hm,?_⟩
 have q:=cX.at i rk'
 revert q
 generalize dU l i=u
 generalize valueAt ps i=w
 intro q
 cases q with
 | none=>exact fP N rz
 | some q=>exact fP N q)
theorem Eh {k:UInt8} (e:oR d=some k):d= .int (k.toNat:Int):=bE e λn hn e=>tE e λq e=>by
 have q':(UInt8.ofNat n).toNat=n:=(UInt8.toNat_ofNat' ..).trans (Nat.mod_eq_of_lt (Nat.le_of_ble_eq_true q))
 rw[natE hn,←Option.some.inj e,q']
theorem sM:∀{ds:List D} {vs:List Value} {cs:List UInt8},aJ ca F ds vs→kR oR ds=some cs→All2 Bg vs cs
 | [],_,_,r,e=>sE e ((show _=[] from r)▸ .nil)
 | _::_,[],_,r,_=>r.elim
 | d::ds,v::vs,cs,r,e=>bE e λx hx e=>bE e λr' hr e=>sE e (.cons (show Rep ca F (.int (x.toNat:Int)) v from Eh hx▸r.1) (sM r.2 hr))
theorem Ce {i:Nat} {k:UInt8} {b:List UInt8} (hf:fits b.length=true) (hk:oR d=some k) (hb:oS led a=some (i,b)):MdR c n .gc a [.v d] led (.v .none) (put led i (.byt (b++[k]))):=λ{A env loc g s vo vs} _ N ro ra=>eB ra λv r=>uq N.inv ro hb λt ho=>(show Rep c.ca g.F (.int (k.toNat:Int)) v from Eh hk▸r).elim λu q=>q▸gc ho (bq hf) λh' t' hs ho'=>jv (lo:= .byt (b++[k])) N t hs.extBut ⟨_,ho'⟩ ⟨t,ho'⟩
theorem Cd {i:Nat} {cs b:List UInt8} {ys:List D} (hf:fits (b.length+cs.length)=true) (hc:kR oR ys=some cs) (hy:ck y=some ys) (hp:view led p=some y) (hb:oS led a=some (i,b)):MdR c n .gb a [p] led (.v .none) (put led i (.byt (b++cs))):=λ{A env loc g s vo vs} M N ro ra=>eB ra λv r=>uq N.inv ro hb λt ho=>cS hy (N.inv.sees r hp) λl k ws hl rw'=>gb M.hd ho hl (sM rw' hc) (bq hf) λh' t' hs ho'=>jv (lo:= .byt (b++cs)) N t hs ⟨_,ho'⟩ ⟨t,ho'⟩
theorem Fi (e:iA led md a as=some (b,led₁)):MdR c n md a as led b led₁:=by
 cases md with
 | join=>exact bE e λd hd e=>bE e λsep hs e=>bE e λp hp e=>bE e λx hx e=>bE e λxs hl e=>mE e λd hj e=>by rw[jB hd,Bz hs,rm hp];exact pE e (Cc hj hl hx)
 | get=>cases as with
   | nil=>exact nE e
   | cons k r=>exact bE e λz hz e=>bE e λz' hz' e=>bE e λd hd e=>bE e λl hl e=>bE e λkd hk e=>bE e λi hi e=>by rw[rm hz,jB hz'];exact pE e (Fj hi hk hl hd)
 | gc=>exact bE e λnb hn e=>bE e λp hp e=>bE e λd hd e=>bE e λk hk e=>tE e λq e=>by rw[rm hp,jB hd];exact pE e (Ce q hk hn)
 | gb=>exact bE e λnb hn e=>bE e λp hp e=>bE e λd hd e=>bE e λl hl e=>bE e λk hk e=>tE e λq e=>by rw[rm hp];exact pE e (Cd q hk hl hd hn)
 | _=>exact nE e
theorem wb (hf:eU args=true) (hs:∀e∈args,bK e≠0):methodCallForm (args.length+([]:List Keyword).length) (backTo pos (starEach args env)) (backToKw pos (keywordEach [] env))=true:=by
 unfold methodCallForm
 rw[all_plain hs]
 exact decide_eq_true (Nat.lt_of_le_of_lt (Nat.le_of_ble_eq_true hf:args.length≤20) (by decide):args.length+0+0<30)
theorem vt (hp:Nat.beq apos.endLine pos.line=true):methodCallPos true o env apos pos=pure pos:=by
 unfold methodCallPos
 simp[Nat.eq_of_beq_eq_true hp]
theorem gv_md (C:MdR c n md p as led₂ a led₃) (E:EvL c n sc loc args led₁ as led₂) (hm:Fq kd x=some md) (hk:kJ led₁ p=some kd) (ho:Ex c n sc loc o led p led₁) (hb:bare o=true) (hp:Nat.beq apos.endLine pos.line=true) (hf:eU args=true):
 Gv c n sc loc (.Call (.Attribute o x apos) args [] pos) led a led₃:=λM=>weq (arm_eval_Call ..) (weq (congrArg (· >>=_) (i9 hb)) (stp M (ho.gv M) λv s₁ g₁ M₁ X₁ r₁=>aA (by
 unfold methodCall
 rw[wb hf E.pl]
 exact ah (aK (au (CY (rO M₁.n.inv r₁ hk) hm (gp (vt hp) (jR (λh _=>⟨.machine,.inr (.inl rfl),Looks.now⟩) E M₁ λM₂ X₂ r₂=>C M₂.a M₂.n (X₂.repA M₁.n.inv r₁) r₂))))))))
theorem CN (C:af c n (dot k x) (p::as) led₂ a led₃) (E:EvL c n sc loc args led₁ as led₂) (hm:tS k x=true) (hk:kJ led₁ p=some (.obj k)) (ho:Ex c n sc loc o led p led₁) (hb:bare o=true) (hp:Nat.beq apos.endLine pos.line=true) (hf:eU args=true):
 Gv c n sc loc (.Call (.Attribute o x apos) args [] pos) led a led₃:=λM=>weq (arm_eval_Call ..) (weq (congrArg (· >>=_) (i9 hb)) (stp M (ho.gv M) λv s₁ g₁ M₁ X₁ r₁=>aA (by
 unfold methodCall
 rw[wb hf E.pl]
 have w:=c.W.meth k x hm
 exact w.2.1.elim λy hy=>w.2.2.elim λfa hfa=>(rO M₁.n.inv r₁ hk).elim λi q=>q.elim λdx q=>q.elim λob q=>q.elim λps q=>
  ah (aK (au (q.1▸method_fn M₁.n.KI (⟨q.2.1,rfl,rfl,q.2.2.1⟩:InstAt _ i (instObj (c.ca k) dx) (c.ca k) (some ob)) (c.W.ga k y hy).1 (c.W.ga k y hy).2 hfa.2.1 hfa.2.2.1
   (by unfold shadowIn;dsimp only;rw[q.2.2.2.1.look,q.2.2.2.2 x w.1];rfl)
   (gp (vt hp) (jR (keeps_K hfa.2.2.2) E M₁ λM₂ X₂ r₂=>hfa.1▸C M₂.a M₂.n (⟨X₂.repA M₁.n.inv (q.1▸r₁),r₂⟩:aQ c _ (p::as) (_::_))))))))))
end
end Mine
end
section
open PySem PySem.W PySem.Calls PyProof.Rows
namespace Mine
structure Runs (c:Cx) (h₀:Heap) (g:Gh) (h:Heap) (I:Addr) (as:List AV) (fp wr:List Addr) (P:Nat→Value→Prop) (St:Nat→Heap→Prop):Prop where
 walks:∀A:Around,A.handled=none→Walks c.prog c.w A I fp wr as.length P St
 st:St 0 h
 wrOk:∀b∈wr,¬aS h₀ b∧g.tag b=none
 fpOk:∀b∈fp,aS h b∧Still true (g.tag b)
 item:∀i v,P i v→∃a,as[i]? =some a∧ay c g a v
 live:∀i h,St i h→∀b∈fp,aS h b
 plain:∀i h,St i h→∃o T,h.get? I=some o∧o.cls= .type T∧ju T=false
inductive Rns (c:Cx) (h₀:Heap) (as:List AV) (g:Gh) (h:Heap):Value→Prop where
 | mk {I fp wr P St} (r:Runs c h₀ g h I as fp wr P St):Rns c h₀ as g h (.ref I)
noncomputable abbrev gB (c:Cx) (env:Env) (loc:Loc) (g:Gh) (h:Heap) (led':Led) (as:List AV):Value→Shared→Prop:=Pst c env loc false g h led' (Rns c h as)
inductive Src (c:Cx) (g:Gh) (as:List AV):Bool→Value→Prop where
 | list {i vs m} (t:g.tag i=some (.fz (aX vs m))) (hl:as.length=vs.length) (hi:∀(i:Nat) (v:Value),vs[i]? =some v→∃a,as[i]? =some a∧ay c g a v):Src c g as true (.ref i)
 | tup {i vs m} (t:g.tag i=some (.fz (nJ vs m))) (hl:as.length=vs.length) (hi:∀(i:Nat) (v:Value),vs[i]? =some v→∃a,as[i]? =some a∧ay c g a v):Src c g as false (.ref i)
structure ItR (c:Cx) (n:Nat) (sc:Scope) (loc:Loc) (e:Expr) (led:Led) (as:List AV) (l1:Led):Prop where
 run:∀{env A g s},At c n sc loc led env A g s→wp c A (eval e env) (λx s₁=>wa c A (pyIter x) (gB c env loc g s.heap l1 as) s₁) s
 pl:bK e≠0
section
variable {c:Cx} {n m:Nat} {sc:Scope} {env:Env} {loc l1 l2:Loc} {g g' g₀:Gh} {led led' led₁ led₂ led₃:Led} {s s':Shared} {h h' h₀:Heap} {A:Around} {d y z:D} {v vo vk vz:Value} {x k:Str} {pos p0 apos:Pos} {e el er o:Expr} {es args:List Expr} {a b p q:AV} {as:List AV} {ds:List D} {vs ws:List Value} {f:Value} {ca:Str→Addr} {F:FH} {i:Addr}
theorem aJ.item:∀{ds:List D} {vs:List Value} {n:Nat} {v:Value},aJ ca F ds vs→vs[n]? =some v→∃d,ds[n]? =some d∧Rep ca F d v
 | [],_,_,_,r,e=>by rw[show _=[] from r]at e;exact nE e
 | _::_,[],_,_,r,_=>r.elim
 | d::_,_::_,0,_,r,e=>⟨d,rfl,Option.some.inj e▸r.1⟩
 | _::_,_::_,n+1,_,r,e=>aJ.item (n:=n) r.2 e
theorem hV {ob:Obj} {P:Nat→Value→Prop} {St:Nat→Heap→Prop} {rest:List Addr} {t:Nat} (N:Nice c env loc g led s) (ho:ob.isFreed=false) (st:St 0 (s.heap.push ob)) (hr:∀b∈rest,∃o,g.tag b=some (.fz o))
 (W:∀A:Around,A.handled=none→Walks c.prog c.w A s.heap.objs.size (s.heap.objs.size::rest) [s.heap.objs.size] as.length P St) (item:∀i v,P i v→∃a,as[i]? =some a∧ay c g a v)
 (pl:∀i h,St i h→(∃o T,h.get? s.heap.objs.size=some o∧o.cls= .type T∧ju T=false)∧∀b∈rest,aS h b):gB c env loc g s.heap led as (.ref s.heap.objs.size) {s with heap:=s.heap.push ob,toks:=t}:=
 ⟨g,N.junk ob,(Go.junk N.inv ob).ext,.mk ⟨W,st,λb hb=>List.mem_singleton.mp hb▸⟨bj,N.inv.fresh⟩,λb hb=>(List.mem_cons.mp hb).elim (λe=>e▸⟨⟨_,Heap.get?_push_size _ ho⟩,N.inv.fresh▸trivial⟩) λe=>(hr b e).elim λo q=>⟨⟨_,bh _ _ (N.inv.fz _ _ q)⟩,q▸trivial⟩,item,
   λi h q b hb=>(List.mem_cons.mp hb).elim (λe=>e▸(pl i h q).1.elim λo z=>z.elim λT z=>⟨o,z.1⟩) ((pl i h q).2 b),λi h q=>(pl i h q).1⟩⟩
theorem Ag {ob:Obj} (t:g.tag i=some (.fz ob)):∀b∈[i],∃o,g.tag b=some (.fz o):=λb hb=>List.mem_singleton.mp hb▸⟨ob,t⟩
theorem xk (hA:A.handled=none) (N:Nice c env loc g led s) (t:g.tag i=some (.fz (aX vs m))) (hl:as.length=vs.length) (hi:∀(i:Nat) (v:Value),vs[i]? =some v→∃a,as[i]? =some a∧ay c g a v):wa c A (pyIter (.ref i)) (gB c env loc g s.heap led as) s:=
 have ha:=N.inv.fz _ _ t
 wpAny_pyIter_list ⟨_,ha,rfl,_,rfl⟩ (hV N rfl (P:=λi v=>vs.toArray[i]? =some v) (St:=λj h=>h.IsListIter s.heap.objs.size i j∧h.IsList i vs.toArray) ⟨⟨_,Heap.get?_push_size _ rfl,rfl,rfl⟩,⟨_,bh _ _ ha,rfl,_,rfl⟩⟩ (Ag t)
  (λA' hA'=>by rw[hl,←List.size_toArray (as:=vs)];exact Walks.list hA' _ i (Nat.ne_of_lt (Heap.lt_size ha)) _) (λj v e=>hi j v ((List.getElem?_toArray ..).symm.trans e))
  λj h q=>⟨q.1.elim λo z=>⟨o,_,z.1,z.2.1,by decide⟩,λb hb=>List.mem_singleton.mp hb▸q.2.elim λo z=>⟨o,z.1⟩⟩)
theorem yy (hA:A.handled=none) (N:Nice c env loc g led s) (t:g.tag i=some (.fz (nJ vs m))) (hl:as.length=vs.length) (hi:∀(i:Nat) (v:Value),vs[i]? =some v→∃a,as[i]? =some a∧ay c g a v):wa c A (pyIter (.ref i)) (gB c env loc g s.heap led as) s:=
 have ha:=N.inv.fz _ _ t
 wpAny_pyIter_tuple ⟨_,ha,rfl,_,rfl⟩ (hV N rfl (P:=λi v=>vs.toArray[i]? =some v) (St:=λj h=>h.IsTupleIter s.heap.objs.size i j∧h.IsTuple i vs.toArray) ⟨⟨_,Heap.get?_push_size _ rfl,rfl,rfl⟩,⟨_,bh _ _ ha,rfl,_,rfl⟩⟩ (Ag t)
  (λA' hA'=>by rw[hl,←List.size_toArray (as:=vs)];exact Walks.tuple hA' _ i (Nat.ne_of_lt (Heap.lt_size ha)) _) (λj v e=>hi j v ((List.getElem?_toArray ..).symm.trans e))
  λj h q=>⟨q.1.elim λo z=>⟨o,_,z.1,z.2.1,by decide⟩,λb hb=>List.mem_singleton.mp hb▸q.2.elim λo z=>⟨o,z.1⟩⟩)
theorem pM {α:Type} {l:List α} {f:α→AV} {j:Nat} {u:α} (e:l[j]? =some u) (r:ay c g (f u) v):∃a,(l.map f)[j]? =some a∧ay c g a v:=⟨f u,by rw[List.getElem?_map,e];rfl,r⟩
theorem mi (r:aJ c.ca g.F ds vs):∀(i:Nat) (v:Value),vs[i]? =some v→∃a,(ds.map AV.v)[i]? =some a∧ay c g a v:=λi v e=>(r.item e).elim λd q=>pM q.1 q.2
theorem tG {ns:List Nat} (hk:∀k∈ns,k<g.len):∀(i:Nat) (v:Value),(iB g ns)[i]? =some v→∃a,(ns.map AV.r)[i]? =some a∧ay c g a v:=λi v e=>by
 rw[List.getElem?_map]at e
 exact mE e λk h1 e=>pM h1 ⟨hk k (List.mem_of_getElem? h1),(Option.some.inj e).symm⟩
theorem u4 (t:g.tag i=some (.fz (aX vs m))) (r:aJ c.ca g.F ds vs):Src c g (ds.map .v) true (.ref i):= .list t (by rw[List.length_map,r.len]) (mi r)
theorem qU {ns:List Nat} (t:g.tag i=some (.fz (aX (iB g ns) m))) (hk:∀k∈ns,k<g.len):Src c g (ns.map .r) true (.ref i):= .list t (by rw[List.length_map,List.length_map]) (tG hk)
theorem DW {xs:List D} (r:Rep c.ca g.F (.list xs) v):Src c g (xs.map .v) true v:=Exists.elim r λa r=>r.elim λvs r=>r.elim λn r=>r.1▸u4 (Gh.F_iff.mp r.2.1) r.2.2
theorem u3 {xs:List D} (r:Rep c.ca g.F (.tup xs) v):Src c g (xs.map .v) false v:=Exists.elim r λa r=>r.elim λvs r=>r.elim λn r=>r.1▸ .tup (Gh.F_iff.mp r.2.1) (by rw[List.length_map,r.2.2.len]) (mi r.2.2)
theorem src_list (I:Inv c g led h) (r:ay c g a v) (hl:dh led a=true) (e:items a led=some (as,led')):∃g',Go c false g h g' led' h∧Src c g' as true v:=by
 cases a with
 | v d=>cases d with
   | list xs=>exact pE e ⟨g,.refl I,DW r⟩
   | _=>exact ftE hl
 | r n=>
   refine bE e λo q e=>?_
   rw[r.2]
   cases o with
   | list xs=>exact pE e (I.listE q λvs m t ho rl=>⟨_,Go.frzD (d:= .list xs) I t ho (eA dG (rl.mono (jh (dT t)))),u4 cJ (rl.mono (jh (dT t)))⟩)
   | frz d=>exact bE e λxs hx e=>pE e ⟨g,.refl I,DW (by have r:=I.led _ _ q;rw[listE hx]at r;exact r)⟩
   | refs ns=>exact pE e (I.refsE q λm t ho hk=>⟨_,Go.frz (lo:= .lrefs ns) I t ho ⟨⟨m,cJ⟩,hk⟩,qU (g:=g.tg _ _) cJ hk⟩)
   | lrefs ns=>exact pE e (I.lrefsE q λm t hk=>⟨g,.refl I,qU t hk⟩)
   | _=>exact nE e
theorem qT {b:Bool} (hA:A.handled=none) (N:Nice c env loc g led s) (r:Src c g as b v):wa c A (pyIter v) (gB c env loc g s.heap led as) s:=by
 cases r with
 | list t hl hi=>exact xk hA N t hl hi
 | tup t hl hi=>exact yy hA N t hl hi
theorem xo (hA:A.handled=none) (N:Nice c env loc g led s) (r:Rep c.ca g.F d v) (hl:(ck d).isSome=false) (e:zE d=some as):wa c A (pyIter v) (gB c env loc g s.heap led as) s:=by
 cases d with
 | list l=>exact tfE hl
 | tup l=>exact sE e (qT hA N (u3 r))
 | str x=>
   refine sE e (r.elim λt q=>?_)
   rw[q]
   have it:∀i v,SignAt x i v→∃a,(x.cps.toList.map λc=>AV.v (sI c))[i]? =some a∧ay c g a v:=λi v z=>z.elim λk z=>z.elim λu z=>pM (Array.getElem?_toList.trans z.1) ⟨u,z.2⟩
   have hl:(x.cps.toList.map λc=>AV.v (sI c)).length=x.cps.size:=by rw[List.length_map,Array.length_toList]
   have nb:∀{P:Addr→Prop},∀b∈([]:List Addr),P b:=λ_ z=>nomatch z
   exact cE (x.cps.all (· <128))
    (λha=>wpAny_pyIter_ascii ha (hV N rfl (P:=SignAt x) (St:=λi h=>h.IsStrIter s.heap.objs.size "str_ascii_iterator" x t i) ⟨_,Heap.get?_push_size _ rfl,rfl,rfl⟩ nb (λA' hA'=>hl▸Walks.strAscii hA' _ x t) it λi h q=>⟨q.elim λo z=>⟨o,_,z.1,z.2.1,by decide⟩,nb⟩))
    λha=>wpAny_pyIter_wide ha (hV N rfl (P:=SignAt x) (St:=λi h=>h.IsStrIter s.heap.objs.size "str_iterator" x t i) ⟨_,Heap.get?_push_size _ rfl,rfl,rfl⟩ nb (λA' hA'=>hl▸Walks.strWide hA' _ x t) it λi h q=>⟨q.elim λo z=>⟨o,_,z.1,z.2.1,by decide⟩,nb⟩)
 | byt b=>exact sE e (r.elim λt q=>q▸biter hA λo St hf hL hW hst=>hV (rest:=[]) N hf hst (λ_ z=>nomatch z) (λA' hA'=>by rw[List.length_map];exact hW A' hA') (λi v (z:∃k u,b[i]? =some k∧v= .int (k.toNat:Int) u)=>z.elim λk z=>z.elim λu z=>pM z.1 ⟨u,z.2⟩) λi h q=>⟨hL i h q,λ_ z=>nomatch z⟩)
 | _=>exact nE e
theorem gN {g₁:Gh} {h₁:Heap} (X:Ext false g h g₁ h₁) (p:gB c env loc g₁ h₁ led' as v s'):gB c env loc g h led' as v s':=by
 cases p with
 | mk g₂ N Y r=>cases r with | mk R=>exact⟨g₂,N,X.trans Y,.mk ⟨R.walks,R.st,λb hb=>⟨λl=>(R.wrOk b hb).1 (X.live b l),(R.wrOk b hb).2⟩,R.fpOk,R.item,R.live,R.plain⟩⟩
theorem it_go {m:Sem Value} (S:Go c false g s.heap g' led' s.heap) (h:wa c A m (gB c env loc g' s.heap led' as) s):wa c A m (gB c env loc g s.heap led' as) s:=wpAny_mono h (λ_ _=>gN S.ext) λ_ _ e=>e
theorem zD (hA:A.handled=none) (N:Nice c env loc g led s) (r:ay c g a v) (e:items a led=some (as,led')):wa c A (pyIter v) (gB c env loc g s.heap led' as) s:=cE (dh led a)
 (λq=>(src_list N.inv r q e).elim λg' z=>it_go z.1 (qT hA (N.gh z.1) z.2))
 λq=>by
  cases a with
  | v d=>exact mE e λl hl e=>pE e (xo hA N r q hl)
  | r n=>
    refine bE e λo ho e=>?_
    have q:(led[n]?.map vR).getD false=false:=q
    rw[ho]at q
    cases o with
    | frz d=>exact bE e λxs hx e=>by have q:(ck d).isSome=false:=q;rw[hx]at q;exact tfE q
    | list _=>exact tfE q
    | refs _=>exact tfE q
    | lrefs _=>exact tfE q
    | _=>exact nE e
theorem it_ev (h:items p led₁=some (as,led₂)) (he:Ex c n sc loc e led p led₁):ItR c n sc loc e led as led₂:=⟨λM=>wgo M (he.gv M) λv s₁ g₁ M₁ X₁ r₁=>wpAny_mono (zD M₁.a.hd M₁.n r₁ h) (λ_ _=>gN X₁) λ_ _ e=>e,he.pl⟩
theorem qK:∀(n i:Nat),(cY i n).length=n
 | 0,_=>rfl
 | n+1,i=>congrArg (· +1) (qK n (i+1))
theorem uT:∀(n i j:Nat),j<n→(cY i n)[j]? =some (.v (.int ((i+j:Nat):Int)))
 | 0,_,_,h=>absurd h (Nat.not_lt_zero _)
 | _+1,_,0,_=>rfl
 | n+1,i,j+1,h=>(uT n (i+1) j (Nat.lt_of_succ_lt_succ h)).trans (by rw[Nat.add_right_comm];rfl)
theorem tI (hA:A.handled=none) (hn:n≤1048576) (N:Nice c env loc g led s) {r:Addr} {t1 t2 t3:Tok} (hr:IsRange s.heap r 0 n 1 t1 t2 t3):wa c A (pyIter (.ref r)) (gB c env loc g s.heap led (cY 0 n)) s:=by
 have hsz:Builtin.Range.rangeSize 0 (n:Int) 1=(n:Int):=by rw[rangeSize_one];split<;>lia
 refine wpAny_pyIter_range hr (small_one (by decide) (by decide) (by lia) (by lia)) (hV (rest:=[]) N rfl (P:=λi v=>(∃t,v= .int (0+i * 1) t)∧i<n) (St:=λi h=>IsRangeIter h s.heap.objs.size (0+(i:Nat) * 1) ((n:Int) - (i:Nat)) 1) ?_ (λ_ z=>nomatch z) (λA' hA'=>?_) (λi v z=>⟨_,uT n 0 i z.2,z.1.elim λt q=>⟨t,q.trans (by simp)⟩⟩) λi h q=>⟨⟨_,_,q,rfl,by decide⟩,λ_ z=>nomatch z⟩)
 · show IsRangeIter _ _ (0+((0:Nat):Int) * 1) ((n:Int) - ((0:Nat):Int)) 1
   rw[show (0+((0:Nat):Int) * 1)=0 from rfl,show ((n:Int) - ((0:Nat):Int))=Builtin.Range.rangeSize 0 (n:Int) 1 by rw[hsz];simp]
   exact Heap.get?_push_size _ rfl
 · rw[qK]
   have W:=Walks.range (prog:=c.prog) (w:=c.w) hA' s.heap.objs.size 0 1 n
   exact⟨W.sub,W.frame,λi s Q E hi st hQ=>W.item i s Q E hi st (λv h' tk hv=>hQ v h' tk ⟨hv,hi⟩),W.done,W.self⟩
theorem zH (h:lu e=some (x,el)):∃p pos,e= .Call (.Name x p) [el] [] pos∧x= "range":=bE h λq hq h=>bE h λa ha h=>tE h λhx h=>(uo hq).elim λp z=>z.elim λpos z=>pE h ⟨p,pos,by rw[z,show q.2=[a] from rm ha],aG.mp hx⟩
theorem zF {j:Int} (hf:fits m=true) (hm:nat? j=some m) (hi:bX p=some j) (he:Ex c n sc loc el led p led₁) (ht:cv sc loc x=true) (hr:lu e=some (x,el)):ItR c n sc loc e led (cY 0 m) led₁:=(zH hr).elim λp0 z=>z.elim λpos z=>by
 rw[z.1]
 refine⟨λ{env A g s} M=>?_,λz=>nomatch z⟩
 refine weq (arm_eval_Call_Name' ..) (ah (au (ky (k:= .range) M ht (z.2▸by kernel_rfl) (gZ (eh .range) (jL (as:=[]) (fY λ_=>rfl) he) M λ{vs g₁ s₁} M₁ X₁ r₁=>eB r₁ λv r=>w7 hi r λt=>?_))))
 rw[xf hm]
 exact au (call_range_1 (wpAny_mono (tI M₁.a.hd (bq hf) (M₁.n.junk {cls:= .type "range",data:= .fields #[.int 0 s₁.toks,.int (m:Int) t,.int 1 (s₁.toks+1)]}) (IsRange.new _ _ _ _ _ _ _)) (λ_ _=>gN (X₁.trans (Go.junk M₁.n.inv _).ext)) λ_ _ e=>e))
end
end Mine
end
section
open PySem PySem.W PySem.Calls PyProof.Rows
namespace Mine
noncomputable def reK (env:Env) (x:Str) (k:NameKind):NameKind:=if (k==NameKind.free&&env.scope.kind== .function&&env.kindOf x==some .cell)then .cell else k
noncomputable def i8 (env:Env):List (Str×NameKind)→List (Str×Addr)→List (Str×Addr)
 | [],acc=>acc
 | p::r,acc=>if p.2== .free then i8 env r ((p.1,(env.cells.lookup p.1).getD 0)::acc)else i8 env r acc
noncomputable def NmOk (env:Env) (x y:Str):NameKind→Prop
 | .local=>y=x∨y= ".0"
 | .free=>y≠x∧y≠ ".0"∧y≠ "__debug__"∧env.kindOf y=some .cell
 | .globalImplicit=>y≠x∧y≠ ".0"∧y≠ "__debug__"
 | _=>False
structure CompOk (env:Env) (sc:Scope) (x:Str):Prop where
 kind:sc.kind= .function
 names:∀p∈sc.names,NmOk env x p.1 p.2
 own:get sc.names x=some .local
 dbg:x≠("__debug__":Str)
section
variable {c:Cx} {n m:Nat} {sc sc0:Scope} {env:Env} {loc l1 l2:Loc} {g g' g₀:Gh} {led led' led₁ led₂ led₃:Led} {s s':Shared} {h h' h₀:Heap} {A:Around} {d y z:D} {v vo vk vz:Value} {x k:Str} {pos p0 apos:Pos} {a b p q:AV} {as:List AV} {i:Addr} {C:Addr} {cl:List (Str×Addr)}
theorem str_beq {x y:Str}:(x==y)=eqS y x:=by rw[Bool.eq_iff_iff,beq_iff_eq,aG,eq_comm]
theorem c8 {α:Type} {l:List (Str×α)} {p:Str×α} {x:Str} (h:eqS p.1 x=true):(p::l).lookup x=some p.2:=by rw[List.lookup_cons,str_beq,h]
theorem c9 {α:Type} {l:List (Str×α)} {p:Str×α} {x:Str} (h:eqS p.1 x=false):(p::l).lookup x=l.lookup x:=by rw[List.lookup_cons,str_beq,h]
theorem dy {α:Type} (x:Str):∀l:List (Str×α),get l x=l.lookup x
 | []=>rfl
 | p::l=>cE (eqS p.1 x) (λe=>(aB e).trans (c8 e).symm) λe=>(ak e).trans ((dy x l).trans (c9 e).symm)
theorem lookup_mem {α:Type} {x:Str} {a:α}:∀{l:List (Str×α)},l.lookup x=some a→(x,a)∈l
 | [],e=>nE e
 | p::l,e=>cE (eqS p.1 x) (λq=>List.mem_cons.mpr (.inl (Prod.ext (aG.mp q).symm (Option.some.inj ((c8 q).symm.trans e)).symm))) λq=>List.mem_cons_of_mem _ (lookup_mem ((c9 q).symm.trans e))
theorem mem_lookup {α:Type} {x:Str} {a:α}:∀{l:List (Str×α)},(x,a)∈l→∃b,l.lookup x=some b
 | [],e=>nomatch e
 | p::l,e=>cE (eqS p.1 x) (λq=>⟨_,c8 q⟩) λq=>(List.mem_cons.mp e).elim (λz=>ftE (q.symm.trans (aG.mpr (congrArg (·.1) z).symm))) λz=>(mem_lookup z).imp λb w=>(c9 q).trans w
theorem gQ (env:Env) (x:Str):∀l:List (Str×NameKind),(l.map λ(n,k)=>if (k==NameKind.free&&env.scope.kind== .function&&env.kindOf n==some .cell)then (n,NameKind.cell)else (n,k)).lookup x=(l.lookup x).map (reK env x)
 | []=>rfl
 | p::l=>by
   rw[List.map_cons]
   have e1:(if (p.2==NameKind.free&&env.scope.kind==ScopeKind.function&&env.kindOf p.1==some NameKind.cell)=true then (p.1,NameKind.cell)else (p.1,p.2))=(p.1,reK env p.1 p.2):=by unfold reK;split<;>rfl
   dsimp only
   rw[e1]
   exact cE (eqS p.1 x) (λq=>by rw[c8 (p:=(p.1,reK env p.1 p.2)) q,c8 q,←aG.mp q];rfl) λq=>by rw[c9 (p:=(p.1,reK env p.1 p.2)) q,c9 q];exact gQ env x l
theorem jH {k:NameKind} (q:(k==NameKind.free)=true):k= .free:=by
 cases k<;>first | rfl | exact ftE q
theorem uk {p:Str×NameKind} {r:List (Str×NameKind)} (q:p.2= .free):i8 env (p::r) cl=i8 env r ((p.1,(env.cells.lookup p.1).getD 0)::cl):=if_pos (by rw[q];rfl)
theorem um {p:Str×NameKind} {r:List (Str×NameKind)} (q:¬(p.2== .free)=true):i8 env (p::r) cl=i8 env r cl:=if_neg q
theorem ig {x:Str} {a:Addr}:∀{l:List (Str×NameKind)} {acc:List (Str×Addr)},(∀p∈l,p.2= .free→∃a,env.cells.lookup p.1=some a)→(i8 env l acc).lookup x=some a→
 acc.lookup x=some a∨((x,NameKind.free)∈l∧env.cells.lookup x=some a)
 | [],_,_,e=> .inl e
 | p::r,acc,h,e=>dE (p:=(p.2==NameKind.free)=true) (λq=>by
    have k:=jH q
    rw[uk k]at e
    refine(ig (λm hm=>h m (List.mem_cons_of_mem _ hm)) e).elim (λz=>?_) λz=> .inr ⟨List.mem_cons_of_mem _ z.1,z.2⟩
    refine cE (eqS p.1 x) (λb=>?_) λb=> .inl ((c9 (p:=(p.1,(env.cells.lookup p.1).getD 0)) b).symm.trans z)
    have w:=(c8 (p:=(p.1,(env.cells.lookup p.1).getD 0)) b).symm.trans z
    exact(h p List.mem_cons_self k).elim λa' ha=> .inr ⟨List.mem_cons.mpr (.inl (Prod.ext (aG.mp b).symm k.symm)),by rw[ha]at w;rw[←aG.mp b,ha];exact w⟩)
   λq=>by
    rw[um q]at e
    exact(ig (λm hm=>h m (List.mem_cons_of_mem _ hm)) e).imp id λz=>⟨List.mem_cons_of_mem _ z.1,z.2⟩
theorem jP {x:Str}:∀{l:List (Str×NameKind)} {acc:List (Str×Addr)},((x,NameKind.free)∈l∨∃a,acc.lookup x=some a)→∃a,(i8 env l acc).lookup x=some a
 | [],_,e=>e.elim (λz=>nomatch z) id
 | p::r,acc,e=>dE (p:=(p.2==NameKind.free)=true) (λq=>by
    rw[uk (jH q)]
    exact jP (cE (eqS p.1 x) (λb=> .inr ⟨_,c8 b⟩) λb=>e.elim (λz=>(List.mem_cons.mp z).elim (λw=>ftE (b.symm.trans (aG.mpr (congrArg (·.1) w).symm))) .inl) λz=>z.elim λa w=> .inr ⟨a,(c9 (p:=(p.1,(env.cells.lookup p.1).getD 0)) b).trans w⟩))
   λq=>by
    rw[um q]
    exact jP (e.imp (λz=>(List.mem_cons.mp z).elim (λw=>absurd (show (p.2==NameKind.free)=true by rw[←w];rfl) q) id) id)
theorem nX {scope:Scope} (h:∀p∈scope.names,p.2= .free→∃a,env.cells.lookup p.1=some a):closureFor scope env=pure (i8 env scope.names []):=by
 simp only[closureFor]
 have:∀(l:List (Str×NameKind)) (acc:List (Str×Addr)),(∀p∈l,p.2= .free→∃a,env.cells.lookup p.1=some a)→
  (forIn l acc λ(x:Str×NameKind) (cs:List (Str×Addr))=>(if (x.2==NameKind.free)=true then (do let c←cellOf env x.1;pure (ForInStep.yield ((x.1,c)::cs)))else pure (ForInStep.yield cs):Sem (ForInStep (List (Str×Addr)))))=pure (i8 env l acc):=by
  intro l
  induction l with
  | nil=>exact λ_ _=>rfl
  | cons p r ih=>
    intro acc h
    rw[List.forIn_cons]
    by_cases q:(p.2==NameKind.free)=true
    · rw[if_pos q,uk (jH q)]
      refine(h p List.mem_cons_self (jH q)).elim λa ha=>?_
      unfold cellOf
      rw[ha]
      exact ih _ λm hm=>h m (List.mem_cons_of_mem _ hm)
    · rw[if_neg q,um q]
      exact ih _ λm hm=>h m (List.mem_cons_of_mem _ hm)
 rw[this _ _ h]
 rfl
theorem jF {sc:Scope} {y:Str} {a:AV}:∀{loc:Loc},get (kept sc loc) y=some a→get loc y=some a∧bw sc y .free=true
 | [],e=>nE e
 | p::l,e=>by
   have E:∀{u:Bool},bw sc p.1 .free=u→kept sc (p::l)=(match u with | true=>p::kept sc l | false=>kept sc l):=λq=>by show (match bw sc p.1 .free with | true=>p::kept sc l | false=>kept sc l)=_;rw[q]
   exact cE (bw sc p.1 .free)
    (λq=>by
      rw[E q]at e
      exact cE (eqS p.1 y) (λb=>⟨(aB b).trans ((aB b).symm.trans e),aG.mp b▸q⟩) λb=>have w:=jF ((ak b).symm.trans e);⟨(ak b).trans w.1,w.2⟩)
    λq=>by
     rw[E q]at e
     have w:=jF e
     exact cE (eqS p.1 y) (λb=>ftE ((q.symm.trans (aG.mp b▸w.2)))) λb=>⟨(ak b).trans w.1,w.2⟩
theorem mI {sc:Scope} {y:Str} {a:AV} (k:bw sc y .free=true):∀{loc:Loc},get loc y=some a→get (kept sc loc) y=some a
 | [],e=>nE e
 | p::l,e=>by
   have E:∀{u:Bool},bw sc p.1 .free=u→kept sc (p::l)=(match u with | true=>p::kept sc l | false=>kept sc l):=λq=>by show (match bw sc p.1 .free with | true=>p::kept sc l | false=>kept sc l)=_;rw[q]
   exact cE (eqS p.1 y) (λb=>by rw[E (aG.mp b▸k)];exact(aB b).trans ((aB b).symm.trans e))
    λb=>cE (bw sc p.1 .free) (λq=>by rw[E q];exact(ak b).trans (mI k ((ak b).symm.trans e))) λq=>by rw[E q];exact mI k ((ak b).symm.trans e)
theorem ScOk.cellOf (S:ScOk sc0 env) {y:Str} (h:(bw sc0 y .cell || bw sc0 y .free)=true):env.kindOf y=some .cell:=(Bool.or_eq_true_iff.mp h).elim (λz=>S.of z) λz=>S.of z
theorem neS {x y:Str} (h:eqS y x=false):y≠x:=eo.mp h
theorem orF {a b:Bool} (h:(a || b)=false):a=false∧b=false:=Bool.or_eq_false_iff.mp h
theorem B6 {a:Bool} (h:(!a)=true):a=false:=(Bool.not_eq_true' _).mp h
theorem Dg (S:ScOk sc0 env) (h:cp sc0 sc x=true):CompOk env sc x:=aE h λh h4=>aE h λh h3=>aE h λh1 h2=>
 ⟨by
   revert h1
   cases sc.kind with
   | function=>exact λ_=>rfl
   | _=>exact λz=>ftE z,λp hp=>by
   have q:=List.all_eq_true.mp h2 p hp
   obtain⟨y,k⟩:=p
   cases k with
   | «local»=>exact(Bool.or_eq_true_iff.mp q).imp aG.mp aG.mp
   | free=>exact aE q λq1 q2=>have w:=orF (B6 q1);have u:=orF w.1;⟨neS u.1,neS u.2,neS w.2,S.cellOf q2⟩
   | globalImplicit=>exact have w:=orF (B6 q);have u:=orF w.1;⟨neS u.1,neS u.2,neS w.2⟩
   | _=>exact ftE q,eR h3,neS (B6 h4)⟩
theorem q8 (hk:env.scope.kind= .function) (e:env.kindOf x=some .cell):reK env x .free= .cell:=by
 unfold reK
 rw[e,hk];rfl
theorem fg {k:NameKind} (h:k≠ .free):reK env x k=k:=by
 unfold reK
 have:(k==NameKind.free)=false:=by simpa using h
 rw[this];rfl
theorem dW (y:Str):(compEnvC sc cl C env).kindOf y=(sc.names.lookup y).map (reK env y):=gQ env y sc.names
theorem CompOk.has (O:CompOk env sc x) (H:EnvOk g env h):∀p∈sc.names,p.2= .free→∃a,env.cells.lookup p.1=some a:=λp hp e=>by
 have w:=O.names p hp
 rw[e]at w
 exact H.has p.1 w.2.2.2
theorem CompOk.free (O:CompOk env sc x) {y:Str} (h:(y,NameKind.free)∈sc.names):env.kindOf y=some .cell:=(O.names _ h).2.2.2
theorem CompOk.lcl (O:CompOk env sc x):(compEnvC sc cl C env).kindOf x=some .local:=by rw[dW,←dy,O.own];exact congrArg some (fg λz=>nomatch z)
theorem CompOk.yZ (O:CompOk env sc x) (hk:env.scope.kind= .function):ScOk sc (compEnvC sc cl C env) where
 own:=λy k e=>by
  rw[dy]at e
  rw[dW,e]
  have w:=O.names _ (lookup_mem e)
  cases k with
  | free=>exact congrArg some (q8 hk w.2.2.2)
  | «local»=>exact congrArg some (fg λz=>nomatch z)
  | globalImplicit=>exact congrArg some (fg λz=>nomatch z)
  | _=>exact w.elim
 dbg:=by
  rw[dW]
  cases e:sc.names.lookup ("__debug__":Str)with
  | none=>rfl
  | some k=>
    have w:=O.names _ (lookup_mem e)
    cases k with
    | free=>exact absurd rfl w.2.2.1
    | «local»=>exact w.elim (λz=>absurd z.symm O.dbg) λz=>absurd z (by decide+kernel)
    | globalImplicit=>exact absurd rfl w.2.2
    | _=>exact w.elim
theorem xR {m:Str→Option Value} (O:CompOk env sc x) (N:Nice c env loc g led s) (hC:g.tag C=some .lcl) (hn:s.heap.Ns C m) (hx:m x=some v) (r:ay c g a v):
 Nice c (compEnvC sc (i8 env sc.names []) C env) ((x,a)::kept sc loc) g led s where
 inv:=N.inv
 ok:=⟨O.kind,N.ok.glob,N.ok.blt,⟨m,hn⟩,hC,λy i h1 h2=>(ig (O.has N.ok) h1).elim (λz=>nomatch z) λz=>N.ok.cel y i z.2 (O.free z.1),λy h1=>by
  rw[dW]at h1
  exact mE h1 λk hk e=>by
   have w:=O.names _ (lookup_mem hk)
   cases k with
   | free=>exact jP (.inl (lookup_mem hk))
   | «local»=>exact nomatch (fg (env:=env) (x:=y) (k:= .local) λz=>nomatch z).symm.trans (Option.some.inj e)
   | globalImplicit=>exact nomatch (fg (env:=env) (x:=y) (k:= .globalImplicit) λz=>nomatch z).symm.trans (Option.some.inj e)
   | _=>exact w.elim⟩
 loc:=λy b q=>cE (eqS x y)
  (λe=>by
    rw[aB e]at q
    rw[←aG.mp e,←Option.some.inj q]
    exact⟨v,.loc m O.lcl hn hx,r⟩)
  λe=>by
   rw[ak e]at q
   have w:=jF q
   have hm:=lookup_mem ((dy y sc.names).symm.trans (eR w.2))
   have hk:=O.free hm
   refine(N.loc y b w.1).imp λu z=>⟨?_,z.2⟩
   cases z.1 with
   | loc m k n e=>exact nomatch k.symm.trans hk
   | cel i o k l e d=>
     have kc:(compEnvC sc (i8 env sc.names []) C env).kindOf y=some .cell:=by
      rw[dW,←dy,eR w.2]
      exact congrArg some (q8 N.ok.kind hk)
     exact(jP (env:=env) (acc:=[]) (.inl hm)).elim λi' hi=>(ig (O.has N.ok) hi).elim (λz=>nomatch z) λz=> .cel i o kc (hi.trans (z.2.symm.trans l)) e d
 gens:=N.gens
 os:=N.os
end
end Mine
end
section
open PySem PySem.W PySem.Calls PyProof.Rows Builtin Builtin.ObjectAttr
namespace Mine
noncomputable def tgt:Expr→Bool
 | .Name ..=>true
 | .Attribute ..=>true
 | .Subscript ..=>true
 | .Tuple ..=>true
 | _=>false
structure StoR (c:Cx) (n:Nat) (sc:Scope) (t:Expr) (a:AV) (loc:Loc) (led:Led) (l1:Loc) (led1:Led):Prop where
 run:∀{env A g s v},At c n sc loc led env A g s→ay c g a v→wp c A (assign t env v) (eM c env l1 g s.heap led1) s
 sh:tgt t=true
 nm:∀x pos,t= .Name x pos→iF sc x=true∧l1=set loc x a∧led1=led
section
variable {c:Cx} {n m:Nat} {sc sc0:Scope} {env:Env} {loc l1 l2:Loc} {g g' g₀:Gh} {led led' led₁ led₂ led₃:Led} {s s':Shared} {h h' h₀:Heap} {A:Around} {d y z:D} {v vo vk vz:Value} {x k:Str} {pos p0 apos:Pos} {a b p q:AV} {as:List AV} {i j:Addr} {e el o t:Expr} {vs:List Value} {ts:List Expr} {ds:List D}
theorem xe {m m':Str→Option Value} (x:h.Ns i m) (y:h.Ns i m') (n:Str):m n=m' n:=x.elim λo x=>x.elim λes x=>x.elim λep x=>y.elim λo' y=>y.elim λes' y=>y.elim λep' y=>by
 have e:=Option.some.inj (x.1.symm.trans y.1)
 have q:=y.2.1
 rw[←e,x.2.1]at q
 cases q
 exact(x.2.2.2 n).symm.trans (y.2.2.2 n)
theorem u6 {P:Str→AV→Prop} (h:P x a) (k:∀y b,x≠y→get loc y=some b→P y b):∀y b,get (set loc x a) y=some b→P y b:=λy b q=>dE (p:=x=y) (λz=>by
 rw[←z,fW]at q
 rw[←z,←Option.some.inj q];exact h) λz=>k y b z ((iZ z).symm.trans q)
theorem BB (N:Nice c env loc g led s) (r:ay c g a v) (hk:env.kindOf x=some .local):wa c A (storeName env x v) (eM c env (set loc x a) g s.heap led) s:=N.ok.ns.elim λm hm=>
 wpAny_storeName_local hk hm (λh' hn hs=>by
  have l:aS h' env.locals:=hn.elim λo z=>z.elim λ_ z=>z.elim λ_ z=>⟨o,z.1⟩
  have X:=Go.frame N.inv N.ok.tagL (.inl rfl) hs l
  have nc:∀{y i},g.tag i=some (.cel y)→i≠env.locals:=λq=>cK N.ok.tagL q λz=>nomatch z
  refine⟨g,⟨X.inv,⟨N.ok.kind,N.ok.glob,N.ok.blt,⟨_,hn⟩,N.ok.tagL,λy i h1 h2=>have w:=N.ok.cel y i h1 h2;⟨w.1,w.2.imp λo z=>z.imp λu z=>⟨(hs.2 i (nc w.1)).trans z.1,z.2⟩⟩,N.ok.has⟩,
   u6 ⟨v,.loc _ hk hn (if_pos rfl),r⟩ λy b ne q=>(N.loc y b q).imp λu z=>⟨?_,z.2⟩,N.gens,N.os⟩,X.ext,trivial⟩
  cases z.1 with
  | loc m' k' n' e'=>exact .loc _ k' hn ((if_neg λw=>ne w.symm).trans ((xe hm n' y).trans e'))
  | cel i o k l e d=>exact .cel i o k l ((hs.2 i (nc (N.ok.cel y i l k).1)).trans e) d) (by rw[N.ok.kind];rfl)
theorem BC (N:Nice c env loc g led s) (r:ay c g a v) (hk:env.kindOf x=some .cell):wa c A (storeName env x v) (eM c env (set loc x a) g s.heap led) s:=(N.ok.has x hk).elim λi hi=>by
 have w:=N.ok.cel x i hi hk
 exact w.2.elim λo z=>z.elim λu z=>wpAny_storeName_cell N.ok.kind hk hi ⟨o,z.1,z.2⟩ λh' hn hs=>hn.elim λo' ho'=>by
  have X:=Go.frame N.inv w.1 (.inr ⟨x,rfl⟩) hs ⟨_,ho'.1⟩
  have nl:env.locals≠i:=cK w.1 N.ok.tagL λz=>nomatch z
  have nc:∀{y j},x≠y→g.tag j=some (.cel y)→j≠i:=λne q=>cK w.1 q λz=>ne (by cases z;rfl)
  refine⟨g,⟨X.inv,⟨N.ok.kind,N.ok.glob,N.ok.blt,N.ok.ns.imp λm q=>q.sameBut hs nl,N.ok.tagL,λy j h1 h2=>?_,N.ok.has⟩,
   u6 ⟨v,.cel i o' hk hi ho'.1 ho'.2,r⟩ λy b ne q=>(N.loc y b q).imp λu z=>⟨?_,z.2⟩,N.gens,N.os⟩,X.ext,trivial⟩
  · have u:=N.ok.cel y j h1 h2
    refine⟨u.1,dE (p:=x=y) (λe=>?_) λe=>u.2.imp λo z=>z.imp λv z=>⟨(hs.2 j (nc e u.1)).trans z.1,z.2⟩⟩
    rw[←e,hi]at h1
    rw[←Option.some.inj h1]
    exact⟨o',_,ho'.1,ho'.2⟩
  · cases z.1 with
    | loc m' k' n' e'=>exact .loc m' k' (n'.sameBut hs nl) e'
    | cel j o k l e d=>exact .cel j o k l ((hs.2 j (nc ne (N.ok.cel y j l k).1)).trans e) d
theorem jk (M:At c n sc loc led env A g s) (r:ay c g a v) (ho:iF sc x=true):wa c A (storeName env x v) (eM c env (set loc x a) g s.heap led) s:=
 (Bool.or_eq_true_iff.mp ho).elim (λz=>BB M.n r (M.sc.of z)) λz=>BC M.n r (M.sc.of z)
theorem yM (ho:iF sc x=true):StoR c n sc (.Name x pos) a loc led (set loc x a) led:=⟨λM r=>yl (au (jk M r ho)),rfl,λ_ _ z=>by cases z;exact⟨ho,rfl,rfl⟩⟩
theorem mj {hsh:Int} {t:Tok}:∀{es:List DictEntry} {ps:List (Str×Value)},All2 nF es ps→All2 nF (PySem.putIn (·.key.isStr x) (λe=>{e with val:=v}) ⟨hsh,.str x t,v⟩ es) (set ps x v)
 | _,_,.nil=> .cons ⟨⟨t,rfl⟩,rfl⟩ .nil
 | e::l,p::ps,.cons z r=>by
   have k:e.key.isStr x=eqS p.1 x:=z.1.elim λt q=>by
    rw[q]
    show (p.1==x)=_
    rw[Bool.eq_iff_iff,beq_iff_eq,aG]
   exact cE (eqS p.1 x) (λq=>by rw[dv q,putIn_hit (λy:DictEntry=>y.key.isStr x) _ _ _ _ (k.trans q)];exact .cons ⟨z.1,rfl⟩ r)
    λq=>by rw[dw q,putIn_miss (λy:DictEntry=>y.key.isStr x) _ _ _ _ (k.trans q)];exact .cons z (mj r)
theorem cm.len:∀{fs:List (Str×AV)} {ps:List (Str×Value)},cm c g k fs ps→ps.length=fs.length
 | [],_,r=>congrArg _ (show _=[] from r)
 | _::_,[],r=>r.elim
 | _::_,_::_,r=>congrArg (· +1) r.2.2.2.len
theorem cm.set (hf:di k x=true) (ra:ay c g a v):∀{fs:List (Str×AV)} {ps:List (Str×Value)},cm c g k fs ps→cm c g k (set fs x a) (Mine.set ps x v)
 | [],_,r=>by rw[show _=[] from r];exact⟨rfl,hf,ra,rfl⟩
 | _::_,[],r=>r.elim
 | y::fs,p::ps,r=>cE (eqS y.1 x) (λq=>by rw[dv q,dv (r.1.symm▸q)];exact⟨r.1,r.2.1,ra,r.2.2.2⟩) λq=>by rw[dw q,dw (r.1.symm▸q)];exact⟨r.1,r.2.1,r.2.2.1,r.2.2.2.set hf ra⟩
theorem u5 {α:Type} {b:α}:∀l:List (Str×α),(set l x b).length≤l.length+1
 | []=>Nat.le_refl _
 | p::l=>cE (eqS p.1 x) (λq=>by rw[dv q];exact Nat.le_succ _) λq=>by rw[dw q];exact Nat.succ_le_succ (u5 l)
theorem B4 {R:Result→Shared→Prop} {C dx:Addr} {ob:Obj} {tk:Tok} {ps:List (Str×Value)} (X:c.KF.In s.heap) (h1:s.heap.get? i=some (instObj C dx)) (h2:s.heap.get? dx=some ob) (n:NsObj ob ps) (hsz:ps.length≤100) (hp:plainOver c.KF C=true) (ht:takerIn c.KF C x=some none) (hh:(clsIn c.KF C).any (·.hasDict)=true)
 (h:∀h' o',Heap.SameBut dx s.heap h'→h'.get? dx=some o'→NsObj o' (set ps x v)→R (.ok (.ret .none)) {s with heap:=h',toks:=s.toks+1}):
 codeAny (model c.prog c.w) A (.call (.builtin "object.__setattr__") ⟨[.ref i,.str x tk,v],[]⟩) R s:=by
 refine osa_open X (⟨h1,rfl,rfl,h2⟩:InstAt s.heap i (instObj C dx) C (some ob)) hp ht λb=>?_
 refine cF λGG gg=>?_
 obtain⟨cd,hc,hd'⟩:=any_some hh
 obtain⟨es,ep,hd,r,hz⟩:=n
 obtain⟨oc,odi,oda,osl⟩:=ob
 refine gg ?_
 dsimp only at hd
 subst hd
 have e':=putName_eq x (PyData.keyHash c.w.params x) (.str x s.toks) v oc odi es.toList ep osl
 rw[show es.toList.toArray=es by simp]at e'
 have D':=Heap.get?_update_self (Obj.putName x (PyData.keyHash c.w.params x) (.str x s.toks) v) h2 (by rw[e'];rfl)
 refine wpAny_bind (wpAny_pure (wpAny_bind (wpAny_bind (wpAny_loadPart h1 (wpAny_bind ((looks_clsIn X hc).here ?_))))))
 rw[hd']
 refine wpAny_pure (a:=some dx) (wpAny_bind (wpAny_pure (wpAny_bind ?_)))
 unfold nsSet
 refine wpAny_bind (wpAny_bind (wpAny_askSetting (wpAny_pure (wpAny_bind (wpAny_mkText (wpAny_bind (wpAny_loadPart h2 ?_)))))))
 dsimp only
 rw[aRefKeyMayBeTheName_at,show (!es.any (·.key.isStr x)&&es.any (·.refKey))=false by rw[←Array.any_toList (p:=λx:DictEntry=>x.refKey),iR r,Bool.and_false]]
 refine wpAny_updatePart h2 ?_
 have A2:=mj (x:=x) (v:=v) (hsh:=PyData.keyHash c.w.params x) (t:=s.toks) r
 have lenN:=A2.length▸Nat.le_trans (u5 (x:=x) (b:=v) ps) (Nat.succ_le_succ hsz)
 rw[e']at D'
 refine wpAny_bind (wpAny_lookBehind D' (pastItsLine_dict (by rw[List.size_toArray,sizeLine_eq];exact Nat.le_trans lenN (by decide))) (wpAny_pure (h _ _ (Heap.SameBut.update ..) D' ⟨_,_,rfl,by simpa using A2,by rw[List.size_toArray];exact Nat.le_trans lenN (by decide)⟩)))
theorem ng {lo:LO} {t:Nat} (N:Nice c env loc g led s) (ha:g.tag i=some (.own n)∨g.tag i=some (.dct n)) (hs:Heap.SameBut i s.heap h') (hl:aS h' i) (r:g9 c g h' n lo):eM c env loc g s.heap (put led n lo) () {s with heap:=h',toks:=t}:=
 have X:=Go.setOwn N.inv ha hs.extBut hl r
 ⟨g,N.go X,X.ext.weak true,trivial⟩
theorem tD {n:Nat} {fs:List (Str×AV)} (N:Nice c env loc g led s) (q:led[n]? =some (.obj k fs)) (hf:di k x=true) (hl:fs.length≤100) (r:ay c g a v):wa c A (setAttr (.ref (g.adr n)) x v) (eM c env loc g s.heap (put led n (.obj k (set fs x a)))) s:=
 N.inv.objE q λob ps t td hi hd nsn rf=>(c.W.cls k x hf).elim λcd w=>have u:=c.W.sa k x hf
 set_plain N.KI (⟨hi,rfl,rfl,hd⟩:InstAt s.heap (g.adr n) (instObj (c.ca k) (g.dad n)) (c.ca k) (some ob)) u.1
  (B4 (s:={s with toks:=s.toks+1}) N.KI hi hd nsn (rf.len▸hl) u.2 (by unfold takerIn;rw[w.2.2];rfl) (by rw[w.1];exact w.2.1) λh' o' hs ho' N'=>
    ng N (.inr td) hs ⟨_,ho'⟩ ⟨t,td,(hs.2 _ (cK td t λz=>nomatch z)).trans hi,o',_,ho',N',rf.set hf r⟩)
theorem ml {g₁:Gh} {h₁:Heap} (X:Ext false g h g₁ h₁) (p:eM c env l1 g₁ h₁ led' () s'):eM c env l1 g h led' () s':=Pst.trans (X.weak true) p
theorem yP {i:Nat} {fs:List (Str×AV)} (hf:(di k x&&Nat.ble fs.length 100)=true) (q:led₁[i]? =some (.obj k fs)) (ho:Ex c n sc loc o led (.r i) led₁):StoR c n sc (.Attribute o x pos) a loc led loc (put led₁ i (.obj k (set fs x a))):=⟨λM r=>
 weq (arm_assign_Attribute ..) (ah (aK (wgo M (ho.gv M) λv s₁ g₁ M₁ X₁ r₁=>aE hf λh1 h2=>aA (ah (aK (r₁.2▸au (wpAny_mono (tD M₁.n q h1 (Nat.le_of_ble_eq_true h2) (X₁.repA M.n.inv r)) (λ_ s₂ p=>au (wpAny_release' (ml X₁ p))) λ_ _ e=>e))))))),rfl,λ_ _ z=>nomatch z⟩
theorem nP {l:Addr} {items:Array Value} {m j:Nat} {k:Int} {t:Tok} {Q:Unit→Shared→Prop} (hk:k=(j:Int)) (ho:s.heap.get? l=some {cls:= .type "list",data:= .seq items m}) (h0:0≤k) (hfit:k<2 ^ 63) (hj:j<items.size)
 (hQ:∀h' m',h'.get? l=some {cls:= .type "list",data:= .seq (items.setIfInBounds j v) m'}→Heap.SameBut l s.heap h'→Q () {s with heap:=h'}):
 wa c A (setItem (.ref l) (.int k t) v) Q s:=by
 have hT:s.TypeIs (.ref l) "list":=⟨_,ho,rfl⟩
 unfold setItem
 try with_reducible refine wpAny_holding ?_
 first | refine wpAny_bind (wpAny_pure ?_) | skip
 refine wpAny_bind (wpAny_sequenceKey hT (by decide) ?_)
 refine wpAny_bind (wpAny_callSpecial?_slot (name:=Str.ofString "__setitem__") hT PySem.slot_list_setitem
  (wpAny_call_entry PySem.slot_list_setitem hT PySem.entry_list_setitem ?_ (PySem.args_list_setitem _ _ _)))
 show wpAny _ _ (Builtin.List.listSubscript? (.int k t)>>=_) _ _ s
 refine wpAny_bind (wpAny_listSubscript_int (fitsIndex_of h0 hfit) ?_)
 clear hfit h0
 subst hk
 show wpAny _ _ ((seqItemAt l j>>=λr=>pure (r.map (j,·)))>>=_) _ _ s
 refine wpAny_bind (wpAny_bind (wpAny_seqItemAt ho rfl (wpAny_pure ?_)))
 rw[Array.getElem?_eq_getElem hj]
 show wpAny _ _ (setSeqItemAt l j v>>=_) _ _ s
 have hfin:(s.heap.update l (Obj.mapSeq (·.setIfInBounds j v))).get? l=some {cls:= .type "list",data:= .seq (items.setIfInBounds j v) (if (items.setIfInBounds j v).size==items.size then m else m+1)}:=Heap.get?_update_self (Obj.mapSeq (·.setIfInBounds j v)) ho rfl
 refine wpAny_bind (wpAny_setSeqItemAt ho rfl ?_)
 first
  | exact wpAny_bind (wpAny_pure (wpAny_pure ⟨.none,rfl,wpAny_pure (hQ _ _ hfin (Heap.SameBut.update ..))⟩))
  | exact wpAny_pure ⟨.none,rfl,wpAny_pure (hQ _ _ hfin (Heap.SameBut.update ..))⟩
theorem rE {k:Int}:∀{ps:List (Int×Value)},k∉ps.map (·.1)→ps.map (λkv=>if kv.1=k then (kv.1,v)else kv)=ps
 | [],_=>rfl
 | p::ps,h=>by
   rw[List.map_cons,List.mem_cons,not_or]at h
   rw[List.map_cons,if_neg (λe=>h.1 e.symm),rE h.2]
variable {ca:Str→Addr} {F:FH}
theorem cX.set {k:Int} (rd:Rep ca F d v):∀{l:List (Int×D)} {ps:List (Int×Value)},cX ca F l ps→(ps.map (·.1)).Nodup→cX ca F (dz l k d) (stored ps k v)
 | [],_,r,_=>by rw[show _=[] from r];exact⟨rfl,rd,rfl⟩
 | (_,_)::_,[],r,_=>r.elim
 | (j,b)::l,p::ps,r,nd=>by
   rw[List.map_cons,List.nodup_cons]at nd
   by_cases e:j=k
   · have q:stored (p::ps) k v=(p.1,v)::ps:=by
      unfold stored
      rw[if_pos (by simp[r.1,e]),List.map_cons,if_pos (r.1.trans e),rE (e▸r.1▸nd.1)]
     rw[q,show dz ((j,b)::l) k d=(j,d)::l from if_pos e]
     exact⟨r.1,rd,r.2.2⟩
   · have ne:¬p.1=k:=λz=>e (r.1.symm.trans z)
     have q:stored (p::ps) k v=p::stored ps k v:=by
      unfold stored
      rw[List.any_cons,decide_eq_false ne,Bool.false_or]
      split
      · rw[List.map_cons,if_neg ne]
      · rfl
     rw[q,show dz ((j,b)::l) k d=(j,b)::dz l k d from if_neg e]
     exact⟨r.1,r.2.1,r.2.2.set rd nd.2⟩
theorem mw:∀{es:List DictEntry} {ps:List (Int×Value)},Pairs (iK c) es ps→(∀e∈es,∃k,(iK c).is k e.key=true∧e.hash=(iK c).hash k)→All2 qx es ps
 | _,_,.nil,_=> .nil
 | _,_,.cons hk hv r,h=> .cons ⟨Value.isInt_shape hk,(h _ List.mem_cons_self).elim λk z=>z.2.trans (by rw[(iK c).inj _ _ _ z.1 hk];rfl),hv⟩ (mw r λe he=>h e (List.mem_cons_of_mem _ he))
theorem m8 {ps:List (Int×Value)} (x:h.DictOf (iK c) i ps):∃o,h.get? i=some o∧cM o ps:=x.imp λo x=>x.elim λes x=>x.elim λep x=>⟨x.1,x.2.1,es,ep,x.2.2.1,mw x.2.2.2.2.1 λe he=>x.2.2.2.1 e (Array.mem_toList_iff.mp he),x.2.2.2.2.2⟩
theorem cM.nd {ob:Obj} {ps:List (Int×Value)} (x:cM ob ps):(ps.map (·.1)).Nodup:=x.2.elim λ_ z=>z.elim λ_ z=>z.2.2
theorem yX {k:Int} {w:Value} (hk:bX q=some k) (hi:Ex c n sc loc el led₁ q led₂) (ho:Ex c n sc loc o led p led₁) (M:At c n sc loc led env A g s)
 (K:∀{vo s₂ g₂ t},At c n sc loc led₂ env A g₂ s₂→Ext false g s.heap g₂ s₂.heap→ay c g₂ p vo→wa c A (setItem vo (.int k t) w) (eM c env loc g₂ s₂.heap led') s₂):wp c A (assign (.Subscript o el pos) env w) (eM c env loc g s.heap led') s:=
 weq (arm_assign_Subscript ..) (ah (aK (wgo M (ho.gv M) λvo s₁ g₁ M₁ X₁ r₁=>ah (aK (wgo M₁ (hi.gv M₁) λvi s₂ g₂ M₂ X₂ r₂=>aA (w7 hk r₂ λt=>ah (aK (au (wpAny_mono (K M₂ (X₁.trans X₂) (X₂.repA M₁.n.inv r₁)) (λ_ s₃ p=>au (wpAny_release' (ml (X₁.trans X₂) p))) λ_ _ e=>e)))))))))
end
end Mine
end
section
open PySem PySem.W PySem.Calls PyProof.Rows
namespace Mine
structure StosR (c:Cx) (n:Nat) (sc:Scope) (ts:List Expr) (as:List AV) (loc:Loc) (led:Led) (l1:Loc) (led1:Led):Prop where
 run:∀{env A g s vs},At c n sc loc led env A g s→aQ c g as vs→wp c A (assignInOrder ((assignEach ts env).map (·.2)) vs) (eM c env l1 g s.heap led1) s
 sh:∀env,(assignEach ts env).length=as.length∧(assignEach ts env).findIdx? (·.1)=none
 nm:∀f:Expr→Option Str,(∀t x,f t=some x→∃pos,t= .Name x pos)→(ts.filterMap f).length=ts.length→(ts.filterMap f).length=as.length∧(∀x∈ts.filterMap f,iF sc x=true)∧l1=((ts.filterMap f).zip as).foldl (λl p=>set l p.1 p.2) loc∧led1=led
structure FreR (c:Cx) (n:Nat) (sc:Scope) (loc:Loc) (e:Expr) (led:Led) (lo:LO) (l1:Led):Prop where
 run:∀{env A g s},At c n sc loc led env A g s→wp c A (eval e env) (bL c env loc g s.heap (l1++[lo]) (.r l1.length)) s
 pl:bK e=3
section
variable {c:Cx} {n m:Nat} {sc sc0:Scope} {env:Env} {loc l1 l2:Loc} {g g' g₀:Gh} {led led' led₁ led₂ led₃:Led} {s s':Shared} {h h' h₀:Heap} {A:Around} {d y z:D} {v vo vk vz:Value} {x k:Str} {pos p0 apos:Pos} {a b p q:AV} {as:List AV} {i j:Nat} {e el er o t:Expr} {vs:List Value} {ts es:List Expr} {ds:List D} {lo:LO}
theorem yN {k:Int} {xs:List D} (hlt:(Nat.blt j xs.length&&fits j)=true) (hj:nat? k=some j) (hq:led₂[i]? =some (.list xs)) (hk:bX q=some k) (hi:Ex c n sc loc el led₁ q led₂) (ho:Ex c n sc loc o led (.r i) led₁):
 StoR c n sc (.Subscript o el pos) (.v d) loc led loc (put led₂ i (.list (List.set xs j d))):=⟨λM r=>yX hk hi ho M λ{vo s₂ g₂ t} M₂ X r₂=>r₂.2▸aE hlt λh1 h2=>M₂.n.inv.listE hq λvs m tg ho rl=>
  have e:=xf hj
  nP e ho (e▸(jD (bq h2)).1) (e▸(jD (bq h2)).2.1) (by rw[List.size_toArray,rl.len];exact Nat.le_of_ble_eq_true h1) λh' m' ho' hs'=>
   have ho':h'.get? (g₂.adr i)=some (aX (List.set vs j _) m'):=ho'.trans (congrArg some (by simp[aX]))
   ng (lo:= .list (List.set xs j d)) (t:=s₂.toks) M₂.n (.inl tg) hs' ⟨_,ho'⟩ ⟨tg,_,_,ho',rl.set (X.repA M.n.inv r) j⟩,rfl,λ_ _ z=>nomatch z⟩
theorem yO {k:Int} {l:List (Int×D)} (hf:fits l.length=true) (hq:led₂[i]? =some (.dict l)) (hk:bX q=some k) (hi:Ex c n sc loc el led₁ q led₂) (ho:Ex c n sc loc o led (.r i) led₁):
 StoR c n sc (.Subscript o el pos) (.v d) loc led loc (put led₂ i (.dict (dz l k d))):=⟨λM r=>yX hk hi ho M λ{vo s₂ g₂ t} M₂ X r₂=>r₂.2▸M₂.n.inv.oM hq λob ps tg hs ho hD rk=>
  wpAny_setItem_pairs (knd:=iK c) (k:=k) kL (hD.dictOf ho) (λh' D' hs'=>(m8 D').elim λo' w=>
   ng (lo:= .dict (dz l k d)) M₂.n (.inl tg) hs' ⟨_,w.1⟩ ⟨tg,hs,o',_,w.1,w.2,rk.set (X.repA M.n.inv r) hD.nd⟩) (by rw[←List.length_map (f:=(·.1)),rk.keys,List.length_map];exact bt hf),rfl,λ_ _ z=>nomatch z⟩
theorem km (h:tgt t=true):assignEach (t::ts) env=(false,assign t env)::assignEach ts env:=by
 cases t with
 | Starred _ _=>exact ftE h
 | _=>rfl
theorem yK:StosR c n sc [] [] loc led loc led:=⟨λM r=>by rw[show _=[] from r];exact here M trivial,λ_=>⟨rfl,rfl⟩,λf _ _=>⟨rfl,λ_ z=>(nomatch z),rfl,rfl⟩⟩
theorem wV (hr:StosR c n sc ts as l1 led₁ l2 led₂) (h:StoR c n sc t a loc led l1 led₁):StosR c n sc (t::ts) (a::as) loc led l2 led₂ where
 run:=λ{env A g s vs} M r=>by
  rw[km h.sh]
  exact y5 r λv vs r1 r2=>stp M (aK (h.run M r1)) λ_ s₁ g₁ M₁ X₁ _=>hr.run M₁ (X₁.repAL M.n.inv r2)
 sh:=λenv=>by
  have w:=hr.sh env
  rw[km h.sh]
  exact⟨congrArg (· +1) w.1,by rw[List.findIdx?_cons,w.2];rfl⟩
 nm:=λf hf hl=>j4 (f t)
  (λq=>by
    rw[List.filterMap_cons_none q]at hl
    exact absurd (List.length_filterMap_le f ts) (by rw[hl];exact Nat.not_succ_le_self _))
  λx q=>by
   rw[List.filterMap_cons_some q]at hl ⊢
   have w:=hr.nm f hf (Nat.succ.inj hl)
   exact(hf t x q).elim λpos e=>have u:=h.nm x pos e;⟨congrArg (· +1) w.1,λy hy=>(List.mem_cons.mp hy).elim (λz=>z▸u.1) (w.2.1 y),by rw[w.2.2.1,u.2.1];rfl,w.2.2.2.trans u.2.2⟩
theorem k7 {F:FH}:∀{ds:List D} {vs:List Value},aJ c.ca g.F ds vs→aQ c g (ds.map .v) vs
 | [],_,r=>r
 | _::_,[],r=>r.elim
 | _::_,_::_,r=>⟨r.1,k7 (F:=F) r.2⟩
theorem aQ.len:∀{as:List AV} {vs:List Value},aQ c g as vs→vs.length=as.length
 | [],_,r=>congrArg _ (show _=[] from r)
 | _::_,[],r=>r.elim
 | _::_,_::_,r=>congrArg (· +1) r.2.len
theorem rP (k:Heap.ExtBut h.objs.size h h'):∀b o,h.get? b=some o→h'.get? b=some o:=λb o e=>k b o (Nat.ne_of_lt (Heap.lt_size e)) e
theorem jZ {k:Nat} {i:Addr} (h:StosR c n sc ts as loc led l1 led₁) (M:At c n sc loc led env A g s) (ht:s.heap.IsTuple i vs.toArray) (r:aQ c g as vs):wp c A (assign (.Tuple ts k pos) env (.ref i)) (eM c env l1 g s.heap led₁) s:=
 have w:=h.sh env
 wsetT M.a.hd ht (by rw[w.1,List.size_toArray,r.len]) w.2 λh' hs=>
  have K:=Go.kept (b:=false) M.n.inv (rP hs)
  bc (h.run (M.to (s':={s with heap:=h'}) (M.n.go (t:=s.toks) K)) r) λ_ _=>Pst.trans (K.ext.weak true)
theorem BA {k:Nat} (h:StosR c n sc ts as loc led l1 led₁) (ha:parts a=some as):StoR c n sc (.Tuple ts k pos) a loc led l1 led₁:=⟨λ{env A g s v} M r=>bE ha λd hd e=>mE e λxs hx e=>by
 rw[jB hd,tupE hx]at r
 exact Exists.elim r λi r=>r.elim λvs r=>r.elim λm r=>r.1▸jZ h M ⟨_,M.n.inv.fz _ _ (Gh.F_iff.mp r.2.1),rfl,_,rfl⟩ (Option.some.inj e▸k7 (F:=g.F) r.2.2),rfl,λ_ _ z=>nomatch z⟩
theorem mn {ob:Obj} {t:Nat} (N:Nice c env loc g led s) (k:∀b o,s.heap.get? b=some o→h'.get? b=some o) (ho:h'.get? s.heap.objs.size=some ob)
 (r:∀g',g'.tag s.heap.objs.size=some (.own led.length)→g'.adr led.length=s.heap.objs.size→(∀b o',g.F b=some o'→g'.F b=some o')→g9 c g' h' led.length lo):bL c env loc g s.heap (led++[lo]) (.r led.length) (.ref s.heap.objs.size) {s with heap:=h',toks:=t}:=by
 have H:kX 0 (g.tag s.heap.objs.size) (some (.own g.len)):=cW N.inv.fresh
 have ad:(g.more s.heap.objs.size s.heap.objs.size (g.tg s.heap.objs.size (some (.own g.len))).tag).adr led.length=s.heap.objs.size:=N.inv.len▸mz
 exact k8 (g':=g.more s.heap.objs.size s.heap.objs.size (g.tg s.heap.objs.size (some (.own g.len))).tag) N
  (Go.more N.inv (λb t e=>(cA (dZ N.inv.fresh e)).trans e) (λb t e=>tgE e (λz q=> .inr ⟨z▸⟨ob,ho⟩,λo w=>by rw[w]at q;exact nomatch q⟩) λ_ q=> .inl q) (λb l=>cA λz=>bj (z▸l)) k
    (r _ (N.inv.len▸cJ) ad λb o e=>Gh.F_iff.mpr ((cA (dZ N.inv.fresh (Gh.F_iff.mp e))).trans (Gh.F_iff.mp e))))
  ⟨show led.length<g.len+1 from N.inv.len▸Nat.lt_succ_self _,congrArg Value.ref ad.symm⟩
theorem mx {t:Nat} (N:Nice c env loc g led s) (r:aJ c.ca g.F ds vs):bL c env loc g s.heap (led++[.list ds]) (.r led.length) (.ref s.heap.objs.size) {s with heap:=s.heap.push (aX vs 0),toks:=t}:=
 mn N bh (Heap.get?_push_size _ rfl) λg' h1 h2 h3=>⟨h2.symm▸h1,vs,0,h2.symm▸Heap.get?_push_size _ rfl,r.mono h3⟩
theorem C0 (hf:fits ds.length=true) (h:EvD c n sc loc es led ds led₁):FreR c n sc loc (.List es pos) led (.list ds) led₁:=⟨λM=>
 weq (arm_eval_List ..) (aA (stp M (h.run M) λvs s₁ g₁ M₁ X₁ r₁=>au (wpAny_newList (mx (t:=s₁.toks) M₁.n r₁) (r₁.len▸bt hf)))),rfl⟩
theorem tM (N:Nice c env loc g led s):(s.heap.objs.size==sysModules)=false:=(c.W.g.keeps N.keeps).elim λo z=>z.elim λ_ z=>z.elim λ_ z=>by
 have:=Heap.lt_size z.1
 rw[beq_eq_false_iff_ne]
 intro e
 rw[e]at this
 exact absurd this (by decide)
theorem C1:FreR c n sc loc (.Dict [] [] pos) led (.dict []) led:=⟨λ{env A g s} M=>by
 refine weq (arm_eval_Dict ..) (aA ?_)
 show wp c A newDict _ s
 unfold newDict
 exact au (wpAny_newObj_type (mn (t:=s.toks) M.n bh (Heap.get?_push_size _ rfl) λg' h1 h2 h3=>⟨h2.symm▸h1,h2.symm▸tM M.n,_,[],h2.symm▸Heap.get?_push_size _ rfl,⟨⟨rfl,rfl,rfl⟩,#[],0,rfl,.nil,List.nodup_nil⟩,rfl⟩)),rfl⟩
theorem FY {xs ys:List D} (hf:fits (xs.length+ys.length)=true) (hy:view led₂ q=some (.list ys)) (hx:view led₂ p=some (.list xs)) (hr:Ex c n sc loc er led₁ q led₂) (hl:Ex c n sc loc el led p led₁):FreR c n sc loc (.BinOp el .Add er pos) led (.list (xs++ys)) led₂:=⟨λM=>
 weq (arm_eval_BinOp ..) (stp M (hl.gv M) λv s₁ g₁ M₁ X₁ r₁=>stp M₁ (aK (hr.gv M₁)) λu s₂ g₂ M₂ X₂ r₂=>aA (n9 (cS rfl (M₂.n.inv.sees (X₂.repA M₁.n.inv r₁) hx) λa n vs ha ra=>cS rfl (M₂.n.inv.sees r₂ hy) λb m ws hb rb=>
  au (PySem.P.add_list ha hb (List.append_toArray vs ws▸mx (t:=s₂.toks) M₂.n (ra.append rb)) (by rw[List.size_toArray,List.size_toArray,ra.len,rb.len];exact bt hf))))),rfl⟩
theorem Am {lh hh:Option Expr} {ps:Pos} {d1 d2:D} {xs ys:List D} (hd:cut xs d1 d2=some ys) (hz:view led₃ p=some (.list xs)) (hh':Opt c n sc loc hh led₂ d2 led₃) (hl:Opt c n sc loc lh led₁ d1 led₂) (ho:Ex c n sc loc el led p led₁):
 FreR c n sc loc (.Subscript el (.Slice lh hh none ps) pos) led (.list ys) led₃:=⟨λM=>qX hh' hl ho M λv vl vu s₁ g₁ t M₁ X r rl ru=>cS rfl (M₁.n.inv.sees r hz) λa m vs ha rv=>⟨_,_,PySem.F.slot_list_getitem.lookup,⟨_,ha,rfl⟩,
 have w:=AH hd rv rl ru
 w.2.elim λlo' y=>y.elim λhi' y=>y.2.2.elim λws w'=>wpAny_getItem_list_slice ⟨_,ha,rfl,_,rfl⟩ (Heap.IsSliceOf.new _ _ _ _) y.1 y.2.1 .none (λh=>nomatch h) (w'.1▸ .trans X (mx (t:=t) M₁.n w'.2)) (by rw[List.size_toArray,rv.len];exact lY w.1)⟩,rfl⟩
theorem FX (hk:get f9 x=some .bytearray) (ht:cv sc loc x=true):FreR c n sc loc (.Call (.Name x p0) [] [] pos) led (.byt []) led:=⟨λ{env A g s} M=>
 weq (arm_eval_Call_Name' ..) (ah (au (ky M ht hk (gZ (eh .bytearray) (R:=λ_ vs=>vs=[]) (fY λ_=>rfl) M λ{vs g₁ s₁} M₁ X₁ r₁=>by
  rw[show vs=[] from r₁]
  exact bnew λh' hk=> .trans X₁ (mn (t:=s₁.toks) M₁.n (λb o e=>(hk b).trans (bh b o e)) ((hk _).trans (Heap.get?_push_size _ rfl)) λg' h1 h2 h3=>⟨h2.symm▸h1,h2.symm▸(hk _).trans (Heap.get?_push_size _ rfl)⟩))))),rfl⟩
end
end Mine
end
section
open PySem PySem.W PySem.Calls PyProof.Rows
namespace Mine
noncomputable def dB (c:Cx) (n:Nat) (sc:Scope) (loc:Loc) (ifs:List Expr) (led:Led) (b:Bool) (l1:Led):Prop:=∀{env A g s},At c n sc loc led env A g s→wp c A (yD env ifs) (wG c env loc g s.heap l1 b) s
noncomputable def kP (c:Cx) (n:Nat) (sc:Scope) (loc:Loc) (elt:Expr) (ifs:List Expr) (x:Str) (a:AV) (led:Led) (o:Option D) (led':Led):Prop:=match o with
 | none=>dB c n sc ((x,a)::kept sc loc) ifs led false led'
 | some d=>∃b l1 l2,dB c n sc ((x,a)::kept sc loc) ifs led true l1∧Ex c n sc ((x,a)::kept sc loc) elt l1 b l2∧frz depth b l2=some (d,led')
noncomputable def cH (c:Cx) (n:Nat) (sc:Scope) (loc:Loc) (elt:Expr) (ifs:List Expr) (x:Str):List AV→Led→List D→Led→Prop
 | [],led,ds,led'=>ds=[]∧led'=led
 | a::as,led,ds,led'=>∃o l1 ds',kP c n sc loc elt ifs x a led o l1∧cH c n sc loc elt ifs x as l1 ds' led'∧ds=o.toList++ds'
structure LS (c:Cx) (env:Env) (loc:Loc) (g₀:Gh) (h₀:Heap) (Da Ca:Addr) (ds:List D) (led:Led) (g:Gh) (s:Shared):Prop where
 nice:Nice c env loc g led s
 ext:Ext false g₀ h₀ g s.heap
 acc:∃vs k,s.heap.get? Da=some (aX vs k)∧aJ c.ca g.F ds vs
 accT:g.tag Da=none
 ns:∃m,s.heap.Ns Ca m
 nsT:g.tag Ca=some .lcl
structure Apart (h₀:Heap) (env:Env) (Da Ca:Addr) (fp:List Addr):Prop where
 D:¬aS h₀ Da
 C:¬aS h₀ Ca
 DC:Da≠Ca
 Df:Da∉fp
 Cf:Ca∉fp
 CL:env.locals≠Ca
structure Way (c:Cx) (h₀:Heap) (g:Gh) (h:Heap) (as:List AV) (fp wr:List Addr) (P:Nat→Value→Prop) (St:Nat→Heap→Prop) (i:Nat):Prop where
 st:St i h
 wrOk:∀b∈wr,¬aS h₀ b∧g.tag b=none
 fpOk:∀b∈fp,Still true (g.tag b)
 item:∀i v,P i v→∃a,as[i]? =some a∧ay c g a v
 live:∀i h,St i h→∀b∈fp,aS h b
section
variable {c:Cx} {n m:Nat} {sc sc0:Scope} {env env':Env} {loc l1 l2:Loc} {g g' g₀:Gh} {led led' led₁ led₂ led₃:Led} {s s':Shared} {h h' h₀:Heap} {A:Around} {d y z:D} {v vo vk vz:Value} {x k:Str} {pos p0 px:Pos} {a b p q:AV} {as:List AV} {i j:Nat} {e el er o t elt iter:Expr} {vs:List Value} {b:Bool} {ts es ifs:List Expr} {ds dsE:List Mine.D} {I D C:Addr} {fp wr:List Addr} {P:Nat→Value→Prop} {St:Nat→Heap→Prop}
theorem EM:dB c n sc loc [] led true led:=λM=>here M rfl
theorem kM {Q:Bool→Shared→Prop} (h:Q false s):∀l:List Expr,wp c A (forIn l false λc r=>if r=true then do let ok←isTrue c env (eval c env);pure (ForInStep.yield ok)else pure (ForInStep.yield r)) Q s
 | []=>aw h
 | e::l=>weq (List.forIn_cons ..) (fL (kM h l))
theorem uW {b b':Bool} (ht:b=true→dB c n sc loc ifs led₁ b' led₂) (hf:b=false→b'=false∧led₂=led₁) (hb:Tv c n sc loc e led b led₁):dB c n sc loc (e::ifs) led b' led₂:=λ{env A g s} M=>by
 refine weq (List.forIn_cons ..) ?_
 rw[if_pos rfl]
 refine ah (ah (wgo M (hb M) λv s₁ g₁ M₁ X₁ r₁=>aw ?_))
 rw[r₁]
 cases b with
 | true=>exact bc (ht rfl M₁) λ_ _=> .trans X₁
 | false=>
   rw[(hf rfl).1,(hf rfl).2]
   exact kM ⟨g₁,M₁.n,X₁,rfl⟩ ifs
theorem mH (H:SubL l1 loc):SubL ((x,a)::kept sc l1) ((x,a)::kept sc loc):=λy b e=>cE (eqS x y) (λq=>(aB (p:=(x,a)) q).trans ((aB (p:=(x,a)) q).symm.trans e)) λq=>by
 have w:=jF ((ak (p:=(x,a)) q).symm.trans e)
 exact(ak (p:=(x,a)) q).trans (mI w.2 (H y b w.1))
theorem dB.wk (h:dB c n sc l1 ifs led b led') (H:SubL l1 loc):dB c n sc loc ifs led b led':=λM=>wwk M (h (M.wk H))
theorem kP.wk {o:Option Mine.D} (H:SubL l1 loc) (h:kP c n sc l1 elt ifs x a led o led'):kP c n sc loc elt ifs x a led o led':=by
 cases o with
 | none=>exact dB.wk h (mH H)
 | some d=>exact Exists.elim h λb h=>h.elim λl h=>h.elim λl' h=>⟨b,l,l',dB.wk h.1 (mH H),h.2.1.wk (mH H),h.2.2⟩
theorem cH.wk (H:SubL l1 loc):∀{as:List AV} {led led':Led} {ds:List Mine.D},cH c n sc l1 elt ifs x as led ds led'→cH c n sc loc elt ifs x as led ds led'
 | [],_,_,_,h=>h
 | _::_,_,_,_,h=>h.elim λo h=>h.elim λl h=>h.elim λds h=>⟨o,l,ds,kP.wk H h.1,cH.wk H h.2.1,h.2.2⟩
theorem Way.ext (Y:Way c h₀ g h as fp wr P St i) (V:Walks c.prog c.w A I fp wr n P St) (N:Inv c g led h) (x:Ext false g h g' h'):Way c h₀ g' h' as fp wr P St i:=
 have T:∀b∈fp,g'.tag b=g.tag b:=λb hb=>x.tag b (Y.live i h Y.st b hb) (bM (Y.fpOk b hb))
 ⟨V.frame i h h' Y.st λb hb o e=>x.old b o e (k5 (Y.fpOk b hb)),λb hb=>⟨(Y.wrOk b hb).1,(T b (V.sub b hb)).trans (Y.wrOk b hb).2⟩,λb hb=>(T b hb).symm▸Y.fpOk b hb,λi v e=>(Y.item i v e).imp λa z=>⟨z.1,x.repA N z.2⟩,Y.live⟩
theorem Ext.updW {b:Bool} (x:Ext b g₀ h₀ g h) (hs:∀b o,b∉wr→h.get? b=some o→h'.get? b=some o) (hw:∀b∈wr,¬aS h₀ b):Ext b g₀ h₀ g h':=
 have ne:∀{d},aS h₀ d→d∉wr:=λq e=>hw _ e q
 ⟨x.len,x.adr,λd q=>(x.live d q).imp λo e=>hs d o (ne q) e,x.tag,λd o e l=>hs d o (ne ⟨o,e⟩) (x.old d o e l)⟩
theorem Nice.same {t:Nat} (N:Nice c env loc g led s) (e:∀b t,g.tag b=some t→h'.get? b=s.heap.get? b):Nice c env loc g led {s with heap:=h',toks:=t}:=
 N.mv (s':={s with heap:=h',toks:=t}) (N.inv.same e) (λo q=>(e _ _ N.ok.tagL).trans q) (λx a q o z=>(e _ _ q).trans z) N.ok.tagL (λ_ _ e=>e) (λ_ _ r=>r) rfl rfl
theorem Nice.updW {t:Nat} (N:Nice c env loc g led s) (hs:∀b o,b∉wr→s.heap.get? b=some o→h'.get? b=some o) (hw:∀b∈wr,g.tag b=none):Nice c env loc g led {s with heap:=h',toks:=t}:=
 N.same λb t q=>(N.inv.dom b t q).elim λo ho=>(hs b o (λz=>nomatch (hw b z).symm.trans q) ho).trans ho.symm
theorem Nice.tg {u:Option Tag} (N:Nice c env loc g led s) (I:Inv c (g.tg C u) led s.heap) (H:kX m (g.tag C) u) (nL:env.locals≠C) (nC:∀x b,g.tag b=some (.cel x)→b≠C):Nice c env loc (g.tg C u) led s:=
 N.mv I (λ_ e=>e) (λ_ _ _ _ e=>e) ((cA nL).trans N.ok.tagL) (λx b e=>(cA (nC x b e)).trans e) (λ_ _ r=>ay.mv (g:=g) (g':=g.tg C u) (Nat.le_refl _) (λ_ _=>rfl) (jh H) r) rfl rfl
theorem Nice.mark {u:Tag} (N:Nice c env loc g led s) (n:g.tag C=none) (l:aS s.heap C) (hu:∀o,u≠ .fz o):Nice c env loc (g.tg C (some u)) led s:=N.tg (m:=0) (N.inv.mark n l hu) (cW n) (dZ n N.ok.tagL) λ_ _ e=>dZ n e
theorem Nice.other {t:Nat} (N:Nice c env loc g led s) (ht:g.tag C=some .lcl) (nL:env.locals≠C) (hs:Heap.SameBut C s.heap h') (l:aS h' C):Nice c env loc g led {s with heap:=h',toks:=t}:=
 N.mv (s':={s with heap:=h',toks:=t}) (Go.frame N.inv ht (.inl rfl) hs l).inv (λo e=>(hs.2 _ nL).trans e) (λx b q o e=>(hs.2 b (cK ht q λz=>nomatch z)).trans e) N.ok.tagL (λ_ _ e=>e) (λ_ _ r=>r) rfl rfl
theorem LS.to {loc':Loc} (L:LS c env loc g₀ h₀ D C ds led g s) (N:Nice c env' loc' g' led' s') (x:Ext false g s.heap g' s'.heap):LS c env loc g₀ h₀ D C ds led' g' s':=
 have lC:=L.nice.inv.dom _ _ L.nsT
 ⟨L.nice.ext x N.inv (N.gens.trans L.nice.gens.symm) (N.os.trans L.nice.os.symm),L.ext.trans x,L.acc.imp λvs z=>z.imp λk z=>⟨x.old _ _ z.1 (L.accT▸trivial),z.2.mono (x.F L.nice.inv)⟩,
   L.acc.elim λvs z=>z.elim λk z=>(x.tag _ ⟨_,z.1⟩ (L.accT▸trivial)).trans L.accT,L.ns.imp λm n=>n.at λo e=>x.old _ o e (L.nsT▸rfl),(x.tag _ lC (L.nsT▸trivial)).trans L.nsT⟩
theorem LS.updW {t:Nat} (L:LS c env loc g₀ h₀ D C ds led g s) (Ap:Apart h₀ env D C fp) (sub:∀b∈wr,b∈fp) (hs:∀b o,b∉wr→s.heap.get? b=some o→h'.get? b=some o) (hw:∀b∈wr,¬aS h₀ b∧g.tag b=none):
 LS c env loc g₀ h₀ D C ds led g {s with heap:=h',toks:=t}:=
 ⟨L.nice.updW hs λb hb=>(hw b hb).2,L.ext.updW hs λb hb=>(hw b hb).1,L.acc.imp λvs z=>z.imp λk z=>⟨hs _ _ (λw=>Ap.Df (sub _ w)) z.1,z.2⟩,L.accT,L.ns.imp λm n=>n.at λo e=>hs _ o (λw=>Ap.Cf (sub _ w)) e,L.nsT⟩
theorem LS.fr {t:Nat} {m:Str→Option Value} (L:LS c env loc g₀ h₀ D C ds led g s) (Ap:Apart h₀ env D C fp) (hs:Heap.SameBut C s.heap h') (hn:h'.Ns C m):LS c env loc g₀ h₀ D C ds led g {s with heap:=h',toks:=t}:=
 ⟨L.nice.other L.nsT Ap.CL hs (hn.elim λo z=>z.elim λ_ z=>z.elim λ_ z=>⟨o,z.1⟩),L.ext.upd hs Ap.C,L.acc.imp λvs z=>z.imp λk z=>⟨(hs.2 D Ap.DC).trans z.1,z.2⟩,L.accT,⟨m,hn⟩,L.nsT⟩
theorem LS.app {t k:Nat} {us:List Value} (L:LS c env loc g₀ h₀ D C ds led g s) (Ap:Apart h₀ env D C fp) (hs:Heap.SameBut D s.heap h') (hD:h'.get? D=some (aX us k)) (r:aJ c.ca g.F dsE us):LS c env loc g₀ h₀ D C dsE led g {s with heap:=h',toks:=t}:=
 ⟨L.nice.upd hs L.accT,L.ext.upd hs Ap.D,⟨us,k,hD,r⟩,L.accT,L.ns.imp λm n=>n.sameBut hs Ap.DC.symm,L.nsT⟩
theorem Ba {α:Type} {pre r:List α} {a:α}:(pre++a::r)[pre.length]? =some a:=by rw[List.getElem?_append_right (Nat.le_refl _),Nat.sub_self];rfl
theorem wz {α:Type} {pre r:List α} {a:α}:pre++a::r=(pre++[a])++r:=(List.append_assoc pre [a] r).symm
noncomputable def LI (c:Cx) (n:Nat) (sc:Scope) (env:Env) (loc:Loc) (g₀:Gh) (h₀:Heap) (D C:Addr) (elt:Expr) (ifs:List Expr) (x:Str) (as:List AV) (fp wr:List Addr) (P:Nat→Value→Prop) (St:Nat→Heap→Prop) (dsE:List Mine.D) (fB:Led) (k:Nat) (s:Shared):Prop:=
 ∃pre rest ds dr led g,as=pre++rest∧LS c env loc g₀ h₀ D C ds led g s∧Way c h₀ g s.heap as fp wr P St pre.length∧cH c n sc loc elt ifs x rest led dr fB∧dsE=ds++dr∧k=rest.length
theorem xT {R:Result→Shared→Prop} {fB:Led} (O:CompOk env sc x) (hA:AOk n A) (Ap:Apart h₀ env D C fp) (V:Walks c.prog c.w A I fp wr as.length P St) (L:LS c env loc g₀ h₀ D C [] led g s) (Y:Way c h₀ g s.heap as fp wr P St 0) (e0:cH c n sc loc elt ifs x as led dsE fB) (hf:dsE.length≤1048576)
 (hR:∀g' s',LS c env loc g₀ h₀ D C dsE fB g' s'→R (.ok .next) s'):cd c A (.compLoop (.ListComp elt [⟨.Name x px,iter,ifs,0⟩] sc pos) 0 (.ref I) (.ref D) (compEnvC sc (i8 env sc.names []) C env)) R s:=by
 refine ccomp (LI c n sc env loc g₀ h₀ D C elt ifs x as fp wr P St dsE fB) ?_ as.length ⟨[],as,[],dsE,led,g,rfl,L,Y,e0,rfl,rfl⟩ λ_=>rfl
 intro k s h
 refine cF λGG gg=>?_
 obtain⟨pre,rest,ds,dr,led,g,ha,L,Y,e,hd,hk⟩:=h
 refine gg ?_
 cases rest with
 | nil=>
   refine V.done s _ _ (by rw[ha,List.append_nil];exact Y.st) λh₁ tk hk=>hR g _ ?_
   rw[hd,e.1,List.append_nil,e.2]
   exact L.updW Ap V.sub hk Y.wrOk
 | cons a r=>
   refine cF λGG gg=>?_
   obtain⟨ob,lm,dm,st,er,hm⟩:=e
   refine gg ?_
   have lt:pre.length<as.length:=by rw[ha,List.length_append];exact Nat.lt_add_of_pos_right (Nat.succ_pos _)
   refine V.item pre.length s _ _ lt Y.st λv h₁ tk hv hst hk'=>?_
   have ra:ay c g a v:=(Y.item _ v hv).elim λa' z=>by rw[ha,Ba]at z;exact Option.some.inj z.1▸z.2
   have L₁:=L.updW (t:=tk) Ap V.sub hk' Y.wrOk
   refine L₁.ns.elim λm hm'=>yl (au (wpAny_storeName_local O.lcl hm' (λh₂ hn₂ hs₂=>?_) ?_))
   · have L₂:=L₁.fr (t:=tk+1) Ap hs₂ hn₂
     have Y₂:Way c h₀ g h₂ as fp wr P St (pre.length+1):=⟨V.frame _ _ _ hst λb hb o e=>(hs₂.2 b λz=>Ap.Cf ((show b=C from z)▸hb)).trans e,Y.wrOk,Y.fpOk,Y.item,Y.live⟩
     have M₂:At c n sc ((x,a)::kept sc loc) led (compEnvC sc (i8 env sc.names []) C env) A g _:=⟨hA,O.yZ L.nice.ok.kind,xR O L₂.nice L₂.nsT hn₂ (if_pos rfl) ra⟩
     have fin:∀{ds' led' g' s'},LS c env loc g₀ h₀ D C (ds++ds') led' g' s'→Way c h₀ g' s'.heap as fp wr P St (pre.length+1)→cH c n sc loc elt ifs x r led' dm fB→dr=ds'++dm→∃m,m<k∧LI c n sc env loc g₀ h₀ D C elt ifs x as fp wr P St dsE fB m s':=λ{ds' led' g' s'} L Y er q=>
      ⟨r.length,hk▸Nat.lt_succ_self _,pre++[a],r,ds++ds',dm,led',g',ha.trans wz,L,by rw[List.length_append];exact Y,er,by rw[hd,q,List.append_assoc],rfl⟩
     cases ob with
     | none=>
       exact wgo M₂ (st M₂) λok s₃ g₃ M₃ X₃ r₃=>by
        rw[r₃]
        exact fin (ds':=[]) (by rw[List.append_nil];exact L₂.to M₃.n X₃) (Y₂.ext V L₂.nice.inv X₃) er hm
     | some d=>
       exact st.elim λb st=>st.elim λla st=>st.elim λlb st=>wgo M₂ (st.1 M₂) λok s₃ g₃ M₃ X₃ r₃=>by
        rw[r₃]
        refine wgo M₃ (st.2.1.gv M₃) λy s₄ g₄ M₄ X₄ r₄=>(kh _ M₄.n.inv r₄.lt st.2.2).elim λg₅ S=>?_
        have L₅:=((L₂.to M₃.n X₃).to M₄.n X₄).to (M₄.n.gh S.1) S.1.ext
        have Y₅:=((Y₂.ext V L₂.nice.inv X₃).ext V M₃.n.inv X₄).ext V M₄.n.inv S.1.ext
        refine L₅.acc.elim λus z=>z.elim λj z=>au (append_at z.1 (λh₆ hs₆ hD₆=>?_) ?_)
        · exact fin (ds':=[d]) (L₅.app (t:=s₄.toks) Ap hs₆ (us:=us++[y]) (k:=j+1) (hD₆.trans (congrArg some (by simp[aX]))) (z.2.append (es:=[d]) (ws:=[y]) ⟨S.2 y r₄,rfl⟩)) ⟨V.frame _ _ _ Y₅.st λb hb o e=>(hs₆.2 b λz=>Ap.Df (z▸hb)).trans e,Y₅.wrOk,Y₅.fpOk,Y₅.item,Y₅.live⟩ er hm
        · rw[List.size_toArray,z.2.len]
          rw[hd,List.length_append]at hf
          exact lY (Nat.le_trans (Nat.le_add_right _ _) hf)
   · show ((relabel sc env).kind==ScopeKind.class || ((relabel sc env).kind==ScopeKind.module&&_))=false
     rw[show (relabel sc env).kind= .function from O.kind];rfl
end
end Mine
end
section
open PySem PySem.W PySem.Calls PyProof.Rows
namespace Mine
section
variable {c:Cx} {n m:Nat} {sc sc0:Scope} {env env':Env} {loc l1 l2:Loc} {g g' g₀:Gh} {led led' led₁ led₂ led₃ fB:Led} {s s':Shared} {h h' h₀:Heap} {A:Around} {d y z:D} {v vo vk vz:Value} {x k:Str} {pos p0 px pp np:Pos} {a b p q:AV} {as:List AV} {i j:Nat} {e el er o t elt it:Expr} {vs:List Value} {ts es ifs:List Expr} {ds:List D} {Da Ca:Addr} {use:Option (Value→Sem Unit)} {Q:Value→Shared→Prop}
theorem jJ (h:bK e≠0) (v:Value):foldedSetIterable e env v=pure v:=by
 cases e with
 | Set _ _ _=>exact absurd rfl h
 | _=>rfl
theorem CompOk.nocel (O:CompOk env sc x):∀y∈sc.names,y.2≠ .cell:=λy hy e=>by
 have w:=O.names y hy
 rw[e]at w
 exact w
theorem CompOk.look (O:CompOk env sc x):∀y∈sc.names,y.2= .local→sc.names.lookup y.1=some .local:=λy hy e=>by
 have w:=O.names y hy
 rw[e]at w
 refine(mem_lookup (x:=y.1) (a:=y.2) hy).elim λk hk=>?_
 have u:=O.names _ (lookup_mem hk)
 cases k with
 | «local»=>exact hk
 | free=>exact w.elim (λz=>absurd z u.1) λz=>absurd z u.2.1
 | globalImplicit=>exact w.elim (λz=>absurd z u.1) λz=>absurd z u.2.1
 | _=>exact u.elim
theorem wq (hC:cp sc0 sc x=true) (hi:ItR c n sc0 loc it led as led₁) (e0:cH c n sc loc elt ifs x as led₁ ds fB) (hf:ds.length≤1048576) (M:At c n sc0 loc led env A g s)
 (hR:∀Da Ca g' s',LS c env loc g s.heap Da Ca ds fB g' s'→Apart s.heap env Da Ca []→compPost c A use Q (.ref Da) Ca s'):wp c A (comprehension (.ListComp elt [⟨.Name x px,it,ifs,0⟩] sc pos) sc env pp (newList []) false (eval it env) use) Q s:=by
 have O:=Dg M.sc hC
 refine wcomp (e:= .ListComp elt [⟨.Name x px,it,ifs,0⟩] sc pos) (g:=⟨.Name x px,it,ifs,0⟩) (gs:=[]) rfl (jJ hi.pl) (nX (O.has M.n.ok)) O.kind O.look (λ_ _ _=>rfl) ?_
 refine bc (hi.run M) λxv s₁ h₁=>bc (au h₁) λitv s₂ h₂=>?_
 cases h₂ with
 | mk g₂ N₂ X₂ r=>cases r with
   | @mk I fp wr P St R=>
     refine au (wpAny_newList (items:=[]) ?_ (Nat.zero_le _))
     refine au (wpAny_newFunctionEnv O.nocel (λy hy=>nomatch hy) (λh₄ hn₄ hs₄=>?_) O.kind)
     dsimp only at hn₄ hs₄ ⊢
     have J:=Go.junk (b:=false) N₂.inv (aX [] 0)
     generalize hH:s₂.heap.push (aX [] 0)=H at J hn₄ hs₄ ⊢
     have J2:=J.trans (Go.junk J.inv {cls:= .type "dict",data:= .dict #[]})
     have hHs:H.objs.size=s₂.heap.objs.size+1:=by rw[←hH,Heap.size_push]
     have nC':¬aS s₂.heap H.objs.size:=λl=>Nat.lt_irrefl _ (Nat.lt_of_lt_of_le l.lt (hHs▸Nat.le_succ _))
     have nC:¬aS s.heap H.objs.size:=λl=>nC' (X₂.live _ l)
     have nD:¬aS s.heap s₂.heap.objs.size:=λl=>bj (X₂.live _ l)
     have tC:g₂.tag H.objs.size=none:=N₂.inv.untag nC'
     have N₅:=(N₂.go (t:=s₂.toks+0) J2).upd (t:=s₂.toks+0) hs₄ tC
     have X₅:=(X₂.trans J2.ext).upd hs₄ nC
     have lC:aS h₄ H.objs.size:=hn₄.elim λo z=>z.elim λ_ z=>z.elim λ_ z=>⟨o,z.1⟩
     have N₆:=N₅.mark (u:= .lcl) tC lC λ_ z=>nomatch z
     have old:∀b o,s₂.heap.get? b=some o→h₄.get? b=some o:=λb o e=>(hs₄.2 b λz=>nC' ⟨o,z▸e⟩).trans (bh _ _ (hH▸bh _ _ e))
     have DC:s₂.heap.objs.size≠H.objs.size:=hHs▸Nat.ne_of_lt (Nat.lt_succ_self _)
     have tg:∀{b},aS s₂.heap b→(g₂.tg H.objs.size (some .lcl)).tag b=g₂.tag b:=λl=>cA λz=>nC' (z▸l)
     have fpl:=R.live 0 _ R.st
     have CL:env.locals≠H.objs.size:=dZ tC N₂.ok.tagL
     have hDo:h₄.get? s₂.heap.objs.size=some (aX [] 0):=(hs₄.2 _ DC).trans (bh _ _ (hH▸Heap.get?_push_size _ rfl))
     have L:LS c env loc g s.heap s₂.heap.objs.size H.objs.size [] led₁ (g₂.tg H.objs.size (some .lcl)) {s₂ with heap:=h₄,toks:=s₂.toks+0}:=
      ⟨N₆,X₅.tg λl=>absurd l nC,⟨[],0,hDo,rfl⟩,(cA DC).trans N₂.inv.fresh,⟨_,hn₄⟩,cJ⟩
     have V:=R.walks A M.a.hd
     have Y:Way c s.heap (g₂.tg H.objs.size (some .lcl)) h₄ as fp wr P St 0:=
      ⟨V.frame _ _ _ R.st λb _ o e=>old b o e,λb hb=>⟨(R.wrOk b hb).1,(tg (fpl b (V.sub b hb))).trans (R.wrOk b hb).2⟩,λb hb=>(tg (fpl b hb)).symm▸(R.fpOk b hb).2,
        λi v e=>(R.item i v e).imp λa z=>⟨z.1,ay.mv (g:=g₂) (g':=g₂.tg H.objs.size (some .lcl)) (Nat.le_refl _) (λ_ _=>rfl) (jh (cW (m:=0) tC)) z.2⟩,R.live⟩
     have Ap:Apart s.heap env s₂.heap.objs.size H.objs.size fp:=⟨nD,nC,DC,λz=>bj (fpl _ z),λz=>nC' (fpl _ z),CL⟩
     have loop:cd c A (.compLoop (.ListComp elt [⟨.Name x px,it,ifs,0⟩] sc pos) 0 (.ref I) (.ref s₂.heap.objs.size) (compEnvC sc (i8 env sc.names []) H.objs.size env)) (okR λ_=>compPost c A use Q (.ref s₂.heap.objs.size) H.objs.size) {s₂ with heap:=h₄,toks:=s₂.toks+0}:=
      xT O M.a Ap V L Y e0 hf λg' s' L'=>hR _ _ g' s' L' ⟨nD,nC,DC,λz=>(nomatch z),λz=>(nomatch z),CL⟩
     exact Gu loop (au (V.self 0 _ _ _ Y.st loop))
theorem sF (L:LS c env loc g₀ h₀ Da Ca ds led g s) (Ap:Apart h₀ env Da Ca []):∃g',Nice c env loc g' led s∧Ext false g₀ h₀ g' s.heap∧g'.tag Ca=none∧ay c g' (.v (.list ds)) (.ref Da):=L.acc.elim λvs z=>z.elim λk z=>by
 have H:kX 0 (g.tag Da) (some (.fz (aX vs k))):=cW L.accT
 have N₁:=L.nice.tg (L.nice.inv.fzNone L.accT z.1) H (dZ L.accT L.nice.ok.tagL) λ_ _ e=>dZ L.accT e
 have tC:(g.tg Da (some (.fz (aX vs k)))).tag Ca=some .lcl:=(cA Ap.DC.symm).trans L.nsT
 have H2:kX 0 ((g.tg Da (some (.fz (aX vs k)))).tag Ca) none:=by rw[tC];trivial
 have N₂:=N₁.tg (N₁.inv.unmark tC) H2 Ap.CL λ_ _ e=>cK tC e λz=>nomatch z
 exact⟨_,N₂,(L.ext.tg λl=>absurd l Ap.D).tg λl=>absurd l Ap.C,cJ,eA (jh H2 _ _ dG) (z.2.mono λb o e=>jh H2 _ _ (jh H b o e))⟩
theorem Nice.end (N:Nice c env loc g led s) (t:g.tag Ca=none) (hs:Heap.SameBut Ca s.heap h'):Nice c env loc g led {s with heap:=h'}:=N.upd (t:=s.toks) hs t
theorem C6 (hf:fits ds.length=true) (e0:cH c n sc loc elt ifs x as led₁ ds fB) (hi:ItR c n sc0 loc it led as led₁) (hC:cp sc0 sc x=true):Ex c n sc0 loc (.ListComp elt [⟨.Name x px,it,ifs,0⟩] sc pos) led (.v (.list ds)) fB:=by
 have G:Gv c n sc0 loc (.ListComp elt [⟨.Name x px,it,ifs,0⟩] sc pos) led (.v (.list ds)) fB:=λM=>weq (arm_eval_ListComp ..) (wq hC hi e0 (bq hf) M λDa Ca g' s' L Ap=>L.ns.elim λm hm=>⟨m,hm,λh' hs=>(sF L Ap).elim λg₂ z=>⟨g₂,z.1.end z.2.2.1 hs,z.2.1.upd hs Ap.C,z.2.2.2⟩⟩)
 refine⟨G,qP (.inr rfl) G,λz=>(nomatch z),λ_ l2 H y np pos2 ho env hs A g s M=>weq (arm_exec_Assign ..) (aA ?_)⟩
 rw[show swapsWithSole [.Name y np] (.ListComp elt [⟨.Name x px,it,ifs,0⟩] sc pos) pos2.line env=pure true from hs]
 refine fL ?_
 rw[if_pos rfl,arm_evalThenUse_ListComp]
 refine ah (ah (bc (wq (Q:=λ_ s'=>eM c env (set l2 y (.v (.list ds))) g s.heap fB () s') hC hi e0 (bq hf) (M.wk H) λDa Ca g' s' L0 Ap=>?_) λ_ s₂ p=>aw (aw ?_)))
 · have L:LS c env l2 g s.heap Da Ca ds fB g' s':=⟨M.n.ext L0.ext L0.nice.inv (L0.nice.gens.trans M.n.gens.symm) (L0.nice.os.trans M.n.os.symm),L0.ext,L0.acc,L0.accT,L0.ns,L0.nsT⟩
   show wp c A (assign (.Name y np) env (.ref Da)) _ s'
   exact(sF L Ap).elim λg₂ z=>yl (au (wpAny_mono (jk (M.to z.1) z.2.2.2 ho) (λ_ s₃ p=>by
    cases p with
    | mk g₃ N₃ X₃ _=>
      have lC:=L.nice.inv.dom _ _ L.nsT
      have l0:Still true (g₂.tag Ca):=z.2.2.1▸trivial
      have t3:g₃.tag Ca=none:=(X₃.tag Ca lC (bM l0)).trans z.2.2.1
      exact L.ns.imp λm n=>⟨n.at λo e=>X₃.old _ o e l0,λh' hs=>⟨g₃,N₃.end t3 hs,((z.2.1.weak true).trans X₃).upd hs Ap.C,trivial⟩⟩) λ_ _ e=>e))
 · cases p with
   | mk g' N X _=>exact⟨g',N,X,rfl⟩
noncomputable def o6 (c:Cx) (n:Nat) (sc:Scope) (loc:Loc) (ks:List (Option Expr)) (vs:List Expr) (led:Led) (l:List (Int×D)) (l1:Led):Prop:=
 ∀pos env,∃prs:List (Sem Value×Sem Value),(evalEachOpt ks env).zip ((evalEach vs env).map λv=>do let x←v;standAt pos;pure x)=prs.map (λp=>(some p.1,p.2))∧prs.length=l.length∧
  ∀{A g s},At c n sc loc led env A g s→wp c A (evalPairs prs) (Pst c env loc false g s.heap l1 λg' _ ws=>∃ps,Carries (iK c) ws ps∧cX c.ca g'.F l ps) s
theorem AG:o6 c n sc loc [] ts led [] led:=λpos env=>⟨[],rfl,rfl,λM=>here M ⟨[],trivial,rfl⟩⟩
theorem xP {i:Int} {l:List (Int×D)} {ks:List (Option Expr)} (hr:o6 c n sc loc ks es led₂ l led₃) (hd:bY q=some d) (he:Ex c n sc loc e led₁ q led₂) (hi:bX p=some i) (hk:Ex c n sc loc el led p led₁):o6 c n sc loc (some el::ks) (e::es) led ((i,d)::l) led₃:=λpos env=>
 (hr pos env).imp' (λprs=>(eval el env,(do let x←eval e env;standAt pos;pure x))::prs) λprs z=>⟨by show _::_=_;rw[List.map_cons,←z.1];rfl,congrArg (· +1) z.2.1,λ{A g s} M=>EH (wgo M (hk.gv M) λkv s₁ g₁ M₁ X₁ r₁=>ah (wgo M₁ (he.gv M₁) λvv s₂ g₂ M₂ X₂ r₂=>aA (aw (wgo M₂ (z.2.2 M₂) λws s₃ g₃ M₃ X₃ r₃=>⟨g₃,M₃.n,X₁.trans (X₂.trans X₃),r₃.elim λps w=>w7 hi r₁ λt=>⟨(i,vv)::ps,⟨kL,rfl,w.1⟩,rfl,(X₃.repA M₂.n.inv (jB hd▸r₂):ay c g₃ (.v d) vv),w.2⟩⟩))))⟩
theorem ou {k:Int}:∀{l:List (Int×D)},zd k l=true→k∉l.map (·.1)
 | [],_,h=>nomatch h
 | p::l,e,h=>aE e λe1 e2=>(List.mem_cons.mp h).elim (λz=>of_decide_eq_false (B6 e1) z.symm) (ou e2)
theorem eK:∀{l:List (Int×D)},et l=true→(l.map (·.1)).Nodup
 | [],_=>List.nodup_nil
 | p::l,e=>aE e λe1 e2=>List.nodup_cons.mpr ⟨ou e1,eK e2⟩
theorem oo {ob:Obj} {i:Addr} {l:List (Int×D)} {ps:List (Int×Value)} (N:Nice c env loc g led s) (X:Ext false g₀ h₀ g s.heap) (nl:¬aS h₀ i) (t:g.tag i=none) (hs:(i==sysModules)=false)
 (ho:s.heap.get? i=some ob) (hD:cM ob ps) (r:cX c.ca g.F l ps):bL c env loc g₀ h₀ led (.v (.dict l)) (.ref i) s:=
 have H:kX 0 (g.tag i) (some (.fz ob)):=cW t
 ⟨_,N.tg (N.inv.fzNone t ho) H (dZ t N.ok.tagL) λ_ _ e=>dZ t e,X.tg λl=>absurd l nl,q6 hs dG hD (r.mono (jh H))⟩
theorem CQ {l:List (Int×D)} {ks:List (Option Expr)} (hd:(et l&&Nat.ble l.length 15)=true) (h:o6 c n sc loc ks es led l led₁):Gv c n sc loc (.Dict ks es pos) led (.v (.dict l)) led₁:=λ{env A g s} M=>(h pos env).elim λprs z=>aE hd λhd hl=>dE (p:=prs=[])
 (λh0=>by
   rw[h0]at z
   have hz:l=[]:=List.eq_nil_of_length_eq_zero z.2.1.symm
   rw[hz]at z ⊢
   refine weq (arm_eval_Dict ..) (weq (congrArg (λx=>standAt pos>>=λ_=>dictDisplay x) z.1) (aA ?_))
   show wp c A newDict _ s
   unfold newDict
   intro Γ p hΓ hg
   have w:Pst c env loc false g s.heap led₁ (λg' _ ws=>∃ps,Carries (iK c) ws ps∧cX c.ca g'.F [] ps) [] s:=z.2.2 M Γ p hΓ hg
   cases w with
   | mk g₁ N₁ X₁ _=>exact(au (wpAny_newObj_type (oo (t:=N₁.inv.fresh) (l:=[]) (ps:=[]) (N₁.junk {cls:= .type "dict",data:= .dict #[]}) (X₁.trans (Go.junk N₁.inv _).ext) bj (tM M.n) (Heap.get?_push_size _ rfl) ⟨⟨rfl,rfl,rfl⟩,#[],0,rfl,.nil,List.nodup_nil⟩ rfl)):wp c A _ _ s) Γ p hΓ hg)
 λh0=>wdict z.1 h0 (by rw[z.2.1];exact Nat.le_of_ble_eq_true hl) (by
  have M':=M.to (M.n.junk {cls:= .type "dict",data:= .dict #[]} (t:=s.toks))
  have X':=(Go.junk (b:=false) M.n.inv {cls:= .type "dict",data:= .dict #[]}).ext
  have lD:aS (s.heap.push {cls:= .type "dict",data:= .dict #[]}) s.heap.objs.size:=⟨_,Heap.get?_push_size _ rfl⟩
  have l0:Still true (g.tag s.heap.objs.size):=M.n.inv.fresh▸trivial
  exact wgo M' (z.2.2 M') λws s₂ g₂ M₂ X₂ r₂=>r₂.imp λps w=>⟨w.1,(Heap.DictOf.new (knd:=iK c) s.heap).at λo e=>X₂.old _ o e (k5 l0),λh' hD' hs'=>by
   rw[merged_nil_of_nodup _ (by rw[w.2.keys];exact eK hd)]at hD'
   have t2:=(X₂.tag _ lD (bM l0)).trans M.n.inv.fresh
   exact(m8 hD').elim λo q=>oo (M₂.n.upd (t:=s₂.toks+ws.length) hs' t2) ((X'.trans X₂).upd hs' bj) bj t2 (tM M.n) q.1 q.2 w.2⟩)
end
end Mine
end
section
open PySem PySem.W PySem.Calls PyProof.Rows
namespace Mine
section
variable {s s':Shared} {h h':Heap} {prog:Program} {w:World} {A:Around} {E:Value→Shared→Prop}
theorem Aa {t:Expr} {I:Addr} {v:Value} {o:Obj} {T:String} {Q:Unit→Shared→Prop} (ho:s.heap.get? I=some o) (hc:o.cls= .type T) (hT:ju T=false) (q:Q () s):
 wpAny (model prog w) A (letOwnedTupleGo t (.ref I) v) Q E s:=by
 have tup:wpAny (model prog w) A (do
  let (.ref r,.ref a):=(Value.ref I,v) | return
  let o←load r
  match o.cls,o.data with
  | .type n,.fields vs=>
    if ["enumerate","zip","dict_itemiterator","dict_reverseitemiterator","odict_iterator","itertools.zip_longest","itertools.pairwise"].contains n&&vs[0]?==some (rawInt a)then
     rule "for.unpacks-the-owned-tuple"
     updateField r 0 .none
  | _,_=>pure ()) Q E s:=by
  cases v
  case ref a=>
   refine wpAny_bind (wpAny_load ho ?_)
   rw[hc]
   cases o.data<;>try exact wpAny_pure q
   rename_i vs
   show wpAny (model prog w) A (if (ju T&&vs[0]?==some (rawInt a))=true then _ else _) Q E s
   rw[hT,Bool.false_and,if_neg (by decide)]
   exact wpAny_pure q
  all_goals exact wpAny_pure q
 cases t<;>first | exact wpAny_pure q | exact tup
theorem jw {it t:Addr} {i:Nat} {items:Array Value} {x:Value} {Q:Value→Shared→Prop} (hit:s.heap.IsTupleIter it t i) (ht:s.heap.IsTuple t items) (hx:items[i]? =some x)
 (hQ:∀h',h'.IsTupleIter it t (i+1)→Heap.SameBut it s.heap h'→Q x {s with heap:=h'}):wpAny (model prog w) A (Builtin.SmallTypes.nextOf (.ref it)) Q E s:=by
 refine cF λGG gg=>?_
 obtain⟨o,ho,hc,hd⟩:=id hit
 obtain⟨ol,hol,_,nl,hdl⟩:=ht
 refine gg ?_
 unfold Builtin.SmallTypes.nextOf
 refine wpAny_bind (wpAny_callSpecial?_slot (name:=Str.ofString "__next__") hit.typeIs F.slot_tuple_iterator_next
  (wpAny_call_entry F.slot_tuple_iterator_next hit.typeIs F.entry_tuple_iterator_next ?_ (F.args_tuple_iterator_next_1 _)))
 show wpAny _ _ (field (.ref it) 0>>=_) _ _ s
 refine wpAny_bind (wpAny_field ho hd (x:= .ref t) rfl ?_)
 show wpAny _ _ (if (Value.ref t==Value.none)=true then _ else _) _ _ s
 rw[if_neg (show¬((Value.ref t==Value.none)=true) from Bool.false_ne_true)]
 show wpAny _ _ (field (.ref it) 1>>=_) _ _ s
 refine wpAny_bind (wpAny_field ho hd (x:= .int i 0) rfl ?_)
 show wpAny _ _ (seqItems? (.ref t)>>=_) _ _ s
 refine wpAny_bind (wpAny_seqItems hol hdl ?_)
 simp only[Int.toNat_natCast,hx]
 refine wpAny_bind (wpAny_setField ho hd (by simp) (wpAny_pure ⟨x,rfl,wpAny_pure (hQ _ ?_ (Heap.SameBut.update ..))⟩))
 exact⟨_,Heap.get?_update_self _ ho (Obj.isFreed_of_fields (Obj.data_mapFields hd _)),(Obj.cls_mapFields ..).trans hc,by
  rw[Obj.data_mapFields hd];simp[rawInt]⟩
theorem j7 {it t:Addr} {i:Nat} {items:Array Value} {Q:Value→Shared→Prop} (hh:A.handled=none) (hit:s.heap.IsTupleIter it t i) (ht:s.heap.IsTuple t items) (hx:items[i]? =none)
 (hE:∀h' e,Heap.ExtBut it s.heap h'→(∃o,h'.get? e=some o∧o.cls= .type "StopIteration")→E (.ref e) {s with heap:=h'}):wpAny (model prog w) A (Builtin.SmallTypes.nextOf (.ref it)) Q E s:=by
 refine cF λGG gg=>?_
 obtain⟨o,ho,hc,hd⟩:=id hit
 obtain⟨ol,hol,_,nl,hdl⟩:=ht
 refine gg ?_
 unfold Builtin.SmallTypes.nextOf
 refine wpAny_bind (wpAny_callSpecial?_slot (name:=Str.ofString "__next__") hit.typeIs F.slot_tuple_iterator_next
  (wpAny_call_entry F.slot_tuple_iterator_next hit.typeIs F.entry_tuple_iterator_next ?_ (F.args_tuple_iterator_next_1 _)))
 show wpAny _ _ (field (.ref it) 0>>=_) _ _ s
 refine wpAny_bind (wpAny_field ho hd (x:= .ref t) rfl ?_)
 show wpAny _ _ (if (Value.ref t==Value.none)=true then _ else _) _ _ s
 rw[if_neg (show¬((Value.ref t==Value.none)=true) from Bool.false_ne_true)]
 show wpAny _ _ (field (.ref it) 1>>=_) _ _ s
 refine wpAny_bind (wpAny_field ho hd (x:= .int i 0) rfl ?_)
 show wpAny _ _ (seqItems? (.ref t)>>=_) _ _ s
 refine wpAny_bind (wpAny_seqItems hol hdl ?_)
 simp only[Int.toNat_natCast,hx]
 refine wpAny_bind (wpAny_rule (wpAny_bind (wpAny_setField ho hd (by simp) ?_)))
 show wpAny _ _ (newExc (.type "StopIteration") []>>=_) _ _ _
 refine wpAny_bind ?_
 simp only[newExc,newTuple]
 refine wpAny_bind (wpAny_newObj_type ?_ (by size_fits))
 refine wpAny_bind (m:=firstArgMember _ _) (wpAny_of_eq (a:=Value.none) (by first | rfl | (simp only[firstArgMember];rfl)) ?_)
 refine wpAny_newObj_type ?_ (by size_fits)
 simp only[raiseNew]
 refine wpAny_bind (wpAny_handled ?_)
 first | rw[show A.in1.handled=none from hh] | rw[hh]
 refine wpAny_bind (wpAny_pure (wpAny_throw ?_))
 exact hE _ _ (((Heap.SameBut.update ..).extBut.push _).push _) ⟨_,Heap.get?_push_size _ rfl,rfl⟩
theorem sy (hh:A.handled=none) (it l:Addr) (hne:l≠it) (items:Array Value):
 Draws prog w A it [it,l] items.size (λi v=>items[i]? =some v) (λi h=>h.IsTupleIter it l i∧h.IsTuple l items) where
 live:=λ_ _ st=>let ⟨o,ho,_⟩:=st.1;⟨o,ho⟩
 frame:=λ_ _ _ st hk=>⟨let ⟨o,e,r⟩:=st.1;⟨o,hk it (by simp) o e,r⟩,let ⟨o,e,r⟩:=st.2;⟨o,hk l (by simp) o e,r⟩⟩
 item:=λi s Q E hi st hQ=>by
  refine jw st.1 st.2 (x:=items[i]) (by simp[hi]) λh' hit' hs'=>?_
  exact hQ _ h' s.toks (by simp[hi]) ⟨hit',st.2.extBut hs'.extBut hne⟩ hs'
 done:=λs Q E st hE=>j7 hh st.1 st.2 (by simp) hE
structure ZApart (z TI TO i1 i2:Addr) (f1 f2:List Addr):Prop where
 zf1:z∉f1
 zf2:z∉f2
 Of1:TO∉f1
 Of2:TO∉f2
 i12:i1∉f2
 i21:i2∉f1
 m1:i1∈f1
 m2:i2∈f2
 TIz:TI≠z
 TITO:TI≠TO
 TIi1:TI≠i1
 TIi2:TI≠i2
 TOz:TO≠z
variable {i1 i2 z TI TO:Addr} {f1 f2:List Addr} {n1 n2:Nat} {P1 P2:Nat→Value→Prop} {St1 St2:Nat→Heap→Prop}
theorem ZApart.i1z (D:ZApart z TI TO i1 i2 f1 f2):i1≠z:=λe=>D.zf1 (e▸D.m1)
theorem ZApart.i2z (D:ZApart z TI TO i1 i2 f1 f2):i2≠z:=λe=>D.zf2 (e▸D.m2)
theorem ZApart.Oi1 (D:ZApart z TI TO i1 i2 f1 f2):TO≠i1:=λe=>D.Of1 (e▸D.m1)
theorem ZApart.Oi2 (D:ZApart z TI TO i1 i2 f1 f2):TO≠i2:=λe=>D.Of2 (e▸D.m2)
theorem Draws.same {it:Addr} {fp:List Addr} {n:Nat} {P:Nat→Value→Prop} {St:Nat→Heap→Prop} (D:Draws prog w A it fp n P St) {c:Addr} (hs:Heap.SameBut c h h') (hc:c∉fp) {k:Nat} (st:St k h):St k h':=
 D.frame k h h' st λb hb o e=>hs.extBut b o (λq=>hc (q▸hb)) e
theorem wI (D1:Draws prog w A i1 f1 n1 P1 St1) (D2:Draws prog w A i2 f2 n2 P2 St2) (D:ZApart z TI TO i1 i2 f1 f2) {k:Nat} {a b:Value} {Q:Value→Shared→Prop}
 (hz:IsZip s.heap z TI TO .none) (hTI:IsPair s.heap TI (.ref i1) (.ref i2)) (hTO:IsPair s.heap TO a b) (s1:St1 k s.heap) (s2:St2 k s.heap) (l1:k<n1) (l2:k<n2)
 (hQ:∀h' tk x y,P1 k x→P2 k y→IsZip h' z TI TO (rawInt s.heap.objs.size)→IsPair h' TO x y→St1 (k+1) h'→St2 (k+1) h'→IsPair h' s.heap.objs.size x y→
   (∀c o,c≠z→c≠TO→c≠i1→c≠i2→s.heap.get? c=some o→h'.get? c=some o)→Q (.ref s.heap.objs.size) {s with heap:=h',toks:=tk}):
 wpAny (model prog w) A (Builtin.«zip.__next__» ⟨[.ref z],[]⟩) (λfin s'=>∃v,fin= .done (.ret v)∧Q v s') E s:=by
 show wpAny _ _ (field (.ref z) 2>>=_) _ _ _
 refine wpAny_bind (wpAny_field hz rfl (x:= .bool false) rfl ?_)
 show wpAny _ _ (field (.ref z) 3>>=_) _ _ _
 refine wpAny_bind (wpAny_field hz rfl (x:= .ref TI) rfl ?_)
 refine wpAny_bind (wpAny_seqItems hTI rfl ?_)
 show wpAny _ _ (Builtin.SmallTypes.ownedTupleIsFree (.ref z)>>=_) _ _ _
 refine wpAny_bind ?_
 unfold Builtin.SmallTypes.ownedTupleIsFree
 refine wpAny_bind (wpAny_field hz rfl (x:= .none) rfl (wpAny_pure ?_))
 simp only[if_true]
 refine wpAny_bind (wpAny_rule ?_)
 refine wpAny_bind (wpAny_field hz rfl (x:= .ref TO) rfl ?_)
 refine wpAny_bind (wpAny_setField_rec hz (by simp) λh₁ hz₁ hs₁=>?_)
 replace hz₁:IsZip h₁ z TI TO .ellipsis:=hz₁
 refine wpAny_bind ?_
 simp only[List.zipIdx_cons,List.zipIdx_nil,List.forIn_cons,List.forIn_nil]
 refine wpAny_bind (wpAny_bind (wpAny_onRaise ?_))
 show wpAny _ _ (Builtin.SmallTypes.nextOf (.ref i1)>>=_) _ _ _
 refine wpAny_bind (D1.item k _ _ _ l1 (Draws.same D1 hs₁ D.zf1 s1) λx h₂ t₂ p1 s1₂ hs₂=>wpAny_pure ?_)
 have hTO₂:IsPair h₂ TO a b:=hs₂.extBut _ _ D.Oi1 (hs₁.extBut _ _ D.TOz hTO)
 refine wpAny_bind (wpAny_seqItems hTO₂ rfl ?_)
 refine wpAny_bind (wpAny_updateSeq_pair hTO₂ λh₃ hTO₃ hs₃=>?_)
 replace hTO₃:IsPair h₃ TO x b:=hTO₃
 replace hs₃:Heap.SameBut TO h₂ h₃:=hs₃
 replace hs₂:Heap.SameBut i1 h₁ h₂:=hs₂
 refine wpAny_bind (wpAny_letGo (wpAny_pure ?_))
 refine wpAny_bind (wpAny_bind (wpAny_onRaise ?_))
 show wpAny _ _ (Builtin.SmallTypes.nextOf (.ref i2)>>=_) _ _ _
 refine wpAny_bind (D2.item k _ _ _ l2 (Draws.same D2 hs₃ D.Of2 (Draws.same D2 hs₂ D.i12 (Draws.same D2 hs₁ D.zf2 s2))) λy h₄ t₄ p2 s2₄ hs₄=>wpAny_pure ?_)
 replace hs₄:Heap.SameBut i2 h₃ h₄:=hs₄
 have hTO₄:IsPair h₄ TO x b:=hs₄.extBut _ _ D.Oi2 hTO₃
 refine wpAny_bind (wpAny_seqItems hTO₄ rfl ?_)
 refine wpAny_bind (wpAny_updateSeq_pair hTO₄ λh₅ hTO₅ hs₅=>?_)
 replace hTO₅:IsPair h₅ TO x y:=hTO₅
 replace hs₅:Heap.SameBut TO h₄ h₅:=hs₅
 refine wpAny_bind (wpAny_letGo (wpAny_pure (wpAny_pure ?_)))
 refine wpAny_bind (wpAny_seqItems hTO₅ rfl ?_)
 refine wpAny_bind (wpAny_newTuple ?_)
 have hsz:h₅.objs.size=s.heap.objs.size:=by rw[hs₅.1,hs₄.1,hs₃.1,hs₂.1,hs₁.1]
 have hz₅:IsZip h₅ z TI TO .ellipsis:=hs₅.extBut _ _ D.TOz.symm (hs₄.extBut _ _ D.i2z.symm (hs₃.extBut _ _ D.TOz.symm (hs₂.extBut _ _ D.i1z.symm hz₁)))
 have hk₅:∀c o,c≠z→c≠TO→c≠i1→c≠i2→s.heap.get? c=some o→h₅.get? c=some o:=λc o c1 c2 c3 c4 e=>
  hs₅.extBut _ _ c2 (hs₄.extBut _ _ c4 (hs₃.extBut _ _ c2 (hs₂.extBut _ _ c3 (hs₁.extBut _ _ c1 e))))
 have s1₅:St1 (k+1) h₅:=Draws.same D1 hs₅ D.Of1 (Draws.same D1 hs₄ D.i21 (Draws.same D1 hs₃ D.Of1 s1₂))
 have s2₅:St2 (k+1) h₅:=Draws.same D2 hs₅ D.Of2 s2₄
 have hzlt:z<h₅.objs.size:=Heap.lt_size hz₅
 show wpAny _ _ (Builtin.SmallTypes.ownedTupleHandOut (.ref z) (.ref h₅.objs.size)>>=_) _ _ _
 refine wpAny_bind ?_
 unfold Builtin.SmallTypes.ownedTupleHandOut
 have hz₆:IsZip (h₅.push {cls:= .type "tuple",data:= .seq #[x,y]}) z TI TO .ellipsis:=Heap.get?_push_of_some _ hz₅
 refine wpAny_bind (wpAny_setField_rec hz₆ (by simp) λh₇ hz₇ hs₇=>?_)
 replace hz₇:IsZip h₇ z TI TO (rawInt h₅.objs.size):=hz₇
 refine wpAny_setField_rec hz₇ (by simp) λh₈ hz₈ hs₈=>?_
 replace hz₈:IsZip h₈ z TI TO (rawInt h₅.objs.size):=hz₈
 have up:∀c o,c≠z→h₅.get? c=some o→h₈.get? c=some o:=λc o c1 e=>hs₈.extBut _ _ c1 (hs₇.extBut _ _ c1 (Heap.get?_push_of_some _ e))
 have hT₈:IsPair h₈ h₅.objs.size x y:=hs₈.extBut _ _ (Nat.ne_of_gt hzlt) (hs₇.extBut _ _ (Nat.ne_of_gt hzlt) (Heap.get?_push_size _ rfl))
 rw[hsz]at hz₈ hT₈
 refine wpAny_pure ⟨_,rfl,?_⟩
 show Q (.ref h₅.objs.size) _
 rw[hsz]
 exact hQ h₈ t₄ x y p1 p2 hz₈ (up _ _ D.TOz hTO₅) (D1.frame _ _ _ s1₅ λc hc o e=>up c o (λq=>D.zf1 (q▸hc)) e) (D2.frame _ _ _ s2₅ λc hc o e=>up c o (λq=>D.zf2 (q▸hc)) e) hT₈ λc o c1 c2 c3 c4 e=>up c o c1 (hk₅ c o c1 c2 c3 c4 e)
theorem x9 (D1:Draws prog w A i1 f1 n1 P1 St1) (D2:Draws prog w A i2 f2 n2 P2 St2) (D:ZApart z TI TO i1 i2 f1 f2) {k:Nat} {a b:Value} {Q:Fin→Shared→Prop}
 (hz:IsZip s.heap z TI TO .none) (hTI:IsPair s.heap TI (.ref i1) (.ref i2)) (hTO:IsPair s.heap TO a b) (s1:St1 k s.heap) (s2:St2 k s.heap) (hk:k=n1∨(k<n1∧k=n2))
 (hE:∀h' e tk,(∀c o,c≠z→c≠TO→c≠i1→c≠i2→s.heap.get? c=some o→h'.get? c=some o)→(∃o,h'.get? e=some o∧o.cls= .type "StopIteration")→E (.ref e) {s with heap:=h',toks:=tk}):
 wpAny (model prog w) A (Builtin.«zip.__next__» ⟨[.ref z],[]⟩) Q E s:=by
 show wpAny _ _ (field (.ref z) 2>>=_) _ _ _
 refine wpAny_bind (wpAny_field hz rfl (x:= .bool false) rfl ?_)
 show wpAny _ _ (field (.ref z) 3>>=_) _ _ _
 refine wpAny_bind (wpAny_field hz rfl (x:= .ref TI) rfl ?_)
 refine wpAny_bind (wpAny_seqItems hTI rfl ?_)
 show wpAny _ _ (Builtin.SmallTypes.ownedTupleIsFree (.ref z)>>=_) _ _ _
 refine wpAny_bind ?_
 unfold Builtin.SmallTypes.ownedTupleIsFree
 refine wpAny_bind (wpAny_field hz rfl (x:= .none) rfl (wpAny_pure ?_))
 simp only[if_true]
 refine wpAny_bind (wpAny_rule ?_)
 refine wpAny_bind (wpAny_field hz rfl (x:= .ref TO) rfl ?_)
 refine wpAny_bind (wpAny_setField_rec hz (by simp) λh₁ hz₁ hs₁=>?_)
 replace hz₁:IsZip h₁ z TI TO .ellipsis:=hz₁
 replace hs₁:Heap.SameBut z s.heap h₁:=hs₁
 refine wpAny_bind ?_
 simp only[List.zipIdx_cons,List.zipIdx_nil,List.forIn_cons,List.forIn_nil]
 refine wpAny_bind (wpAny_bind (wpAny_onRaise ?_))
 show wpAny _ _ (Builtin.SmallTypes.nextOf (.ref i1)>>=_) _ _ _
 rcases hk with rfl | ⟨l1,rfl⟩
 · refine wpAny_bind (D1.done _ _ _ (Draws.same D1 hs₁ D.zf1 s1) λh₂ e hs₂ he=>?_)
   refine cF λGG gg=>?_
   obtain⟨oe,hoe,hce⟩:=he
   refine gg ?_
   have hz₂:IsZip h₂ z TI TO .ellipsis:=hs₂ _ _ D.i1z.symm hz₁
   have hez:e≠z:=λx=>by subst x;rw[hz₂]at hoe;cases hoe;simp at hce
   refine wpAny_setField_rec hz₂ (by simp) λh₃ _ hs₃=>hE h₃ e s.toks (λc o c1 _ c3 _ x=>hs₃.extBut _ _ c1 (hs₂ _ _ c3 (hs₁.extBut _ _ c1 x))) ⟨oe,hs₃.extBut _ _ hez hoe,hce⟩
 · refine wpAny_bind (D1.item k _ _ _ l1 (Draws.same D1 hs₁ D.zf1 s1) λx h₂ t₂ p1 s1₂ hs₂=>wpAny_pure ?_)
   have hTO₂:IsPair h₂ TO a b:=hs₂.extBut _ _ D.Oi1 (hs₁.extBut _ _ D.TOz hTO)
   refine wpAny_bind (wpAny_seqItems hTO₂ rfl ?_)
   refine wpAny_bind (wpAny_updateSeq_pair hTO₂ λh₃ hTO₃ hs₃=>?_)
   replace hs₃:Heap.SameBut TO h₂ h₃:=hs₃
   replace hs₂:Heap.SameBut i1 h₁ h₂:=hs₂
   refine wpAny_bind (wpAny_letGo (wpAny_pure ?_))
   refine wpAny_bind (wpAny_bind (wpAny_onRaise ?_))
   show wpAny _ _ (Builtin.SmallTypes.nextOf (.ref i2)>>=_) _ _ _
   refine wpAny_bind (D2.done _ _ _ (Draws.same D2 hs₃ D.Of2 (Draws.same D2 hs₂ D.i12 (Draws.same D2 hs₁ D.zf2 s2))) λh₄ e hs₄ he=>?_)
   refine cF λGG gg=>?_
   obtain⟨oe,hoe,hce⟩:=he
   refine gg ?_
   have hz₄:IsZip h₄ z TI TO .ellipsis:=hs₄ _ _ D.i2z.symm (hs₃.extBut _ _ D.TOz.symm (hs₂.extBut _ _ D.i1z.symm hz₁))
   have hez:e≠z:=λx=>by subst x;rw[hz₄]at hoe;cases hoe;simp at hce
   refine wpAny_setField_rec hz₄ (by simp) λh₅ _ hs₅=>hE h₅ e t₂ (λc o c1 c2 c3 c4 x=>hs₅.extBut _ _ c1 (hs₄ _ _ c4 (hs₃.extBut _ _ c2 (hs₂.extBut _ _ c3 (hs₁.extBut _ _ c1 x))))) ⟨oe,hs₅.extBut _ _ hez hoe,hce⟩
theorem sY (hA:A.handled=none) (D1:∀A':Around,A'.handled=none→Draws prog w A' i1 f1 n1 P1 St1) (D2:∀A':Around,A'.handled=none→Draws prog w A' i2 f2 n2 P2 St2) (D:ZApart z TI TO i1 i2 f1 f2):
 WalksU prog w A z (z::TI::TO::(f1++f2)) [z,TO,i1,i2] (min n1 n2) (λi vals=>∃x y,P1 i x∧P2 i y∧vals= #[x,y])
  (λi h=>IsZip h z TI TO .none∧IsPair h TI (.ref i1) (.ref i2)∧(∃a b,IsPair h TO a b)∧St1 i h∧St2 i h)
  (λi T h=>IsZip h z TI TO (rawInt T)∧IsPair h TI (.ref i1) (.ref i2)∧(∃a b,IsPair h TO a b)∧St1 (i+1) h∧St2 (i+1) h∧T≠z∧T≠TO∧T≠i1∧T≠i2) where
 sub:=λc hc=>by
  have m1:=D.m1
  have m2:=D.m2
  simp at hc ⊢
  rcases hc with rfl | rfl | rfl | rfl<;>simp[m1,m2]
 frame:=λi h h' st hk=>by
  refine cF λGG gg=>?_
  obtain⟨hz,hTI,⟨a,b,hTO⟩,s1,s2⟩:=st
  refine gg ?_
  exact⟨hk z (by simp) _ hz,hk TI (by simp) _ hTI,⟨a,b,hk TO (by simp) _ hTO⟩,(D1 A hA).frame _ _ _ s1 λc hc o e=>hk c (by simp[hc]) o e,(D2 A hA).frame _ _ _ s2 λc hc o e=>hk c (by simp[hc]) o e⟩
 item:=λi s Q E hi st hQ=>by
  refine cF λGG gg=>?_
  obtain⟨hz,hTI,⟨a,b,hTO⟩,s1,s2⟩:=st
  refine gg ?_
  have hT:s.TypeIs (.ref z) "zip":=⟨_,hz,rfl⟩
  have lt:∀{c o},s.heap.get? c=some o→s.heap.objs.size≠c:=λe=>Nat.ne_of_gt (Heap.lt_size e)
  refine cF λGG gg=>?_
  obtain⟨o1,e1⟩:=(D1 A hA).live _ _ s1
  obtain⟨o2,e2⟩:=(D2 A hA).live _ _ s2
  refine gg ?_
  unfold pyNext
  refine wpAny_bind (wpAny_attempt (wpAny_callSpecial?_slot (name:=Str.ofString "__next__") hT F.slot_zip_next
   (wpAny_call_entry F.slot_zip_next hT F.entry_zip_next
     (wI (A:=A.in1) (D1 A.in1 hA) (D2 A.in1 hA) D hz hTI hTO s1 s2 (Nat.lt_of_lt_of_le hi (Nat.min_le_left ..)) (Nat.lt_of_lt_of_le hi (Nat.min_le_right ..)) λh' tk x y p1 p2 a1 a2 a3 a4 a5 hk=>wpAny_pure ?_) (F.args_zip_next_1 _))))
  exact hQ s.heap.objs.size #[x,y] h' tk ⟨x,y,p1,p2,rfl⟩ ⟨_,a5,rfl,_,rfl⟩ ⟨a1,hk _ _ D.TIz D.TITO D.TIi1 D.TIi2 hTI,⟨_,_,a2⟩,a3,a4,lt hz,lt hTO,lt e1,lt e2⟩
   λc o hc e=>hk c o (λx=>hc (by simp[x])) (λx=>hc (by simp[x])) (λx=>hc (by simp[x])) (λx=>hc (by simp[x])) e
 go:=λelts k pos i T s Q E hm hQ=>by
  refine cF λGG gg=>?_
  obtain⟨hz,hTI,⟨a,b,hTO⟩,s1,s2,_⟩:=hm
  refine gg ?_
  refine wpAny_letOwnedTupleGo_zip hz λh' hz' hs'=>hQ h' ⟨hz',hs'.extBut _ _ D.TIz hTI,⟨a,b,hs'.extBut _ _ D.TOz hTO⟩,Draws.same (D1 A hA) hs' D.zf1 s1,Draws.same (D2 A hA) hs' D.zf2 s2⟩ λc o hc e=>hs'.extBut _ _ (λx=>hc (by simp[x])) e
 apart:=λi T h hm hT=>by
  refine cF λGG gg=>?_
  obtain⟨_,_,_,_,_,t1,t2,t3,t4⟩:=hm
  refine gg ?_
  simp at hT
  rcases hT with rfl | rfl | rfl | rfl
  · exact t1 rfl
  · exact t2 rfl
  · exact t3 rfl
  · exact t4 rfl
 done:=λs Q E st hQ=>by
  refine cF λGG gg=>?_
  obtain⟨hz,hTI,⟨a,b,hTO⟩,s1,s2⟩:=st
  refine gg ?_
  have hT:s.TypeIs (.ref z) "zip":=⟨_,hz,rfl⟩
  have hend:min n1 n2=n1∨(min n1 n2<n1∧min n1 n2=n2):=by lia
  unfold pyNext
  refine wpAny_bind (wpAny_attempt (wpAny_callSpecial?_slot (name:=Str.ofString "__next__") hT F.slot_zip_next
   (wpAny_call_entry F.slot_zip_next hT F.entry_zip_next (x9 (A:=A.in1) (D1 A.in1 hA) (D2 A.in1 hA) D hz hTI hTO s1 s2 hend λh' e tk hk he=>?_) (F.args_zip_next_1 _))))
  refine cF λGG gg=>?_
  obtain⟨o,ho,hc⟩:=he
  refine gg ?_
  refine wpAny_bind (wpAny_isInstance (T:="StopIteration") (b:=true) ⟨o,ho,hc⟩ isSubtype_stop ?_)
  exact wpAny_pure (hQ h' tk λc o hc e=>hk c o (λx=>hc (by simp[x])) (λx=>hc (by simp[x])) (λx=>hc (by simp[x])) (λx=>hc (by simp[x])) e)
 self:=λi s Q E st hQ=>wpAny_pyIter_zip st.1 hQ
theorem mA (l1 l2:Addr) (xs ys:Array Value):
 Meets (Builtin.«zip.__new__» ⟨[.type "zip",.ref l1,.ref l2],[]⟩) (λ_ R s=>s.heap.IsList l1 xs∧s.heap.IsTuple l2 ys∧
  R (.ok (.ret (.ref (((((s.heap.push {cls:= .type "list_iterator",data:= .fields #[.ref l1,.int 0 0]}).push {cls:= .type "tuple_iterator",data:= .fields #[.ref l2,.int 0 0]}).push {cls:= .type "tuple",data:= .seq #[.ref s.heap.objs.size,.ref (s.heap.push {cls:= .type "list_iterator",data:= .fields #[.ref l1,.int 0 0]}).objs.size]}).push {cls:= .type "tuple",data:= .seq #[.none,.none]}).objs.size))))
    {s with heap:=(((((s.heap.push {cls:= .type "list_iterator",data:= .fields #[.ref l1,.int 0 0]}).push {cls:= .type "tuple_iterator",data:= .fields #[.ref l2,.int 0 0]}).push {cls:= .type "tuple",data:= .seq #[.ref s.heap.objs.size,.ref (s.heap.push {cls:= .type "list_iterator",data:= .fields #[.ref l1,.int 0 0]}).objs.size]}).push {cls:= .type "tuple",data:= .seq #[.none,.none]}).push
     {cls:= .type "zip",data:= .fields #[.none,.bool false,.bool false,.ref ((s.heap.push {cls:= .type "list_iterator",data:= .fields #[.ref l1,.int 0 0]}).push {cls:= .type "tuple_iterator",data:= .fields #[.ref l2,.int 0 0]}).objs.size,.ref (((s.heap.push {cls:= .type "list_iterator",data:= .fields #[.ref l1,.int 0 0]}).push {cls:= .type "tuple_iterator",data:= .fields #[.ref l2,.int 0 0]}).push {cls:= .type "tuple",data:= .seq #[.ref s.heap.objs.size,.ref (s.heap.push {cls:= .type "list_iterator",data:= .fields #[.ref l1,.int 0 0]}).objs.size]}).objs.size]})}):=
 .of_wp λprog w A R s h=>by
   refine cF λGG gg=>?_
   obtain⟨hp,g,d,tk,os⟩:=s;obtain⟨hl1,hl2,h⟩:=h
   refine gg ?_
   have hsub:=sub_zip
   have hL1:Heap.IsList (Shared.heap ⟨hp,g,d,tk,os⟩) l1 xs:=hl1
   have hL2:Heap.IsTuple (Shared.heap ⟨hp.push {cls:= .type "list_iterator",data:= .fields #[.ref l1,.int 0 0]},g,d,tk,os⟩) l2 ys:=Heap.IsTuple.push hl2 _
   wp_walk using wpAny_pyIter_list hL1,wpAny_pyIter_tuple hL2
   exact⟨_,rfl,h⟩
theorem push5 {h:Heap} (a b c d e:Obj) (fa:a.isFreed=false) (fb:b.isFreed=false) (fc:c.isFreed=false) (fd:d.isFreed=false) (fe:e.isFreed=false):
 let H:=((((h.push a).push b).push c).push d).push e
 H.get? h.objs.size=some a∧H.get? (h.objs.size+1)=some b∧H.get? (h.objs.size+2)=some c∧H.get? (h.objs.size+3)=some d∧H.get? (h.objs.size+4)=some e∧∀x o,h.get? x=some o→H.get? x=some o:=by
 intro H
 have s1:(h.push a).objs.size=h.objs.size+1:=Heap.size_push ..
 have s2:((h.push a).push b).objs.size=h.objs.size+2:=by rw[Heap.size_push,s1]
 have s3:(((h.push a).push b).push c).objs.size=h.objs.size+3:=by rw[Heap.size_push,s2]
 have s4:((((h.push a).push b).push c).push d).objs.size=h.objs.size+4:=by rw[Heap.size_push,s3]
 refine⟨?_,?_,?_,?_,?_,λx o q=>Heap.get?_push_of_some _ (Heap.get?_push_of_some _ (Heap.get?_push_of_some _ (Heap.get?_push_of_some _ (Heap.get?_push_of_some _ q))))⟩
 · exact Heap.get?_push_of_some _ (Heap.get?_push_of_some _ (Heap.get?_push_of_some _ (Heap.get?_push_of_some _ (Heap.get?_push_size _ fa))))
 · rw[←s1];exact Heap.get?_push_of_some _ (Heap.get?_push_of_some _ (Heap.get?_push_of_some _ (Heap.get?_push_size _ fb)))
 · rw[←s2];exact Heap.get?_push_of_some _ (Heap.get?_push_of_some _ (Heap.get?_push_size _ fc))
 · rw[←s3];exact Heap.get?_push_of_some _ (Heap.get?_push_size _ fd)
 · rw[←s4];exact Heap.get?_push_size _ fe
theorem sL {l1 l2:Addr} {xs ys:Array Value} {Q:Value→Shared→Prop} (hl1:s.heap.IsList l1 xs) (hl2:s.heap.IsTuple l2 ys)
 (h:∀h',IsZip h' (s.heap.objs.size+4) (s.heap.objs.size+2) (s.heap.objs.size+3) .none→IsPair h' (s.heap.objs.size+2) (.ref s.heap.objs.size) (.ref (s.heap.objs.size+1))→
   IsPair h' (s.heap.objs.size+3) .none .none→h'.IsListIter s.heap.objs.size l1 0→h'.IsTupleIter (s.heap.objs.size+1) l2 0→
   (∀c o,s.heap.get? c=some o→h'.get? c=some o)→Q (.ref (s.heap.objs.size+4)) {s with heap:=h'}):
 wpAny (model prog w) A (PySem.call (.type "zip") [.ref l1,.ref l2]) Q E s:=by
 refine callType_new F.called_zip (by decide) (F.typeCall_zip_2 _ _) (F.newCall_zip_2 _ _) (λobj=>F.args_object_init_3 obj _ _) F.entry_zip_new
  (mA l1 l2 xs ys) ⟨hl1,hl2,?_⟩
 obtain⟨g0,g1,g2,g3,g4,gk⟩:=push5 (h:=s.heap) {cls:= .type "list_iterator",data:= .fields #[.ref l1,.int 0 0]} {cls:= .type "tuple_iterator",data:= .fields #[.ref l2,.int 0 0]}
  {cls:= .type "tuple",data:= .seq #[.ref s.heap.objs.size,.ref (s.heap.objs.size+1)]} {cls:= .type "tuple",data:= .seq #[.none,.none]}
  {cls:= .type "zip",data:= .fields #[.none,.bool false,.bool false,.ref (s.heap.objs.size+2),.ref (s.heap.objs.size+3)]} rfl rfl rfl rfl rfl
 simp only[Heap.size_push]at g0 g1 g2 g3 g4 gk ⊢
 exact⟨⟨_,g4,rfl⟩,h _ g4 g2 g3 ⟨_,g0,rfl,rfl⟩ ⟨_,g1,rfl,rfl⟩ gk⟩
theorem j5 {a b c:Nat} (h1:a≠b) (h2:a≠c):a∉[b,c]:=by simp[h1,h2]
theorem En (Z l1 l2:Nat) (h1:l1<Z) (h2:l2<Z):ZApart (Z+4) (Z+2) (Z+3) Z (Z+1) [Z,l1] [Z+1,l2] where
 zf1:=j5 (by lia) (by lia)
 zf2:=j5 (by lia) (by lia)
 Of1:=j5 (by lia) (by lia)
 Of2:=j5 (by lia) (by lia)
 i12:=j5 (by lia) (by lia)
 i21:=j5 (by lia) (by lia)
 m1:=List.mem_cons_self
 m2:=List.mem_cons_self
 TIz:=Nat.ne_of_lt (by lia)
 TITO:=Nat.ne_of_lt (by lia)
 TIi1:=Nat.ne_of_gt (by lia)
 TIi2:=Nat.ne_of_gt (by lia)
 TOz:=Nat.ne_of_lt (by lia)
end
end Mine
end
section
open PySem PySem.W PySem.Calls PyProof.Rows
namespace Mine
noncomputable def sV (c:Cx) (g:Gh) (h:Heap) (it:It) (v:Value):Prop:=match it with
 | .one a=>ay c g a v
 | .two a b=>∃T x y,v= .ref T∧h.IsTuple T #[x,y]∧ay c g a x∧ay c g b y
structure RunsF (c:Cx) (h₀:Heap) (g:Gh) (h:Heap) (t:Expr) (I:Addr) (its:List It) (fp wr:List Addr) (P Md:Nat→Value→Heap→Prop) (St:Nat→Heap→Prop):Prop where
 walks:∀A:Around,A.handled=none→KTurns c.prog c.w A t I fp wr its.length P Md St
 st:St 0 h
 wrOk:∀b∈wr,¬aS h₀ b∧g.tag b=none
 fpOk:∀b∈fp,Still true (g.tag b)
 item:∀i v h',P i v h'→∃it,its[i]? =some it∧sV c g h' it v
 live:∀i h,St i h→∀b∈fp,aS h b
inductive Rnf (c:Cx) (h₀:Heap) (t:Expr) (its:List It) (g:Gh) (h:Heap):Value→Prop where
 | mk {I fp wr P Md St} (r:RunsF c h₀ g h t I its fp wr P Md St):Rnf c h₀ t its g h (.ref I)
noncomputable abbrev o5 (c:Cx) (env:Env) (loc:Loc) (t:Expr) (g:Gh) (h:Heap) (led':Led) (its:List It):Value→Shared→Prop:=Pst c env loc false g h led' (Rnf c h t its)
structure ForR (c:Cx) (n:Nat) (sc:Scope) (loc:Loc) (t e:Expr) (led:Led) (its:List It) (l1:Led):Prop where
 run:∀{env A g s},At c n sc loc led env A g s→wp c A (eval e env) (λx s₁=>wa c A (pyIter x) (o5 c env loc t g s.heap l1 its) s₁) s
 pl:bK e≠0
noncomputable def bA (c:Cx) (n:Nat) (sc:Scope) (t:Expr) (body:List Stmt) (i:It) (loc:Loc) (led:Led) (f:Fl) (l1:Loc) (led1:Led):Prop:=
 ∀⦃env A g s v⦄,At c n sc loc led env A g s→sV c g s.heap i v→wp c A (assign t env v) (λ_ s₂=>wp c A (PySem.execs body env) (gA c env l1 g s.heap led1 f) s₂) s
noncomputable def bf (c:Cx) (n:Nat) (sc:Scope) (t:Expr) (body:List Stmt):List It→Loc→Led→Fl→Loc→Led→Prop
 | [],loc,led,f,l1,led1=>f= .next∧SubL l1 loc∧led1=led
 | i::is,loc,led,f,l1,led1=>∃f' l' led',bA c n sc t body i loc led f' l' led'∧match f' with
   | .ret a=>f= .ret a∧SubL l1 l'∧led1=led'
   | .next=>bf c n sc t body is l' led' f l1 led1
   | .cont=>bf c n sc t body is l' led' f l1 led1
structure WayF (h₀:Heap) (g:Gh) (h:Heap) (fp wr:List Addr) (St:Nat→Heap→Prop) (i:Nat):Prop where
 st:St i h
 wrOk:∀b∈wr,¬aS h₀ b∧g.tag b=none
 fpOk:∀b∈fp,Still true (g.tag b)
 live:∀i h,St i h→∀b∈fp,aS h b
section
variable {c:Cx} {n m:Nat} {sc sc0:Scope} {env env':Env} {loc l1 l2:Loc} {g g' g₀ g₁:Gh} {led led' led₁ led₂ led₃:Led} {s s':Shared} {h h' h₀ h₁:Heap} {A:Around} {d y z:D} {v vo vk vz:Value} {x k:Str} {pos p0 px:Pos} {a b p q:AV} {as:List AV} {i j:Nat} {e el er o t:Expr} {vs:List Value} {ts es:List Expr} {I:Addr} {fp wr:List Addr} {P Md:Nat→Value→Heap→Prop} {St:Nat→Heap→Prop} {its:List It} {body:List Stmt} {fl f:Fl} {it:It}
theorem SubL.trans {l1 l2 l3:Loc} (h:SubL l1 l2) (k:SubL l2 l3):SubL l1 l3:=λx a e=>k x a (h x a e)
theorem gA.wk {fl:Flow} (H:SubL l1 l2) (p:gA c env l2 g h led' f fl s'):gA c env l1 g h led' f fl s':=by
 cases p with
 | mk g₁ N X r=>exact⟨g₁,N.wk H,X,r⟩
theorem bA.wk (H:SubL l1 loc) (h:bA c n sc t body it l1 led f l2 led'):bA c n sc t body it loc led f l2 led':=λ_ _ _ _ _ M r=>h (M.wk H) r
theorem bf.wk (H:SubL l1 loc) (h:bf c n sc t body its l1 led f l2 led'):bf c n sc t body its loc led f l2 led':=by
 cases its with
 | nil=>exact⟨h.1,SubL.trans h.2.1 H,h.2.2⟩
 | cons i is=>exact Exists.elim h λf' h=>h.elim λl' h=>h.elim λld h=>⟨f',l',ld,bA.wk H h.1,h.2⟩
theorem WayF.ext {b:Bool} (Y:WayF h₀ g h fp wr St i) (V:KTurns c.prog c.w A t I fp wr n P Md St) (x:Ext b g h g' h'):WayF h₀ g' h' fp wr St i:=
 have T:∀c∈fp,g'.tag c=g.tag c:=λd hd=>x.tag d (Y.live i h Y.st d hd) (bM (Y.fpOk d hd))
 have S:∀{t:Option Tag},Still true t→Still b t:=λ{t} s=>by
  cases b with
  | true=>exact s
  | false=>exact k5 s
 ⟨V.frame i h h' Y.st λd hd o e=>x.old d o e (S (Y.fpOk d hd)),λd hd=>⟨(Y.wrOk d hd).1,(T d (V.sub d hd)).trans (Y.wrOk d hd).2⟩,λd hd=>(T d hd).symm▸Y.fpOk d hd,Y.live⟩
theorem sV.lift {H:Heap} (x:∀a v,ay c g a v→ay c g' a v) (r:sV c g H it v):sV c g' H it v:=by
 cases it with
 | one a=>exact x _ _ r
 | two a b=>exact r.imp λT r=>r.imp λu r=>r.imp λy r=>⟨r.1,r.2.1,x _ _ r.2.2.1,x _ _ r.2.2.2⟩
noncomputable def FI (c:Cx) (n:Nat) (sc:Scope) (t:Expr) (body:List Stmt) (env:Env) (A:Around) (g₀ g:Gh) (h₀ h₁:Heap) (its:List It) (fp wr:List Addr) (St:Nat→Heap→Prop) (f:Fl) (l1:Loc) (led1:Led) (k:Nat) (s:Shared):Prop:=
 ∃pre rest loc led g₁,its=pre++rest∧At c n sc loc led env A g₁ s∧Ext true g₀ h₀ g₁ s.heap∧(∀a v,ay c g a v→ay c g₁ a v)∧WayF h₁ g₁ s.heap fp wr St pre.length∧bf c n sc t body rest loc led f l1 led1∧k=rest.length
theorem An {R:Result→Shared→Prop} (r:RunsF c h₁ g s.heap t I its fp wr P Md St) (M:At c n sc loc led env A g s) (X:Ext true g₀ h₀ g s.heap) (lv:∀b,aS h₀ b→aS h₁ b) (e0:bf c n sc t body its loc led f l1 led₁) (hR:∀fl s',gA c env l1 g₀ h₀ led₁ f fl s'→R (.ok fl) s'):cd c A (.forLoop t (.ref I) body [] env) R s:=by
 have V:=r.walks A M.a.hd
 refine cfor (FI c n sc t body env A g₀ g h₀ h₁ its fp wr St f l1 led₁) ?_ its.length ⟨[],its,loc,led,g,rfl,M,X,λ_ _ r=>r,⟨r.st,r.wrOk,r.fpOk,r.live⟩,e0,rfl⟩
 intro k s h
 refine cF λGG gg=>?_
 obtain⟨pre,rest,loc,led,g₁,ha,M,X,Z,Y,e,hk⟩:=h
 refine gg ?_
 cases rest with
 | nil=>exact V.done s _ _ (by rw[ha,List.append_nil];exact Y.st) λh₂ tk hk=>hR .next _ ⟨g₁,e.2.2▸(M.n.updW hk λb hb=>(Y.wrOk b hb).2).wk e.2.1,X.updW hk λb hb l=>(Y.wrOk b hb).1 (lv b l),e.1▸rfl⟩
 | cons i is=>
   refine cF λGG gg=>?_
   obtain⟨f',l',ld,T,hm⟩:=e
   refine gg ?_
   have lt:pre.length<its.length:=by rw[ha,List.length_append];exact Nat.lt_add_of_pos_right (Nat.succ_pos _)
   refine V.item pre.length s _ _ lt Y.st λv h₂ tk hv hk₂=>V.go pre.length v _ _ _ hv λh₃ hP st₃ hk₃=>?_
   have hk':∀b o,b∉wr→s.heap.get? b=some o→h₃.get? b=some o:=λb o hb e=>hk₃ b o hb (hk₂ b o hb e)
   have M₃:=M.to (M.n.updW (t:=tk) hk' λb hb=>(Y.wrOk b hb).2)
   have X₃:Ext true g₀ h₀ g₁ h₃:=X.updW hk' λb hb l=>(Y.wrOk b hb).1 (lv b l)
   have r₃:sV c g₁ h₃ i v:=(r.item _ v h₃ hP).elim λi' z=>by rw[ha,Ba]at z;exact Option.some.inj z.1▸sV.lift Z z.2
   refine bc (T M₃ r₃) λ_ s₄ h₄=>bc h₄ λfl s₅ p=>?_
   cases p with
   | mk g₅ N₅ X₅ rf=>
     have fin:bf c n sc t body is l' ld f l1 led₁→∃m,m<k∧FI c n sc t body env A g₀ g h₀ h₁ its fp wr St f l1 led₁ m s₅:=λq=>⟨is.length,hk▸Nat.lt_succ_self _,pre++[i],is,l',ld,g₅,ha.trans wz,M.to N₅,X₃.trans X₅,λa v q=>X₅.repA M₃.n.inv (Z a v q),
      by rw[List.length_append];exact WayF.ext ⟨st₃,Y.wrOk,Y.fpOk,Y.live⟩ V X₅,q,rfl⟩
     cases f' with
     | next=>rw[show fl= .next from rf];exact fin hm
     | cont=>rw[show fl= .cont from rf];exact fin hm
     | ret a=>exact Exists.elim rf λu w=>by
               rw[w.1]
               exact hR _ _ ⟨g₅,hm.2.2▸N₅.wk hm.2.1,X₃.trans X₅,hm.1▸⟨u,rfl,w.2⟩⟩
theorem FZ (h:bf c n sc t body its loc led₁ f l1 led₂) (hf:ForR c n sc loc t e led its led₁):StR c n sc (.For t e body [] pos) loc led f l1 led₂:=λ_ _ _ _ M=>wFor (bc (hf.run M) λx s₁ h₁=>wpAny_mono h₁ (λv s₂ p=>by
 cases p with
 | mk g₂ N₂ X₂ r=>cases r with
   | mk R=>exact An R (M.to N₂) (X₂.weak true) (λ_ l=>l) h λ_ _ p=>p) λ_ _ e=>e) (jJ hf.pl)
theorem F7 (h:ItR c n sc loc e led as led₁):ForR c n sc loc t e led (as.map .one) led₁:=⟨λ{env A g s} M=>bc (h.run M) λx s₁ h₁=>wpAny_mono h₁ (λv s₂ p=>by
 cases p with
 | mk g₂ N₂ X₂ r=>cases r with
   | @mk I fp wr P St R=>exact⟨g₂,N₂,X₂,.mk (P:=λi v _=>P i v) (Md:=λi v h=>P i v∧St (i+1) h) ⟨λA hA=>by
       rw[List.length_map]
       exact KTurns.ofWalks (R.walks A hA) λi v s Q E st q=>(R.plain i _ st).elim λo z=>z.elim λT z=>Aa z.1 z.2.1 z.2.2 q,R.st,R.wrOk,λb hb=>(R.fpOk b hb).2,λi v h' p=>(R.item i v p).elim λa z=>⟨.one a,by rw[List.getElem?_map,z.1];rfl,z.2⟩,R.live⟩⟩) λ_ _ e=>e,h.pl⟩
end
end Mine
end
section
open PySem PySem.W PySem.Calls PyProof.Rows
namespace Mine
section
variable {c:Cx} {n m k n1 n2:Nat} {sc sc0:Scope} {env env':Env} {loc l1 l2:Loc} {g g' g₀ g₁:Gh} {led led' led₁ led₂ led₃ led₄:Led} {s s':Shared} {h h' h₀ h₁:Heap} {A:Around} {v v1 v2:Value} {x:Str} {pos p0 px:Pos} {a b p q r:AV} {as bs:List AV} {i j:Nat} {e el er o t:Expr} {vs ws:List Value} {ts es:List Expr} {I u w:Addr} {fp wr:List Addr} {P1 P2:Nat→Value→Prop} {St1 St2:Nat→Heap→Prop} {its:List It} {bb:Bool}
theorem Src.ext (I:Inv c g led h) (x:Ext bb g h g' h') {b:Bool} (S:Src c g as b v):Src c g' as b v:=by
 cases S with
 | list t hl hi=>exact .list (x.fz I t) hl λi v e=>(hi i v e).imp λa z=>⟨z.1,x.repA I z.2⟩
 | tup t hl hi=>exact .tup (x.fz I t) hl λi v e=>(hi i v e).imp λa z=>⟨z.1,x.repA I z.2⟩
theorem yT (I:Inv c g led h) (r:ay c g a v) (hl:pT a=true) (e:items a led=some (as,led')):∃g',Go c false g h g' led' h∧Src c g' as false v:=by
 cases a with
 | v d=>cases d with
   | tup xs=>exact pE e ⟨g,.refl I,u3 r⟩
   | _=>exact ftE hl
 | r n=>exact ftE hl
theorem lG:∀(as bs:List AV),(gC as bs).length=min as.length bs.length
 | [],_=>(Nat.zero_min _).symm
 | _::_,[]=>(Nat.min_zero _).symm
 | a::as,b::bs=>(congrArg (· +1) (lG as bs)).trans (Nat.succ_min_succ ..).symm
theorem uC:∀{as bs:List AV} {i:Nat} {a b:AV},as[i]? =some a→bs[i]? =some b→(gC as bs)[i]? =some (.two a b)
 | [],_,_,_,_,h,_=>nomatch h
 | _::_,[],_,_,_,_,h=>nomatch h
 | _::_,_::_,0,_,_,h1,h2=>by rw[←Option.some.inj h1,←Option.some.inj h2];rfl
 | _::as,_::bs,i+1,a,b,h1,h2=>uC (as:=as) (bs:=bs) (i:=i) h1 h2
theorem oL:∀(k:Nat) (as:List AV),(gw k as).length=as.length
 | _,[]=>rfl
 | k,_::as=>congrArg (· +1) (oL (k+1) as)
theorem sr:∀{k:Nat} {as:List AV} {i:Nat} {a:AV},as[i]? =some a→(gw k as)[i]? =some (.two (.v (.int ((k+i:Nat):Int))) a)
 | _,[],_,_,h=>nomatch h
 | k,_::_,0,_,h=>by rw[←Option.some.inj h];rfl
 | k,_::as,i+1,a,h=>(sr (k:=k+1) (as:=as) (i:=i) h).trans (by rw[Nat.add_right_comm];rfl)
theorem dX {P:Addr→Prop} {a:Addr} {l:List Addr} (h:P a) (k:∀x∈l,P x):∀x∈a::l,P x:=λx hx=>(List.mem_cons.mp hx).elim (λe=>e▸h) (k x)
theorem x7 {P:Addr→Prop}:∀x∈([]:List Addr),P x:=λ_ z=>nomatch z
theorem D3 (k:Nat):¬aS h (h.objs.size+k):=λl=>absurd l.lt (Nat.not_lt.mpr (Nat.le_add_right ..))
theorem lM (I:Inv c g led h) (k:Nat):¬aS h (h.objs.size+k)∧g.tag (h.objs.size+k)=none:=⟨D3 k,I.untag (D3 k)⟩
theorem ey (I:Inv c g led h) (k:Nat):Still true (g.tag (h.objs.size+k)):=(lM I k).2▸trivial
theorem gI {ob:Obj} (e:g.tag u=some (.fz ob)):Still true (g.tag u):=e▸trivial
theorem mu {Pt:Nat→Array Value→Prop} {St:Nat→Heap→Prop} {Mid:Nat→Addr→Heap→Prop}
 (W:∀A:Around,A.handled=none→WalksU c.prog c.w A I fp wr n Pt St Mid) (hn:its.length=n) (st:St 0 h) (wrOk:∀b∈wr,¬aS h₀ b∧g.tag b=none) (fpOk:∀b∈fp,Still true (g.tag b))
 (item:∀i vals,Pt i vals→∃a b x y,its[i]? =some (.two a b)∧vals= #[x,y]∧ay c g a x∧ay c g b y) (live:∀i h,St i h→∀b∈fp,aS h b):Rnf c h₀ (.Tuple ts k pos) its g h (.ref I):=
 .mk (P:=λi v h=>∃T vals,v= .ref T∧Pt i vals∧h.IsTuple T vals) (Md:=λi v h=>∃T vals,v= .ref T∧Pt i vals∧h.IsTuple T vals∧Mid i T h)
   ⟨λA hA=>by rw[hn];exact KTurns.ofWalksU (W A hA),st,wrOk,fpOk,λi v h' q=>q.elim λT q=>q.elim λvals q=>(item i vals q.2.1).elim λa z=>z.elim λb z=>z.elim λx z=>z.elim λy z=>⟨_,z.1,T,x,y,q.1,z.2.1▸q.2.2,z.2.2⟩,live⟩
theorem uB (hA:A.handled=none) (N:Nice c env loc g led s) (a1:aS s.heap u) (a2:aS s.heap w) (t1:Still true (g.tag u)) (t2:Still true (g.tag w))
 (D1:∀A:Around,A.handled=none→Draws c.prog c.w A s.heap.objs.size [s.heap.objs.size,u] n1 P1 St1) (D2:∀A:Around,A.handled=none→Draws c.prog c.w A (s.heap.objs.size+1) [s.heap.objs.size+1,w] n2 P2 St2)
 (hn:its.length=min n1 n2) (item:∀i x y,P1 i x→P2 i y→∃a b,its[i]? =some (.two a b)∧ay c g a x∧ay c g b y) (st1:St1 0 h') (st2:St2 0 h') (lv1:∀i h,St1 i h→aS h u) (lv2:∀i h,St2 i h→aS h w)
 (hz:IsZip h' (s.heap.objs.size+4) (s.heap.objs.size+2) (s.heap.objs.size+3) .none) (hTI:IsPair h' (s.heap.objs.size+2) (.ref s.heap.objs.size) (.ref (s.heap.objs.size+1))) (hTO:IsPair h' (s.heap.objs.size+3) .none .none) (hk:∀c o,s.heap.get? c=some o→h'.get? c=some o):
 wa c A (pyIter (.ref (s.heap.objs.size+4))) (o5 c env loc (.Tuple ts k pos) g s.heap led its) {s with heap:=h'}:=
 wpAny_pyIter_zip hz ⟨g,N.kept hk,(Go.kept N.inv hk).ext,mu (λA' hA'=>sY hA' D1 D2 (En s.heap.objs.size u w a1.lt a2.lt)) hn ⟨hz,hTI,⟨_,_,hTO⟩,st1,st2⟩
  (dX (lM N.inv 4) (dX (lM N.inv 3) (dX (lM N.inv 0) (dX (lM N.inv 1) x7))))
  (dX (ey N.inv 4) (dX (ey N.inv 2) (dX (ey N.inv 3) (dX (ey N.inv 0) (dX t1 (dX (ey N.inv 1) (dX t2 x7)))))))
  (λi vals z=>z.elim λx z=>z.elim λy z=>(item i x y z.1 z.2.1).elim λa q=>q.elim λb q=>⟨a,b,x,y,q.1,z.2.2,q.2⟩)
  λi h z=>dX ⟨_,z.1⟩ (dX ⟨_,z.2.1⟩ (dX (z.2.2.1.elim λ_ q=>q.elim λ_ q=>⟨_,q⟩) (dX ((D1 A hA).live _ _ z.2.2.2.1) (dX (lv1 _ _ z.2.2.2.1) (dX ((D2 A hA).live _ _ z.2.2.2.2) (dX (lv2 _ _ z.2.2.2.2) x7))))))⟩
theorem oB (h:bG t=true):∃ts k p,t= .Tuple ts k p:=j4 (d4 t) (λz=>by unfold bG at h;rw[z]at h;exact ftE h) λts z=>⟨ts,qQ z⟩
theorem qz (h1:∀(i:Nat) (v:Value),vs[i]? =some v→∃a,as[i]? =some a∧ay c g a v) (h2:∀(i:Nat) (v:Value),ws[i]? =some v→∃a,bs[i]? =some a∧ay c g a v):
 ∀(i:Nat) (x y:Value),vs.toArray[i]? =some x→ws.toArray[i]? =some y→∃a b,(gC as bs)[i]? =some (It.two a b)∧ay c g a x∧ay c g b y:=λi x y e1 e2=>
 (h1 i x ((List.getElem?_toArray ..).symm.trans e1)).elim λa z=>(h2 i y ((List.getElem?_toArray ..).symm.trans e2)).elim λb q=>⟨a,b,uC z.1 q.1,z.2,q.2⟩
theorem x8 (hA:A.handled=none) (ht:bG t=true) (N:Nice c env loc g led s) (S1:Src c g as true v1) (S2:Src c g bs bb v2):
 wa c A (PySem.call (.type "zip") [v1,v2]) (λzv s₁=>wa c A (pyIter zv) (o5 c env loc t g s.heap led (gC as bs)) s₁) s:=(oB ht).elim λts z=>z.elim λk z=>z.elim λpos z=>by
 rw[z]
 cases S1 with
 | @list u vs m1 t1 e1 r1=>
   have a1:=N.inv.fz _ _ t1
   have L1:s.heap.IsList u vs.toArray:=⟨_,a1,rfl,_,rfl⟩
   cases S2 with
   | @list w ws m2 t2 e2 r2=>
     have a2:=N.inv.fz _ _ t2
     have L2:s.heap.IsList w ws.toArray:=⟨_,a2,rfl,_,rfl⟩
     exact call_zip_2 L1 L2 λh' q1 q2 q3 q4 q5 _ hk=>uB hA N ⟨_,a1⟩ ⟨_,a2⟩ (gI t1) (gI t2) (λA' hA'=>Draws.list hA' _ u (Nat.ne_of_lt (Heap.lt_size a1)) _) (λA' hA'=>Draws.list hA' _ w (Nat.ne_of_lt (Nat.lt_succ_of_lt (Heap.lt_size a2))) _)
      (by rw[lG,e1,e2,List.size_toArray,List.size_toArray]) (qz r1 r2) ⟨q4,L1.at λo e=>hk _ o e⟩ ⟨q5,L2.at λo e=>hk _ o e⟩ (λi h st=>st.2.imp λo z=>z.1) (λi h st=>st.2.imp λo z=>z.1) q1 q2 q3 hk
   | @tup w ws m2 t2 e2 r2=>
     have a2:=N.inv.fz _ _ t2
     have L2:s.heap.IsTuple w ws.toArray:=⟨_,a2,rfl,_,rfl⟩
     exact sL L1 L2 λh' q1 q2 q3 q4 q5 hk=>uB hA N ⟨_,a1⟩ ⟨_,a2⟩ (gI t1) (gI t2) (λA' hA'=>Draws.list hA' _ u (Nat.ne_of_lt (Heap.lt_size a1)) _) (λA' hA'=>sy hA' _ w (Nat.ne_of_lt (Nat.lt_succ_of_lt (Heap.lt_size a2))) _)
      (by rw[lG,e1,e2,List.size_toArray,List.size_toArray]) (qz r1 r2) ⟨q4,L1.at λo e=>hk _ o e⟩ ⟨q5,L2.imp λo z=>⟨hk _ o z.1,z.2⟩⟩ (λi h st=>st.2.imp λo z=>z.1) (λi h st=>st.2.imp λo z=>z.1) q1 q2 q3 hk
theorem xN (hA:A.handled=none) (ht:bG t=true) (N:Nice c env loc g led s) (S1:Src c g as true v1):
 wa c A (PySem.call (.type "enumerate") [v1]) (λzv s₁=>wa c A (pyIter zv) (o5 c env loc t g s.heap led (gw 0 as)) s₁) s:=(oB ht).elim λts z=>z.elim λk z=>z.elim λpos z=>by
 rw[z]
 cases S1 with
 | @list u vs m1 t1 e1 r1=>
   have a1:=N.inv.fz _ _ t1
   have L1:s.heap.IsList u vs.toArray:=⟨_,a1,rfl,_,rfl⟩
   have lt:=Heap.lt_size a1
   exact call_enumerate_list L1 λh' q1 q2 _ hk=>wpAny_pyIter_enum q1 ⟨g,N.kept hk,(Go.kept N.inv hk).ext,mu (λA' hA'=>(WalksT.enumerate hA' (s.heap.objs.size+1) s.heap.objs.size u (Nat.succ_ne_self _) (Nat.ne_of_lt (Nat.lt_succ_of_lt lt)) (Nat.ne_of_lt lt) vs.toArray).toU) (by rw[oL,e1,List.size_toArray]) ⟨⟨_,q1⟩,q2,L1.at λo e=>hk _ o e⟩
    (dX (lM N.inv 1) (dX (lM N.inv 0) x7)) (dX (ey N.inv 1) (dX (ey N.inv 0) (dX (gI t1) x7)))
    (λi vals z=>z.elim λtk z=>z.elim λx z=>(r1 i x ((List.getElem?_toArray ..).symm.trans z.1)).elim λa q=>⟨_,a,_,x,sr q.1,z.2,⟨tk,by simp⟩,q.2⟩)
    λi h z=>dX (z.1.elim λ_ q=>⟨_,q⟩) (dX (z.2.1.imp λo q=>q.1) (dX (z.2.2.imp λo q=>q.1) x7))⟩
theorem kH (X:Ext false g h g₁ h₁) (p:o5 c env loc t g₁ h₁ led' its v s'):o5 c env loc t g h led' its v s':=by
 cases p with
 | mk g₂ N Y r=>cases r with | mk R=>exact⟨g₂,N,X.trans Y,.mk ⟨R.walks,R.st,λb hb=>⟨λl=>(R.wrOk b hb).1 (X.live b l),(R.wrOk b hb).2⟩,R.fpOk,R.item,R.live⟩⟩
theorem C2 (h4:items r led₃=some (bs,led₄)) (hl2:(dh led₃ r || pT r)=true) (hb:Ex c n sc loc er led₂ r led₃) (h2:items p led₁=some (as,led₂)) (hl:dh led₁ p=true) (ha:Ex c n sc loc el led p led₁) (hc:(eqS x "zip"&&cv sc loc x&&bG t)=true):
 ForR c n sc loc t (.Call (.Name x px) [el,er] [] pos) led (gC as bs) led₄:=⟨λ{env A g s} M=>aE hc λhc ht=>aE hc λhx htop=>weq (arm_eval_Call_Name' ..) (ah (au (ky (k:= .zip) M htop (aG.mp hx▸by kernel_rfl) (gZ (eh .zip) (R:=λg vs=>∃v1 v2 bb,vs=[v1,v2]∧Src c g as true v1∧Src c g bs bb v2)
 (gX (R:=λg vs=>∃v2 bb,vs=[v2]∧Src c g bs bb v2) (gX (R:=λg vs=>vs=[]) (fY λ_=>rfl) hb λ{env g s v} N r=>(Bool.or_eq_true_iff.mp hl2).elim
   (λq=>(src_list N.inv r q h4).imp λg' z=>⟨z.1,λ{g₂ h'} X vs e=>⟨v,true,by rw[show vs=[] from e],z.2.ext z.1.inv X⟩⟩) λq=>(yT N.inv r q h4).imp λg' z=>⟨z.1,λ{g₂ h'} X vs e=>⟨v,false,by rw[show vs=[] from e],z.2.ext z.1.inv X⟩⟩)
   ha λ{env g s v} N r=>(src_list N.inv r hl h2).imp λg' z=>⟨z.1,λ{g₂ h'} X vs e=>Exists.elim e λv2 e=>e.elim λbb e=>⟨v,v2,bb,by rw[e.1],z.2.ext z.1.inv X,e.2⟩⟩) M
 λ{vs g₁ s₁} M₁ X₁ e=>Exists.elim e λv1 e=>e.elim λv2 e=>e.elim λbb e=>e.1▸au (wpAny_mono (x8 M₁.a.hd ht M₁.n e.2.1 e.2.2) (λ_ _ q=>wpAny_mono q (λ_ _=>kH X₁) λ_ _ e=>e) λ_ _ e=>e))))),λz=>nomatch z⟩
theorem Ao (h2:items p led₁=some (as,led₂)) (hl:dh led₁ p=true) (ha:Ex c n sc loc el led p led₁) (hc:(cv sc loc x&&bG t)=true) (hx:eqS x "enumerate"=true):
 ForR c n sc loc t (.Call (.Name x px) [el] [] pos) led (gw 0 as) led₂:=⟨λ{env A g s} M=>aE hc λhtop ht=>weq (arm_eval_Call_Name' ..) (ah (au (ky (k:= .enumerate) M htop (aG.mp hx▸by kernel_rfl) (gZ (eh .enumerate) (R:=λg vs=>∃v1,vs=[v1]∧Src c g as true v1)
 (gX (R:=λg vs=>vs=[]) (fY λ_=>rfl) ha λ{env g s v} N r=>(src_list N.inv r hl h2).imp λg' z=>⟨z.1,λ{g₂ h'} X vs e=>⟨v,by rw[show vs=[] from e],z.2.ext z.1.inv X⟩⟩) M
 λ{vs g₁ s₁} M₁ X₁ e=>Exists.elim e λv1 e=>e.1▸au (wpAny_mono (xN M₁.a.hd ht M₁.n e.2) (λ_ _ q=>wpAny_mono q (λ_ _=>kH X₁) λ_ _ e=>e) λ_ _ e=>e))))),λz=>nomatch z⟩
end
end Mine
end
section
open PySem PySem.W PySem.Calls PyProof.Rows
namespace Mine
noncomputable def SsR (c:Cx) (n:Nat) (sc:Scope) (l:List Stmt) (loc:Loc) (led:Led) (fl:Fl) (l1:Loc) (led1:Led):Prop:=
 ∀{env A g s},At c n sc loc led env A g s→wp c A (PySem.execs l env) (gA c env l1 g s.heap led1 fl) s
noncomputable def sW (c:Cx) (n:Nat) (sc:Scope) (t:Expr) (i:It) (loc:Loc) (led:Led) (l1:Loc) (led1:Led):Prop:=
 ∀{env A g s v},At c n sc loc led env A g s→sV c g s.heap i v→wp c A (assign t env v) (eM c env l1 g s.heap led1) s
section
variable {c:Cx} {n m k:Nat} {sc sc0:Scope} {env env':Env} {loc l1 l2 l3:Loc} {g g' g₀ g₁:Gh} {led led' led₁ led₂ led₃ led₄:Led} {s s':Shared} {h h' h₀ h₁:Heap} {A:Around} {d:D} {v v1 v2:Value} {x:Str} {pos p0 px:Pos} {a b p q r:AV} {as bs:List AV} {i j:Nat} {e el er o t:Expr} {vs ws:List Value} {ts es:List Expr} {it:It} {body:List Stmt} {fl f:Fl} {st:Stmt} {l:List Stmt} {lo:LO}
theorem A6 (h:StoR c n sc t a loc led l1 led₁):sW c n sc t (.one a) loc led l1 led₁:=λM r=>h.run M r
theorem A4 (h:StosR c n sc ts [a,b] loc led l1 led₁):sW c n sc (.Tuple ts k pos) (.two a b) loc led l1 led₁:=λ{env A g s v} M r=>Exists.elim r λT r=>r.elim λx r=>r.elim λy r=>r.1▸jZ (vs:=[x,y]) h M r.2.1 ⟨r.2.2.1,r.2.2.2,rfl⟩
theorem uV (hb:SsR c n sc body l1 led₁ f l2 led₂) (h:sW c n sc t it loc led l1 led₁):bA c n sc t body it loc led f l2 led₂:=λ_ _ _ _ _ M r=>wgo M (h M r) λ_ s₁ g₁ M₁ X₁ _=>bc (hb M₁) λ_ _=> .trans X₁
theorem EV:SsR c n sc [] loc led .next loc led:=λ{env A g s} M=>uQ ⟨g,M.n,.refl _ _ _,rfl⟩
theorem BH (hr:SsR c n sc l l1 led₁ f l2 led₂) (h:StR c n sc st loc led .next l1 led₁):SsR c n sc (st::l) loc led f l2 led₂:=λM=>tm (wgo M (h M) λfl s₁ g₁ M₁ X₁ r=>by
 rw[show fl= .next from r]
 exact bc (hr M₁) λ_ _=> .trans X₁)
theorem BI (h:StR c n sc st loc led .cont l1 led₁):SsR c n sc (st::l) loc led .cont l1 led₁:=λM=>tm (wgo M (h M) λfl s₁ g₁ M₁ X₁ r=>by
 rw[show fl= .cont from r]
 exact⟨g₁,M₁.n,X₁,rfl⟩)
theorem EU (h:StR c n sc st loc led (.ret a) l1 led₁):SsR c n sc (st::l) loc led (.ret a) l1 led₁:=λM=>tm (wgo M (h M) λfl s₁ g₁ M₁ X₁ r=>Exists.elim r λv w=>by
 rw[w.1]
 exact⟨g₁,M₁.n,X₁,v,rfl,w.2⟩)
noncomputable def ifP (n:Nat) (p1 p:Prop):Prop:=match n with
 | 0=>True
 | 1=>p1
 | _=>p
theorem ifPE {n:Nat} {p1 p:Prop} (h:ifP n p1 p) (h0:n≠0) (h1:n≠1):p:=by
 rcases n with _ | _ | _
 · exact absurd rfl h0
 · exact absurd rfl h1
 · exact h
theorem oi (t:Option Expr):ifP (bK e) (∃a b sc p,e= .ListComp a b sc p) (swapsWith e t n env=pure false):=by
 induction e using Expr.casesOn with
 | ListComp a b sc p=>exact⟨a,b,sc,p,rfl⟩
 | UnaryOp op _ _=>cases op<;>exact rfl
 | Starred _ _=>exact trivial
 | Set _ _ _=>exact trivial
 | SetComp _ _ _ _=>exact trivial
 | DictComp _ _ _ _ _=>exact trivial
 | _=>exact rfl
theorem gH {t:Option Expr} (h:bK e≠0) (h1:bK e≠1):swapsWith e t n env=pure false:=ifPE (oi t) h h1
theorem yG {a:Expr} {b:List Comprehension} {sc:Scope} {p:Pos}:ifT (tgt t) (swapsWith (.ListComp a b sc p) (some t) n env=pure false∨∃x np,t= .Name x np∧swapsWith (.ListComp a b sc p) (some t) n env=pure true):=by
 induction t using Expr.casesOn with
 | Name x np=>exact cE (env.blockKind== .function&&env.kindOf x==some .local&&np.line==p.line&& !(sc.names.any λ(n,k)=>n==x&&(k== .local || k== .cell))) (λq=> .inr ⟨x,np,rfl,congrArg (λb:Bool=>(pure b:Sem Bool)) q⟩) λq=> .inl (congrArg (λb:Bool=>(pure b:Sem Bool)) q)
 | Attribute _ _ _=>exact .inl rfl
 | Subscript _ _ _=>exact .inl rfl
 | Tuple _ _ _=>exact .inl rfl
 | _=>exact trivial
theorem wU (h:bK e≠0) (ht:tgt t=true):swapsWith e (some t) n env=pure false∨(bK e=1∧∃x np,t= .Name x np∧swapsWith e (some t) n env=pure true):=dE (p:=bK e=1)
 (λk=>by
   have q:=oi (e:=e) (n:=n) (env:=env) (some t)
   rw[k]at q
   exact Exists.elim q λa q=>q.elim λb q=>q.elim λsc q=>q.elim λp q=>q▸(FL yG ht).imp_right λz=>⟨rfl,z⟩)
 λk=> .inl (gH h k)
theorem qS:ifT (tgt t&& !(bG t&&bG e)) (swappedStores [t] e env=pure none):=by
 induction t using Expr.casesOn with
 | Tuple _ _ _=>induction e using Expr.casesOn with
   | Tuple _ _ _=>exact trivial
   | _=>exact rfl
 | Name _ _=>exact rfl
 | Attribute _ _ _=>exact rfl
 | Subscript _ _ _=>exact rfl
 | _=>exact trivial
theorem ji (ht:tgt t=true) (h:(bG t&&bG e)=false):swappedStores [t] e env=pure none:=FL qS (by rw[ht,h];rfl)
theorem we (M:At c n sc loc led env A g s) (X:Ext true g₀ h₀ g s.heap):wp c A (pure Flow.next) (gA c env loc g₀ h₀ led .next) s:=aw ⟨g,M.n,X,rfl⟩
theorem BE (hk:bK e=3) (h:Ex c n sc loc e led (.v .none) led₁):StR c n sc (.Expr e pos) loc led .next loc led₁:=λenv A g s M=>by
 have hi:interactive env=false:=by unfold interactive;rw[M.n.ok.kind];rfl
 refine weq (arm_exec_Expr ..) (aA ?_)
 rw[hi,if_neg (by decide),gH (hk▸λz=>nomatch z) (hk▸λz=>nomatch z)]
 refine fL ?_
 rw[if_neg (by decide)]
 refine ah (wgo M (h.gv M) λv s₁ g₁ M₁ X₁ r=>?_)
 rw[show v= .none from r,dropValue_plain (λa z=>by cases z)]
 exact aw ⟨g₁,M₁.n,X₁.weak true,rfl⟩
theorem ES (h:Ex c n sc loc e led a led₁):StR c n sc (.Return (some e) pos) loc led (.ret a) loc led₁:=λenv A g s M=>weq (arm_exec_Return ..) (aA (by
 show wp c A (do return Flow.ret (←eval e env)) _ s
 exact ah (wgo M (h.gv M) λv s₁ g₁ M₁ X₁ r=>aw ⟨g₁,M₁.n,X₁.weak true,v,rfl,r⟩)))
theorem BD:StR c n sc (.Return none pos) loc led (.ret (.v .none)) loc led:=λ{env A g s} M=>weq (arm_exec_Return ..) (aA (aw ⟨g,M.n,.refl _ _ _,.none,rfl,rfl⟩))
theorem BG:StR c n sc (.Continue pos) loc led .cont loc led:=λ{env A g s} M=>weq (arm_exec_Continue ..) (aA (aw ⟨g,M.n,.refl _ _ _,rfl⟩))
theorem DU {bd od:List Stmt} {b:Bool} (ht:b=true→SsR c n sc bd loc led₁ f l2 led₂) (hf:b=false→SsR c n sc od loc led₁ f l2 led₂) (hb:Tv c n sc loc e led b led₁):StR c n sc (.If e bd od pos) loc led f l2 led₂:=λ_ _ _ _ M=>weq (arm_exec_If ..) (aA (ah (wgo M (hb M) λv s₁ g₁ M₁ X₁ r=>by
 rw[r]
 cases b with
 | true=>exact bc (ht rfl M₁) λ_ _=> .trans (X₁.weak true)
 | false=>exact bc (hf rfl M₁) λ_ _=> .trans (X₁.weak true))))
theorem jT (hs:swapsWith e (some t) pos.line env=pure false) (hw:swappedStores [t] e env=pure none) (ht:tgt t=true) (M:At c n sc loc led env A g s) (he:wp c A (eval e env) (bL c env loc g s.heap led₁ a) s) (h:StoR c n sc t a loc led₁ l1 led₂):wp c A (PySem.exec (.Assign [t] e pos) env) (gA c env l1 g s.heap led₂ .next) s:=by
 refine weq (arm_exec_Assign ..) (aA ?_)
 show wp c A (swapsWith e (some t) pos.line env>>=_) _ s
 rw[hs]
 refine fL ?_
 rw[if_neg (by decide)]
 refine ah (wgo M he λv s₁ g₁ M₁ X₁ r=>?_)
 rw[hw]
 refine fL ?_
 rw[km ht]
 show wp c A (assign t env v>>=λ_=>pure Flow.next) _ s₁
 exact ah (wgo M₁ (h.run M₁ r) λ_ s₂ g₂ M₂ X₂ _=>we M₂ ((X₁.weak true).trans X₂))
theorem wW (hne:(bG t&&bG e)=false) (h:StoR c n sc t a loc led₁ l1 led₂) (he:Ex c n sc loc e led a led₁):StR c n sc (.Assign [t] e pos) loc led .next l1 led₂:=λenv A g s M=>(wU he.pl h.sh).elim
 (λhs=>jT hs (ji h.sh hne) h.sh M (he.gv M) h)
 λz=>z.2.elim λx w=>w.elim λnp w=>by
  have u:=h.nm x np w.1
  have hs:=w.2
  rw[w.1]at hs ⊢
  rw[u.2.1,u.2.2]
  exact he.use z.1 loc (λ_ _ e=>e) x np pos u.1 env hs M
theorem yR (hne:(bG t&&bG e)=false) (h:StoR c n sc t (.r led₁.length) loc (led₁++[lo]) l1 led₂) (he:FreR c n sc loc e led lo led₁):StR c n sc (.Assign [t] e pos) loc led .next l1 led₂:=λenv A g s M=>jT (gH (he.pl▸λz=>nomatch z) (he.pl▸λz=>nomatch z)) (ji h.sh hne) h.sh M (he.run M) h
theorem ET {i j:Int} (hb:bX b=some j) (he:Ex c n sc loc e led b led₁) (ha:bX a=some i) (ho:iF sc x=true) (hx:get loc x=some a):StR c n sc (.AugAssign (.Name x px) .Add e pos) loc led .next (set loc x (.v (.int (i+j)))) led₁:=λenv A g s M=>weq (arm_exec_AugAssign ..) (aA ((M.n.loc x a hx).elim λv w=>ah (au (vI M w.1 (ah (aK (wgo M (he.gv M) λu s₁ g₁ M₁ X₁ r=>w7 ha w.2 λt=>w7 hb r λt'=>aA (ah (n9 (au (wpAny_iadd_int (aA (ah (ym (bc (au (jk (a:= .v (.int (i+j))) (M₁.to (M₁.n.toks _)) (show ay c g₁ (.v (.int (i+j))) _ from ⟨_,rfl⟩) ho)) λ_ s₂ p=>by
 cases p with
 | mk g₂ N₂ X₂ _=>exact aw ⟨g₂,N₂,(X₁.weak true).trans X₂,rfl⟩)))))))))))))))
end
end Mine
end
section
open PySem PySem.W PySem.Calls PyProof.Rows
namespace Mine
theorem jM {α:Type} [BEq α]:∀(n:Nat) (l:List α),l.length≤n→l.eraseDups.length≤l.length
 | _,[],_=>by simp
 | 0,_::_,h=>nomatch h
 | n+1,a::l,h=>by
   rw[List.eraseDups_cons]
   have h1:=List.length_filter_le (λb=>!b==a) l
   exact Nat.succ_le_succ (Nat.le_trans (jM n _ (Nat.le_trans h1 (Nat.le_of_succ_le_succ h))) h1)
theorem eF {α:Type} [BEq α] [LawfulBEq α]:∀(l:List α),l.eraseDups.length=l.length→l.Nodup
 | [],_=>List.nodup_nil
 | a::l,h=>by
   rw[List.eraseDups_cons]at h
   have h1:=List.length_filter_le (λb=>!b==a) l
   have h2:=jM _ (l.filter λb=>!b==a) (Nat.le_refl _)
   have h0:=Nat.succ.inj h
   have h3:=Nat.le_antisymm h1 (h0▸h2)
   rw[List.filter_eq_self.mpr (List.length_filter_eq_length_iff.mp h3)]at h0
   refine List.nodup_cons.mpr ⟨λm=>?_,eF l h0⟩
   have:=List.length_filter_eq_length_iff.mp h3 a m
   simp at this
noncomputable abbrev sg (l:List (Str×AV)) (loc:Loc):Loc:=l.foldl (λl p=>set l p.1 p.2) loc
theorem gV:∀(l:List (Str×AV)) (loc:Loc),(l.map (·.1)).Nodup→∀y,(∀a,(y,a)∈l→get (sg l loc) y=some a)∧(y∉l.map (·.1)→get (sg l loc) y=get loc y)
 | [],loc,_,y=>⟨λa h=>(nomatch h),λ_=>rfl⟩
 | p::l,loc,nd,y=>by
   rw[List.map_cons,List.nodup_cons]at nd
   have i:=gV l (set loc p.1 p.2) nd.2 y
   refine⟨λa h=>(List.mem_cons.mp h).elim (λe=>?_) (i.1 a),λh=>?_⟩
   · rw[←e]at nd
     refine(i.2 nd.1).trans ?_
     rw[←e]
     exact fW
   · rw[List.map_cons,List.mem_cons,not_or]at h
     exact(i.2 h.2).trans (iZ λe=>h.1 e.symm)
theorem pZ (l:List (Str×AV)) (loc:Loc) (nd:(l.map (·.1)).Nodup) (y:Str):get (sg l.reverse loc) y=get (sg l loc) y:=by
 have nd':(l.reverse.map (·.1)).Nodup:=by rw[List.map_reverse];exact(List.reverse_perm _).nodup_iff.mpr nd
 refine dE (p:=y∈l.map (·.1)) (λh=>(List.mem_map.mp h).elim λq z=>?_) λh=>((gV _ loc nd' y).2 (by rw[List.map_reverse,List.mem_reverse];exact h)).trans ((gV l loc nd y).2 h).symm
 have m:(y,q.2)∈l:=z.2▸z.1
 exact((gV _ loc nd' y).1 _ (List.mem_reverse.mpr m)).trans ((gV l loc nd y).1 _ m).symm
theorem uA {α β:Type}:∀{l:List α} {m:List β},l.length=m.length→l.reverse.zip m.reverse=(l.zip m).reverse
 | [],[],_=>rfl
 | [],_::_,h=>nomatch h
 | _::_,[],h=>nomatch h
 | a::l,b::m,h=>by
   have h:l.length=m.length:=Nat.succ.inj h
   rw[List.reverse_cons,List.reverse_cons,List.zip_cons_cons,List.reverse_cons,List.zip_append (by simp[h]),uA h]
   rfl
noncomputable def nameAt (env:Env) (line:Nat):Expr→Option Str
 | .Name id pos=>if env.kindOf id==some .local&&pos.line==line then some id else none
 | _=>none
theorem rB {env:Env} {line:Nat} {t:Expr} {x:Str} (h:nameAt env line t=some x):∃pos,t= .Name x pos:=by
 cases t with
 | Name y pos=>exact iE h (λ_ h=>⟨pos,by rw[Option.some.inj h]⟩) λ_ h=>nE h
 | _=>exact nE h
theorem ifE {α:Type} {P:α→Prop} {b:Bool} {x y:α} (h:b=true→P x) (k:b=false→P y):P (if b=true then x else y):=by
 cases b with
 | true=>exact h rfl
 | false=>exact k rfl
noncomputable abbrev Swp (env:Env) (ts:List Expr) (r:Sem (Option (List Str))):Prop:=r=pure none∨∃line,r=pure (some (ts.filterMap (nameAt env line)))∧(ts.filterMap (nameAt env line)).length=ts.length∧(ts.filterMap (nameAt env line)).eraseDups.length=(ts.filterMap (nameAt env line)).length
theorem nN {env:Env} {ts es:List Expr} {c c':Nat} {p p':Pos} (h:fQ es=true):Swp env ts (swappedStores [.Tuple ts c p] (.Tuple es c' p') env):=by
 have e:swappedStores [.Tuple ts c p] (.Tuple es c' p') env=(if (!(ts.length==2 || ts.length==3) || es.length != ts.length || env.blockKind != .function)=true then pure none else
  if (es.any λ| .Starred ..=>true | _=>false)=true then pure none else
  if ((ts.filterMap (nameAt env ((ts.head?.map (·.pos.line)).getD 0))).length != ts.length || (ts.filterMap (nameAt env ((ts.head?.map (·.pos.line)).getD 0))).eraseDups.length != (ts.filterMap (nameAt env ((ts.head?.map (·.pos.line)).getD 0))).length)=true then pure none else
  if (es.all (foldedForSure 8))=true then pure none else
  if (es.all (constantsAlone 8))=true then unsupported "assign.tuple-of-constant-expressions:order-of-the-stores" else
  pure (some (ts.filterMap (nameAt env ((ts.head?.map (·.pos.line)).getD 0))))):=by
  first
   | rfl
   | with_unfolding_all rfl
   | (unfold swappedStores;simp only[];rfl)
 rw[e]
 refine ifE (λ_=> .inl rfl) λ_=>ifE (λ_=> .inl rfl) λ_=>ifE (λ_=> .inl rfl) λhn=>ifE (λ_=> .inl rfl) λhf=>ifE (λhc=>?_) λ_=> .inr ⟨_,rfl,?_,?_⟩
 · refine aE h λh _=>?_
   rw[hc,hf]at h
   exact ftE h
 · exact of_decide_eq_true (by simpa using (orF hn).1)
 · exact of_decide_eq_true (by simpa using (orF hn).2)
section
variable {c:Cx} {n m k k':Nat} {sc sc0:Scope} {env env':Env} {loc l1 l2 l3:Loc} {g g' g₀ g₁:Gh} {led led' led₁ led₂ led₃ led₄:Led} {s s':Shared} {h h' h₀ h₁:Heap} {A:Around} {d:D} {v v1 v2:Value} {x:Str} {pos p0 px:Pos} {a b p q r:AV} {as bs:List AV} {i j:Nat} {e el er o t:Expr} {vs ws:List Value} {ts es:List Expr} {lo:LO}
noncomputable abbrev g6 (c:Cx) (n:Nat) (sc:Scope) (loc:Loc) (es:List Expr) (led:Led) (as:List AV) (l1:Led):Prop:=EvL c n sc loc es led as l1∧as.length=es.length
theorem Fe:g6 c n sc loc [] led [] led:=⟨fY λ_=>rfl,rfl⟩
theorem pt_ex (hs:g6 c n sc loc es led₁ as led₂) (he:Ex c n sc loc e led a led₁):g6 c n sc loc (e::es) led (a::as) led₂:=⟨jL hs.1 he,congrArg (· +1) hs.2⟩
theorem y7 (hs:g6 c n sc loc es (led₁++[lo]) as led₂) (he:FreR c n sc loc e led lo led₁):g6 c n sc loc (e::es) led (.r led₁.length::as) led₂:=⟨jL hs.1 (.of he.pl λM=>he.run M),congrArg (· +1) hs.2⟩
theorem aQ.append:∀{as bs:List AV} {vs ws:List Value},aQ c g as vs→aQ c g bs ws→aQ c g (as++bs) (vs++ws)
 | [],_,_,_,r,q=>(show _=[] from r)▸q
 | _::_,_,[],_,r,_=>r.elim
 | _::as,bs,_::vs,ws,r,q=>(⟨r.1,aQ.append r.2 q⟩:aQ c g (_::(as++bs)) (_::(vs++ws)))
theorem aQ.reverse:∀{as:List AV} {vs:List Value},aQ c g as vs→aQ c g as.reverse vs.reverse
 | [],_,r=>(show _=[] from r)▸rfl
 | _::_,[],r=>r.elim
 | a::as,v::vs,r=>by
   rw[List.reverse_cons,List.reverse_cons]
   exact aQ.append (bs:=[a]) (ws:=[v]) (aQ.reverse r.2) ⟨r.1,rfl⟩
theorem ry:∀{ns:List Str} {as:List AV} {vs:List Value} {loc:Loc} {g:Gh} {s:Shared},At c n sc loc led env A g s→aQ c g as vs→ns.length=as.length→(∀x∈ns,iF sc x=true)→wp c A (assignInOrder (ns.map λn=>bindName env n) vs) (eM c env (sg (ns.zip as) loc) g s.heap led) s
 | [],[],_,_,_,_,M,r,_,_=>by rw[show _=[] from r];exact here M trivial
 | [],_::_,_,_,_,_,_,_,l,_=>nomatch l
 | _::_,[],_,_,_,_,_,_,l,_=>nomatch l
 | x::ns,a::as,[],_,_,_,_,r,_,_=>r.elim
 | x::ns,a::as,v::vs,loc,g,s,M,r,l,ho=>stp M (m:=holding vs (bindName env x v)) (aK (ym (au (jk M r.1 (ho x List.mem_cons_self))))) λ_ s₁ g₁ M₁ X₁ _=>ry M₁ (X₁.repAL M.n.inv r.2) (Nat.succ.inj l) λy hy=>ho y (List.mem_cons_of_mem _ hy)
theorem ER (h:StosR c n sc ts as loc led₁ l1 led₂) (hp:g6 c n sc loc es led as led₁) (hpl:fQ es=true):StR c n sc (.Assign [.Tuple ts k p0] (.Tuple es k' px) pos) loc led .next l1 led₂:=λenv A g s M=>by
 have hlen:as.length≤1048576:=hp.2▸Nat.le_trans (Nat.le_of_ble_eq_true (aE hpl λ_ q=>q)) (by decide)
 refine weq (arm_exec_Assign ..) (aA ?_)
 rw[show swapsWithSole [.Tuple ts k p0] (.Tuple es k' px) pos.line env=pure false from rfl]
 refine fL ?_
 rw[if_neg (by decide),arm_eval_Tuple]
 refine ah (aA (ah (wgo M (hp.1.run M) λvs s₁ g₁ M₁ X₁ r₁=>au (wpAny_newTuple ?_ (r₁.len▸lY hlen)))))
 have J:=Go.junk (b:=false) M₁.n.inv (nJ vs 0)
 have M₂:=M₁.to (M₁.n.go (t:=s₁.toks) J)
 have X₂:=(X₁.trans J.ext).weak true
 have hT:(s₁.heap.push (nJ vs 0)).IsTuple s₁.heap.objs.size vs.toArray:=⟨nJ vs 0,Heap.get?_push_size _ rfl,rfl,0,rfl⟩
 refine(nN (env:=env) (ts:=ts) (c:=k) (c':=k') (p:=p0) (p':=px) hpl).elim (λh0=>?_) λz=>z.elim λline z=>?_
 · rw[h0]
   refine fL ?_
   show wp c A (assign (.Tuple ts k p0) env (.ref s₁.heap.objs.size)>>=λ_=>pure Flow.next) _ _
   exact ah (wgo M₂ (jZ (vs:=vs) h M₂ hT r₁) λ_ s₂ g₂ M₃ X₃ _=>we M₃ (X₂.trans X₃))
 · rw[z.1]
   refine fL ?_
   have w:=h.nm (nameAt env line) (λ_ _=>rB) z.2.1
   unfold assignStores
   refine uP ?_
   rw[show (ts.filterMap (nameAt env line)).length=vs.toArray.size by rw[w.1,List.size_toArray,r₁.len]]
   refine ah (au (wpAny_unpackItems_tuple (items:=vs.toArray) M.a.hd hT λh' hs=>?_))
   have K:=Go.kept (b:=false) M₂.n.inv (rP hs)
   refine ah (wgo (M₂.to (M₂.n.go (t:=s₁.toks) K)) (ry (ns:=(ts.filterMap (nameAt env line)).reverse) (M₂.to (M₂.n.go (t:=s₁.toks) K)) (aQ.reverse r₁) (by rw[List.length_reverse,List.length_reverse,w.1]) λx hx=>w.2.1 x (List.mem_reverse.mp hx)) λ_ s₂ g₂ M₃ X₃ _=>?_)
   refine aw ⟨g₂,?_,(X₂.trans (K.ext.weak true)).trans X₃,rfl⟩
   rw[w.2.2.2]
   refine M₃.n.wk λy a e=>?_
   rw[uA w.1,pZ _ _ (by rw[List.map_fst_zip (Nat.le_of_eq w.1)];exact eF _ z.2.2)]
   rw[w.2.2.1]at e
   exact e
end
end Mine
end
section
open PySem PySem.W PySem.Calls PyProof.Rows
namespace Mine
theorem m5 {α σ:Type} {x:σ} {f:α→σ→Sem (ForInStep σ)}:∀{l:List α},(∀a∈l,f a x=pure (.yield x))→forIn l x f=pure x
 | [],_=>rfl
 | a::l,h=>by
   rw[List.forIn_cons,h a List.mem_cons_self]
   exact m5 (l:=l) λb hb=>h b (List.mem_cons_of_mem _ hb)
theorem qy:∀{xs:List Str} {ys:List Value} {n:Str},xs.length=ys.length→n∈xs→∃v,(xs.zip ys).lookup n=some v
 | [],_,_,_,h=>nomatch h
 | _::_,[],_,h,_=>nomatch h
 | x::xs,y::ys,n,h,hn=>cE (eqS x n) (λe=>⟨y,c8 (p:=(x,y)) e⟩) λe=>(List.mem_cons.mp hn).elim (λq=>ftE (e.symm.trans (aG.mpr q.symm))) λq=>(qy (Nat.succ.inj h) q).imp λv z=>(c9 (p:=(x,y)) e).trans z
theorem lF (zs:List (Str×Value)):∀(xs:List Str) (ys:List Value),xs.length=ys.length→xs.Nodup→(∀n∈xs,zs.lookup n=(xs.zip ys).lookup n)→xs.filterMap (λn=>(zs.lookup n).map (n,·))=xs.zip ys
 | [],[],_,_,_=>rfl
 | [],_::_,h,_,_=>nomatch h
 | _::_,[],h,_,_=>nomatch h
 | x::xs,y::ys,h,nd,k=>by
   rw[List.nodup_cons]at nd
   have e:=(k x List.mem_cons_self).trans (c8 (p:=(x,y)) (sm x))
   rw[List.zip_cons_cons,List.filterMap_cons_some (b:=(x,y)) (by rw[e];rfl),lF zs xs ys (Nat.succ.inj h) nd.2 λn hn=>(k n (List.mem_cons_of_mem _ hn)).trans (c9 (p:=(x,y)) (eo.mpr λz=>nd.1 ((show x=n from z)▸hn)))]
theorem xr {α:Type} {o:Option α} (h:∃v,o=some v):o.isNone=false:=h.elim λv e=>e▸rfl
theorem uu {s:Shared} {name qual:Str} {ar:List PySem.Arg} {kd:List (Option Expr)} {df:List Expr} {body:FuncBody} {sc:Scope} {gl bl:Addr} {cl:List (Str×Addr)} {dfl kdf dc pm co ct:Value} {an:Option Addr} {vals:List Value}
 (hl:(ar.map (·.arg)).length=vals.length) (nd:(ar.map (·.arg)).Nodup) (hd:dfl= .none∨∃T o items n,dfl= .ref T∧s.heap.get? T=some o∧o.data= .seq items n):
 BindsTo s ⟨name,qual,⟨[],ar,none,[],kd,none,df⟩,body,sc,gl,cl,dfl,kdf,dc,pm,an,co,ct,bl⟩ ⟨vals,[]⟩ ((ar.map (·.arg)).zip vals):=λM A E Q q=>by
 have G:wpAny M A (seqItems? dfl) (λ_ s'=>s'=s) E s:=hd.elim (λe=>e▸wpAny_pure rfl) λz=>z.elim λT z=>z.elim λo z=>z.elim λit z=>z.elim λn z=>z.1▸wpAny_seqItems z.2.1 z.2.2 rfl
 unfold bindArgs
 show wpAny M A (seqItems? dfl>>=_) Q E s
 refine wpAny_bind (wpAny_mono G (λr s' e=>?_) λ_ _ e=>e)
 rw[e]
 have look:∀n∈ar.map (·.arg),((([]:List Str)++ar.map (·.arg)).zip vals |>.lookup n).isNone=false:=λn hn=>xr (qy hl hn)
 refine bm_if_false (congrArg (· &&true) (decide_eq_false (Nat.not_lt.mpr (Nat.le_of_eq hl.symm)))) (bm_if_false (congrArg (λl:List Str=>!l.isEmpty) (List.filter_eq_nil_iff.mpr λn hn=>Bool.not_eq_true _▸look n (List.mem_of_mem_take hn))) ?_)
 refine wpAny_bind (wpAny_of_eq (m5 λa ha=>if_neg (Bool.not_eq_true _▸look a.1 (List.mem_of_mem_drop (List.of_mem_zip ha).1))) ?_)
 refine wpAny_bind (wpAny_of_eq (a:=(_,[])) rfl ?_)
 refine bm_if_false rfl (wpAny_pure ?_)
 exact(congrArg (Q · s) ((congrArg (List.filterMap λn=>(((ar.map (·.arg)).zip vals).lookup n).map (n,·)) (List.append_nil (ar.map (·.arg)))).trans (lF _ _ vals hl nd λ_ _=>rfl))).mpr q
theorem sO {s:Shared} {fd:FuncData} {vals:List Value} (h1:fd.params.posonlyargs=[]) (h2:fd.params.kwonlyargs=[]) (h3:fd.params.vararg=none) (h4:fd.params.kwarg=none)
 (hl:(fd.params.args.map (·.arg)).length=vals.length) (nd:(fd.params.args.map (·.arg)).Nodup) (hd:fd.defaults= .none∨∃T o items n,fd.defaults= .ref T∧s.heap.get? T=some o∧o.data= .seq items n):
 BindsTo s fd ⟨vals,[]⟩ ((fd.params.args.map (·.arg)).zip vals):=by
 refine cF λGG gg=>?_
 obtain⟨name,qual,⟨po,ar,va,ko,kd,kwa,df⟩,body,sc,gl,cl,dfl,kdf,dc,pm,an,co,ct,bl⟩:=fd
 refine gg ?_
 dsimp only at h1 h2 h3 h4
 subst h1 h2 h3 h4
 exact uu hl nd hd
end Mine
end
section
open PySem PySem.W PySem.Calls PyProof.Rows
namespace Mine
noncomputable def isL:Option Tag→Bool
 | none=>false
 | some t=>match t with
   | .lcl=>true
   | .cel _=>true
   | _=>false
noncomputable def hid (t:Option Tag):Option Tag:=bif isL t then none else t
noncomputable def i5:Option Tag→Option Tag
 | none=>none
 | some t=>match t with
   | .fz o=>some (.fz o)
   | _=>none
noncomputable def orT (t u:Option Tag):Option Tag:=match t with
 | some t=>some t
 | none=>u
noncomputable def Gh.hideF (g:Gh):Gh:={g with tag:=λa=>hid (g.tag a)}
noncomputable def Gh.backF (g g₂:Gh):Gh:={g₂ with tag:=λa=>bif isL (g.tag a)then g.tag a else hid (g₂.tag a)}
noncomputable def Gh.hideA (g:Gh):Gh:={g with tag:=λa=>i5 (g.tag a),len:=0}
noncomputable def Gh.backA (g g₂:Gh):Gh:={g with tag:=λa=>orT (g.tag a) (i5 (g₂.tag a))}
noncomputable def Gh.lay (g:Gh) (T:Addr→Option Tag):Gh:={g with tag:=λa=>orT (T a) (g.tag a)}
section
variable {c:Cx} {g g' g₂:Gh} {led led' led₂:Led} {h h' h₂:Heap} {a:Addr} {t u:Option Tag} {ob:Obj} {x:Tag} {b:Bool}
theorem zR (h:isL t=true):hid t=none:=by rw[hid,h];rfl
theorem mT (h:isL t=false):hid t=t:=by rw[hid,h];rfl
theorem rZ (e:hid t=some x):t=some x∧isL t=false:=cE (isL t) (λq=>nomatch (zR q).symm.trans e) λq=>⟨(mT q).symm.trans e,q⟩
theorem xA (s:Still false t):Still true (hid t):=by
 cases t with
 | none=>trivial
 | some t=>cases t<;>first | exact s | trivial
theorem xB (s:Loose t):Loose (hid t):=by
 cases t with
 | none=>trivial
 | some t=>cases t<;>first | exact s | trivial
theorem mL (q:isL t=true):(∃x,t=some x)∧Loose t∧∀o,t≠some (.fz o):=by
 cases t with
 | none=>exact ftE q
 | some t=>cases t<;>first | exact ftE q | exact⟨⟨_,rfl⟩,trivial,λo z=>nomatch z⟩
theorem vZ (I:Inv c g led h) (k:∀b o,h.get? b=some o→h'.get? b=some o):∀a t,g.tag a=some t→h'.get? a=h.get? a:=λa t e=>(I.dom a t e).elim λo q=>(k a o q).trans q.symm
theorem Inv.hideF (I:Inv c g led h):Inv c g.hideF led h:=I.chg (n:=g.len) ⟨Nat.le_refl _,λ_ _=>rfl,λ_ _=>rfl,λa o e=>(mT (t:=g.tag a) (by rw[e];rfl)).trans e,λa m t _ e q=>⟨(mT (t:=g.tag a) (by rw[e];rcases q with q | q<;>(rw[q];rfl))).trans e,rfl⟩⟩ I.len
 (λa t e=>have w:=rZ (t:=g.tag a) e;⟨I.dom a t w.1,λo z=>I.fz a o (z▸w.1)⟩) (de I)
theorem t8 (I:Inv c g led h) (x:Ext true g.hideF h g₂ h₂) (e:isL (g.tag a)=true):g₂.tag a=none:=(mL e).1.elim λt q=>(x.tag a (I.dom a t q) (show Loose (hid (g.tag a))by rw[zR e];trivial)).trans (zR e)
theorem wu (e:isL (g.tag a)=true):(g.backF g₂).tag a=g.tag a:=by show (bif isL (g.tag a)then g.tag a else _)=_;rw[e];rfl
theorem qq (e:isL (g.tag a)=false):(g.backF g₂).tag a=hid (g₂.tag a):=by show (bif isL (g.tag a)then g.tag a else _)=_;rw[e];rfl
theorem ja (I:Inv c g led h) (y:Ext true g.hideF h g₂ h₂) (e:g₂.tag a=some x) (n:isL (some x)=false):(g.backF g₂).tag a=some x:=cE (isL (g.tag a)) (λq=>nomatch (t8 I y q).symm.trans e) λq=>(qq q).trans ((mT (by rw[e];exact n)).trans e)
theorem Dk (I:Inv c g led h) (x:Ext true g.hideF h g₂ h₂):∀a o,g₂.F a=some o→(g.backF g₂).F a=some o:=λa o e=>Gh.F_iff.mpr (ja I x (Gh.F_iff.mp e) rfl)
theorem Inv.backF (I:Inv c g led h) (x:Ext true g.hideF h g₂ h₂) (I₂:Inv c g₂ led₂ h₂):Inv c (g.backF g₂) led₂ h₂:=I₂.chg (n:=g₂.len) ⟨Nat.le_refl _,λ_ _=>rfl,λ_ _=>rfl,λa o e=>ja I x e rfl,λa m t _ e q=>⟨ja I x e (by rcases q with q | q<;>(rw[q];rfl)),rfl⟩⟩ I₂.len
 (λa t e=>cE (isL (g.tag a)) (λq=>have w:=(wu q).symm.trans e;⟨x.live a (I.dom a t w),λo z=>absurd (z▸w) ((mL q).2.2 o)⟩) λq=>have w:=rZ ((qq q).symm.trans e);⟨I₂.dom a t w.1,λo z=>I₂.fz a o (z▸w.1)⟩) (de I₂)
theorem Ext.backF (I:Inv c g led h) (x:Ext true g.hideF h g₂ h₂):Ext false g h (g.backF g₂) h₂:=
 ⟨x.len,x.adr,x.live,λa l lo=>cE (isL (g.tag a)) wu λq=>by
   have e:g₂.tag a=g.tag a:=(x.tag a l (xB lo)).trans (mT q)
   rw[qq q,e];exact mT q,λa o e s=>x.old a o e (xA s)⟩
theorem ay.backF (I:Inv c g led h) (x:Ext true g.hideF h g₂ h₂) {av:AV} {v:Value} (r:ay c g₂ av v):ay c (g.backF g₂) av v:=ay.mv (g:=g₂) (g':=g.backF g₂) (Nat.le_refl _) (λ_ _=>rfl) (Dk I x) r
theorem CH (a:Addr) (o:Obj) (e:g.F a=some o):g.hideF.F a=some o:=Gh.F_iff.mpr ((mT (t:=g.tag a) (by rw[Gh.F_iff.mp e];rfl)).trans (Gh.F_iff.mp e))
theorem eS (e:i5 t=some x):t=some x∧∃o,x= .fz o:=by
 cases t with
 | none=>exact nE e
 | some t=>cases t<;>first | exact nE e | (cases e;exact⟨rfl,_,rfl⟩)
theorem kg (e:t=some (.fz ob)):i5 t=some (.fz ob):=by rw[e];rfl
theorem jG:Still true (i5 t):=by
 cases t with
 | none=>trivial
 | some t=>cases t<;>trivial
theorem dN (e:t=some x):orT t u=some x:=by rw[e];rfl
theorem gO (e:t=none):orT t u=u:=by rw[e];rfl
theorem Inv.hideA (I:Inv c g led h):Inv c g.hideA [] h:=⟨rfl,λa o e=>I.fz a o (eS (t:=g.tag a) e).1,λa t e=>I.dom a t (eS (t:=g.tag a) e).1,λn lo q=>(nomatch q),λa o e=>kg (I.kin a o e)⟩
theorem vV (a:Addr) (o:Obj) (e:g.F a=some o):g.hideA.F a=some o:=Gh.F_iff.mpr (kg (Gh.F_iff.mp e))
theorem oI (x:Ext true g.hideA h g₂ h₂):∀a o,h.get? a=some o→h₂.get? a=some o:=λa o e=>x.old a o e (jG (t:=g.tag a))
theorem mS (x:Ext true g.hideA h g₂ h₂) (l:aS h a):g₂.tag a=i5 (g.tag a):=x.tag a l (bM (jG (t:=g.tag a)))
theorem Dl (I:Inv c g led h) (x:Ext true g.hideA h g₂ h₂):∀a o,g₂.F a=some o→(g.backA g₂).F a=some o:=λa o e=>Gh.F_iff.mpr (j4 (g.tag a) (λq=>(gO q).trans (kg (Gh.F_iff.mp e))) λt q=>by
 have w:=Gh.F_iff.mp e
 rw[mS x (I.dom a t q)]at w
 exact(dN q).trans (q.symm.trans (eS w).1))
theorem Inv.backA (I:Inv c g led h) (x:Ext true g.hideA h g₂ h₂) (I₂:Inv c g₂ led₂ h₂):Inv c (g.backA g₂) led h₂:=
 have k:=vZ I (oI x)
 I.chg (n:=g.len) ⟨Nat.le_refl _,λ_ _=>rfl,λ_ _=>rfl,λa o e=>dN e,λa m t _ e q=>⟨dN e,k a t e⟩⟩ I.len
  (λa t e=>j4 (g.tag a) (λq=>have w:=eS ((gO q).symm.trans e);⟨I₂.dom a t w.1,λo z=>I₂.fz a o (z▸w.1)⟩) λu q=>by
    have w:u=t:=Option.some.inj ((dN q).symm.trans e)
    rw[w]at q
    exact⟨x.live a (I.dom a t q),λo z=>(k a t q).trans (I.fz a o (z▸q))⟩) (de I)
theorem Ext.backA (I:Inv c g led h) (x:Ext true g.hideA h g₂ h₂):Ext false g h (g.backA g₂) h₂:=
 ⟨Nat.le_refl _,λ_ _=>rfl,x.live,λa l lo=>j4 (g.tag a) (λq=>by
   show orT (g.tag a) (i5 (g₂.tag a))=g.tag a
   rw[mS x l,q];rfl) λt q=>(dN q).trans q.symm,λa o e s=>oI x a o e⟩
theorem vL {T:Addr→Option Tag} (hT:∀a t,T a=some t→g.tag a=none) (e:g.tag a=some x):(g.lay T).tag a=some x:=j4 (T a) (λq=>(gO q).trans e) λu q=>nomatch (hT a u q).symm.trans e
theorem Inv.lay {T:Addr→Option Tag} (I:Inv c g led h) (k:∀b o,h.get? b=some o→h'.get? b=some o) (hT:∀a t,T a=some t→g.tag a=none) (hl:∀a t,T a=some t→isL (some t)=true∧aS h' a):Inv c (g.lay T) led h':=
 have q:=vZ I k
 I.chg (n:=g.len) ⟨Nat.le_refl _,λ_ _=>rfl,λ_ _=>rfl,λa o e=>vL hT e,λa m t _ e _=>⟨vL hT e,q a t e⟩⟩ I.len
  (λa t e=>j4 (T a) (λz=>have w:=(gO z).symm.trans e;⟨(I.kept k).dom a t w,λo y=>(I.kept k).fz a o (y▸w)⟩) λu z=>by
    have w:u=t:=Option.some.inj ((dN z).symm.trans e)
    rw[w]at z
    exact⟨(hl a t z).2,λo y=>absurd (congrArg some y) ((mL (hl a t z).1).2.2 o)⟩) (de I)
theorem Ext.lay {T:Addr→Option Tag} (k:∀b o,h.get? b=some o→h'.get? b=some o) (hT:∀a t,T a=some t→¬aS h a):Ext b g h (g.lay T) h':=
 ⟨Nat.le_refl _,λ_ _=>rfl,λa=> .imp (k a),λa l _=>j4 (T a) gO λu q=>absurd l (hT a u q),λa o e _=>k a o e⟩
noncomputable def Gh.inst (g:Gh) (n:Addr):Gh:=g.more (n+1) n ((g.tg n (some (.dct g.len))).tg (n+1) (some (.own g.len))).tag
theorem Cz:((h.push emptyDict).push ob).get? (h.objs.size+1)=((h.push emptyDict).push ob).get? (h.push emptyDict).objs.size:=by rw[Heap.size_push]
theorem Inv.inst (I:Inv c g led h) (k:Str):Go c false g h (g.inst h.objs.size) (led++[.obj k []]) ((h.push emptyDict).push (instObj (c.ca k) h.objs.size)):=by
 have n2:g.tag h.objs.size=none:=I.fresh
 have n1:g.tag (h.objs.size+1)=none:=I.untag λl=>Nat.lt_irrefl _ (Nat.lt_trans l.lt (Nat.lt_succ_self _))
 have ne:h.objs.size≠h.objs.size+1:=Nat.ne_of_lt (Nat.lt_succ_self _)
 have gx:((h.push emptyDict).push (instObj (c.ca k) h.objs.size)).get? (h.objs.size+1)=some (instObj (c.ca k) h.objs.size):=Cz.trans (Heap.get?_push_size _ rfl)
 have gd:((h.push emptyDict).push (instObj (c.ca k) h.objs.size)).get? h.objs.size=some emptyDict:=bh _ _ (Heap.get?_push_size _ rfl)
 have ea:(g.inst h.objs.size).adr led.length=h.objs.size+1:=I.len▸mz
 have ed:(g.inst h.objs.size).dad led.length=h.objs.size:=I.len▸zl
 exact Go.more I (λb t e=>(cA (dZ n1 e)).trans ((cA (dZ n2 e)).trans e)) (λb t e=>tgE e (λz q=> .inr ⟨(by rw[z];exact⟨_,gx⟩:aS _ b),λo w=>by rw[w]at q;exact nomatch q⟩) λ_ e=>tgE e (λz q=> .inr ⟨(by rw[z];exact⟨_,gd⟩:aS _ b),λo w=>by rw[w]at q;exact nomatch q⟩) λ_ q=> .inl q)
  (λb l=>(cA (Nat.ne_of_lt (Nat.lt_succ_of_lt l.lt))).trans (cA (Nat.ne_of_lt l.lt))) (λb o e=>bh _ _ (bh _ _ e))
  (show g9 c (g.inst h.objs.size) _ led.length (.obj k []) from ⟨ea.symm▸I.len▸cJ,ed.symm▸(cA ne).trans (I.len▸cJ),by rw[ea,ed];exact gx,emptyDict,[],ed.symm▸gd,⟨_,_,rfl,.nil,Nat.zero_le _⟩,rfl⟩)
end
end Mine
end
section
open PySem PySem.W PySem.Calls PyProof.Rows
namespace Mine
noncomputable def lB:List (Str×Addr)→Addr→Option Tag
 | [],_=>none
 | p::r,a=>if a=p.2 then some (.cel p.1)else lB r a
noncomputable def jI (L:Addr) (cs:List (Str×Addr)) (a:Addr):Option Tag:=if a=L then some .lcl else lB cs a
noncomputable def Gi:Fl→Option AV
 | .ret a=>some a
 | .next=>some (.v .none)
 | .cont=>none
noncomputable def D7:Flow→Value
 | .ret v=>v
 | _=> .none
noncomputable def fJ (c:Cx) (n:Nat) (d:Df) (args:List AV) (led:Led) (a:AV) (led1:Led):Prop:=∃loc fl l1,wH d.params args=some loc∧SsR c n d.sc d.body loc led fl l1 led1∧Gi fl=some a
section
variable {c:Cx} {n m:Nat} {sc sc0:Scope} {env env':Env} {loc l1 l2 l3:Loc} {g g' g₀ g₁ g₂:Gh} {led led' led₁ led₂ led₃ led₄:Led} {s s':Shared} {h h' h₀ h₁:Heap} {A:Around} {d:Df} {v v1 v2:Value} {x y:Str} {a b p q r:AV} {as args:List AV} {vs ws:List Value} {ds:List D} {fl:Fl} {R:Result→Shared→Prop} {f:Addr} {res:D} {mt:List Str} {k:Str}
theorem jQ {a:Addr} {t:Tag}:∀{cs:List (Str×Addr)},lB cs a=some t→∃x,t= .cel x∧(x,a)∈cs
 | [],e=>nE e
 | p::r,e=>iE e (λq e=>⟨p.1,(Option.some.inj e).symm,by rw[q];exact List.mem_cons_self⟩) λ_ e=>(jQ e).imp λx z=>⟨z.1,List.mem_cons_of_mem _ z.2⟩
theorem kO {a:Addr}:∀{cs:List (Str×Addr)},(cs.Pairwise λx y=>x.2≠y.2)→(x,a)∈cs→lB cs a=some (.cel x)
 | [],_,h=>nomatch h
 | p::r,hp,h=>(List.mem_cons.mp h).elim (λe=>by rw[←e];exact if_pos rfl) λh=>(if_neg λq=>(List.pairwise_cons.mp hp).1 _ h q.symm).trans (kO (List.pairwise_cons.mp hp).2 h)
variable {ko:Str→Option NameKind}
theorem nv:∀{l:List (Str×Value)} {m:Str→Option Value},x∉l.map (·.1)→bindL ko l m x=m x
 | [],_,_=>rfl
 | p::r,m,h=>by
   rw[List.map_cons,List.mem_cons,not_or]at h
   refine(nv h.2).trans ?_
   split
   · exact if_neg h.1
   · rfl
theorem oV (hk:ko x=some .local):∀{l:List (Str×Value)} {m:Str→Option Value},(x,v)∈l→(l.map (·.1)).Nodup→bindL ko l m x=some v
 | [],_,h,_=>nomatch h
 | p::r,m,h,nd=>(List.mem_cons.mp h).elim (λe=>by
    rw[←e]at nd ⊢
    exact(nv (List.nodup_cons.mp nd).1).trans ((congrFun (if_pos hk) x).trans (if_pos rfl))) λh=>oV (l:=r) hk h (List.nodup_cons.mp nd).2
theorem ny:∀{l:List (Str×Value)} {m:Str→Option Value},x∉l.map (·.1)→bindC ko l m x=m x
 | [],_,_=>rfl
 | p::r,m,h=>by
   rw[List.map_cons,List.mem_cons,not_or]at h
   refine(ny h.2).trans ?_
   split
   · rfl
   · exact if_neg h.1
theorem oW (hk:ko x≠some .local):∀{l:List (Str×Value)} {m:Str→Option Value},(x,v)∈l→(l.map (·.1)).Nodup→bindC ko l m x=some v
 | [],_,h,_=>nomatch h
 | p::r,m,h,nd=>(List.mem_cons.mp h).elim (λe=>by
    rw[←e]at nd ⊢
    exact(ny (List.nodup_cons.mp nd).1).trans ((congrFun (if_neg hk) x).trans (if_pos rfl))) λh=>oW (l:=r) hk h (List.nodup_cons.mp nd).2
theorem qB:∀{xs:List Str} {as:List AV} {l:Loc},wH xs as=some l→xs.length=as.length
 | [],[],_,_=>rfl
 | [],_::_,_,e=>nE e
 | _::_,[],_,e=>nE e
 | x::xs,a::as,l,e=>bE e λr hr _=>congrArg (· +1) (qB hr)
theorem qC:∀{xs:List Str} {as:List AV} {vs:List Value} {l:Loc},wH xs as=some l→aQ c g as vs→get l x=some a→∃v,(x,v)∈xs.zip vs∧ay c g a v
 | [],[],_,_,e,_,q=>by rw[←Option.some.inj e]at q;exact nE q
 | [],_::_,_,_,e,_,_=>nE e
 | _::_,[],_,_,e,_,_=>nE e
 | _::_,_::_,[],_,_,r,_=>r.elim
 | y::xs,b::as,v::vs,l,e,r,q=>bE e λl' hl e=>by
   rw[←Option.some.inj e]at q
   exact cE (eqS y x) (λk=>⟨v,List.mem_cons.mpr (.inl (congrArg (·,v) (aG.mp k).symm)),Option.some.inj ((aB (p:=(y,b)) k).symm.trans q)▸r.1⟩)
    λk=>(qC hl r.2 ((ak (p:=(y,b)) k).symm.trans q)).imp λv z=>⟨List.mem_cons_of_mem _ z.1,z.2⟩
theorem Ax {fw:Flow} (e:Gi fl=some a) (r:FlOk c g fl fw):ay c g a (D7 fw):=by
 cases fl with
 | next=>rw[show fw= .next from r,←Option.some.inj e];exact(rfl:ay c g (.v .none) .none)
 | cont=>exact nE e
 | ret b=>
   refine Exists.elim r λv z=>?_
   rw[z.1,←Option.some.inj e]
   exact z.2
theorem fH (hB:fJ c n d args led a led₁) (hK:DfIn c.K f d) (hA:∀env,AOk n (A.deeper env)) (hr:A.depth<recursionLimit) (I:Inv c g led s.heap) (hgs:s.gens=c.gs) (hos:s.os=c.os) (ra:aQ c g args vs)
 (hR:∀v s' g₂,Inv c g₂ led₁ s'.heap→Ext true g s.heap g₂ s'.heap→s'.gens=c.gs→s'.os=c.os→ay c g₂ a v→R (.ok (.ret v)) s'):cd c A (.call (.ref f) ⟨vs,[]⟩) R s:=by
 refine cF λGG gg=>?_
 obtain⟨loc',fl,l1,hz,he,hE⟩:=hB
 obtain⟨o,fd,ho,hd,e1,e2,e3,e4,e5,e6,p1,p2,p3,p4,p5,p6⟩:=hK.obj
 refine gg ?_
 have kp:=I.frag
 have lens:(fd.params.args.map (·.arg)).length=vs.length:=by rw[p5,qB hz,ra.len]
 have mapz:(((fd.params.args.map (·.arg)).zip vs).map (·.1))=d.params:=by rw[List.map_fst_zip (Nat.le_of_eq lens),p5]
 refine Gw hr (kp _ _ ho) hd (by rw[e1];exact hK.co) (by rw[e1];exact hK.gen) e2 (e6.keeps kp) (sO p1 p2 p3 p4 lens (by rw[p5];exact hK.nodup) (p6.imp id λz=>z.imp λT z=>z.imp λo z=>z.imp λit z=>z.imp λn z=>⟨z.1,kp _ _ z.2.1,z.2.2⟩) _ _ _ _ ?_)
 rw[e3]
 refine wpAny_newFunctionEnv_cells (by rw[e1];exact hK.kind) (λx hx=>?_) λenv' hev s₁ x=>?_
 · rw[e1]
   exact(hK.par _ (mapz▸List.mem_map_of_mem hx)).imp id λq=>⟨q,cellsFrom_some _ _ _ (.inl q)⟩
 refine⟨(c.NL.keeps kp).keeps x.toInCall.keep,cfunc ?_⟩
 obtain⟨h₁,t₁,rfl⟩:=x.toInCall.same
 have hL:env'.locals=s.heap.objs.size:=by rw[hev];rfl
 have hcs:env'.cells=cellsFrom (s.heap.objs.size+1) d.sc.names []:=by rw[hev,←e1];rfl
 have hes:env'.scope=d.sc:=by rw[hev,←e1];rfl
 have hko:∀y,env'.kindOf y=d.sc.names.lookup y:=λy=>congrArg (λs:Scope=>s.names.lookup y) hes
 have keep:∀b o,s.heap.get? b=some o→h₁.get? b=some o:=x.toInCall.keep
 have ns:h₁.Ns env'.locals _:=x.toInCall.ns
 have cnd:(env'.cells.map (·.1)).Nodup:=by rw[hcs];exact cellsFrom_names d.sc.names 0 (s.heap.objs.size+1) [] [] rfl▸hK.cnd
 have isCell:∀y i,(y,i)∈env'.cells→h₁.IsCell i (bindC env'.kindOf ((fd.params.args.map (·.arg)).zip vs) (λ_=>none) y):=λy i hm=>x.cell y i (lookup_of_mem_nodup cnd hm)
 have up:∀y i,(y,i)∈env'.cells→s.heap.objs.size<i:=λy i hm=>hL▸x.above y i hm
 have T1:∀i t,jI env'.locals env'.cells i=some t→(isL (some t)=true∧aS h₁ i)∧s.heap.objs.size≤i:=λi t e=>iE e
  (λq e=>⟨⟨Option.some.inj e▸rfl,q▸ns.elim λo z=>z.elim λ_ z=>z.elim λ_ z=>⟨o,z.1⟩⟩,q▸Nat.le_of_eq hL.symm⟩)
  λq e=>(jQ e).elim λy z=>⟨⟨z.1▸rfl,(isCell y i z.2).imp λo w=>w.1⟩,Nat.le_of_lt (up y i z.2)⟩
 have nl:∀i t,jI env'.locals env'.cells i=some t→¬aS s.heap i:=λi t e l=>Nat.lt_irrefl _ (Nat.lt_of_lt_of_le l.lt (T1 i t e).2)
 have X₁:Ext true g s.heap (g.lay (jI env'.locals env'.cells)) h₁:=Ext.lay keep nl
 have N₁:Nice c env' loc' (g.lay (jI env'.locals env'.cells)) led {s with heap:=h₁,toks:=t₁}:={
  inv:=I.lay keep (λi t e=>I.untag (nl i t e)) λi t e=>(T1 i t e).1
  ok:={
   kind:=by rw[hes];exact hK.kind
   glob:=by rw[hev];exact e4
   blt:=by rw[hev];exact e5
   ns:=⟨_,ns⟩
   tagL:=dN (if_pos rfl)
   cel:=λy i hc _=>by
    have hm:=lookup_mem hc
    refine⟨dN ((if_neg λq=>?_).trans (kO x.apart hm)),(isCell y i hm).imp λo w=>⟨_,w⟩⟩
    have:=x.above y i hm
    rw[←q]at this
    exact Nat.lt_irrefl _ this
   has:=λy hy=>by
    rw[hcs]
    exact Option.isSome_iff_exists.mp (cellsFrom_some d.sc.names (s.heap.objs.size+1) [] (.inl ((hko y).symm.trans hy)))}
  loc:=λy a q=>(qC hz ra q).imp λv z=>by
   rw[←p5]at z
   have hp:y∈d.params:=mapz▸List.mem_map_of_mem (f:=(·.1)) z.1
   have nd:(((fd.params.args.map (·.arg)).zip vs).map (·.1)).Nodup:=by rw[mapz];exact hK.nodup
   refine⟨(hK.par y hp).elim (λq=>?_) λq=>?_,X₁.repA I z.2⟩
   · have hk:=(hko y).trans q
     exact .loc _ hk ns (oV hk z.1 nd)
   · have hk:=(hko y).trans q
     refine(Option.isSome_iff_exists.mp (cellsFrom_some d.sc.names (s.heap.objs.size+1) [] (.inl q))).elim λi hi=>?_
     have hi:=(congrArg (·.lookup y) hcs).trans hi
     exact(isCell y i (lookup_mem hi)).elim λo w=> .cel i o hk hi w.1 (w.2.trans (congrArg Data.cell (oW (by rw[hk];exact λz=>nomatch z) z.1 nd)))
  gens:=hgs
  os:=hos}
 have Sc:ScOk d.sc env':=⟨λy k q=>by
  rw[dy]at q
  rw[hko,q]
  have:=(hK.names _ (lookup_mem q)).1
  cases k with
  | free=>exact absurd rfl this
  | _=>rfl,(hko _).trans (j4 (d.sc.names.lookup ("__debug__":Str)) id λk q=>absurd rfl (hK.names _ (lookup_mem q)).2)⟩
 exact bc (he ⟨hA env',Sc,N₁⟩) λfw s' p=>by
  cases p with
  | mk g₂ N₂ X₂ r=>exact hR (D7 fw) _ g₂ N₂.inv (X₁.trans X₂) N₂.gens N₂.os (Ax hE r)
theorem AOk.deeper (hA:AOk (n+1) A) (env:Env):AOk n (A.deeper env):=⟨hA.hd,Nat.le_trans (Nat.le_of_eq (show A.depth+1+2 * n=A.depth+(2 * n+1)by lia)) (Nat.le_trans (Nat.add_le_add_left (Nat.le_succ _) _) hA.dp),by
 have:=hA.un
 show A.units+3+10 * n≤9000
 lia⟩
theorem AOk.room (hA:AOk (n+1) A):A.depth<recursionLimit:=Nat.lt_of_le_of_lt (Nat.le_trans (Nat.le_add_right ..) hA.dp) (by decide+kernel)
theorem oh (C:Addr) (r:List Value) (k:List (Str×Value)):(Code.builtin "type.__call__" ⟨.ref C::r,k⟩).weight≤1:=by
 have:(Code.builtin "type.__call__" ⟨.ref C::r,k⟩).weight=(Code.builtin "type.__call__" ⟨[.ref 0],[]⟩).weight:=rfl
 rw[this];decide+kernel
theorem yE (C:Addr) (r:List Value) (k:List (Str×Value)):(Code.builtin "type.__call__" ⟨.ref C::r,k⟩).cUnits≤3:=by
 have:(Code.builtin "type.__call__" ⟨.ref C::r,k⟩).cUnits=(Code.builtin "type.__call__" ⟨[.ref 0],[]⟩).cUnits:=rfl
 rw[this];decide+kernel
theorem AOk.under (hA:AOk (n+1) A) (C:Addr) (r:List Value) (k:List (Str×Value)) (env:Env):AOk n ((A.under (.builtin "type.__call__" ⟨.ref C::r,k⟩)).deeper env):=by
 have w1:=oh C r k
 have w2:=yE C r k
 have h2:=hA.dp
 have h3:=hA.un
 refine⟨hA.hd,?_,?_⟩
 · show A.depth+(Code.builtin "type.__call__" ⟨.ref C::r,k⟩).weight+1+2 * n≤900;lia
 · show A.units+(Code.builtin "type.__call__" ⟨.ref C::r,k⟩).cUnits+3+10 * n≤9000;lia
theorem AOk.roomU (hA:AOk (n+1) A) (C:Addr) (r:List Value) (k:List (Str×Value)):(A.under (.builtin "type.__call__" ⟨.ref C::r,k⟩)).depth<recursionLimit:=by
 have h2:=hA.dp
 have w1:=oh C r k
 have:recursionLimit=1000:=by decide+kernel
 show A.depth+(Code.builtin "type.__call__" ⟨.ref C::r,k⟩).weight<recursionLimit
 lia
theorem aQ.hideF:∀{l:List AV} {vs:List Value},aQ c g l vs→aQ c g.hideF l vs:=λr=>aQ.mv (g:=g) (g':=g.hideF) (Nat.le_refl _) (λ_ _=>rfl) CH r
theorem oX (N:Nice c env loc g led s) (X:Ext true g.hideA s.heap g₂ s'.heap) (I:Inv c g₂ led₂ s'.heap) (hg:s'.gens=c.gs) (ho:s'.os=c.os) (r:Rep c.ca g₂.F res v):bL c env loc g s.heap led (.v res) v s':=
 ⟨_,N.ext (Ext.backA N.inv X) (N.inv.backA X I) (hg.trans N.gens.symm) (ho.trans N.os.symm),Ext.backA N.inv X,r.mono (Dl N.inv X)⟩
theorem sP (N:Nice c env loc g led s) (X:Ext true g.hideF s.heap g₂ s'.heap) (I:Inv c g₂ led₂ s'.heap) (hg:s'.gens=c.gs) (ho:s'.os=c.os) (r:ay c g₂ a v):bL c env loc g s.heap led₂ a v s':=
 ⟨_,N.ext (Ext.backF N.inv X) (N.inv.backF X I) (hg.trans N.gens.symm) (ho.trans N.os.symm),Ext.backF N.inv X,r.backF N.inv X⟩
theorem oQ (ht:get tab x=some (.pure d mt)) (ha:bH args led=some (ds,led₁)) (hB:fJ c n d (ds.map .v) [] a led₂) (hr:frz depth a led₂=some (res,led₃)):af c (n+1) x args led (.v res) led₁:=λA env loc g s vs hA N ra=>
 (c.T x _ ht).elim λf z=>(kj N.inv ra ha).elim λg₁ w=>by
   have N₁:=N.gh w.1
   rw[z.1]
   exact iw (fH hB z.2 hA.deeper hA.room N₁.inv.hideA N₁.gens N₁.os (k7 (F:=g₁.F) (w.2.mono vV)) λv s' g₂ I₂ X₂ e1 e2 rv=>(kh _ I₂ rv.lt hr).elim λg₃ u=> .trans w.1.ext (oX N₁ (X₂.trans (u.1.ext.weak true)) u.1.inv e1 e2 (u.2 v rv)))
theorem AQ (ht:get tab x=some (.led d mt)) (hB:fJ c n d args led a led₁):af c (n+1) x args led a led₁:=λA env loc g s vs hA N ra=>
 (c.T x _ ht).elim λf z=>by
   rw[z.1]
   exact iw (fH hB z.2 hA.deeper hA.room N.inv.hideF N.gens N.os ra.hideF λv s' g₂ I₂ X₂ e1 e2 rv=>sP N X₂ I₂ e1 e2 rv)
theorem call_cls (ht:get tab x=some (.cls k d mt)) (ha:bH args led=some (ds,led₁)) (hB:fJ c n d (.r 0::ds.map .v) [.obj k []] (.v .none) led₂) (hr:frz depth (.r 0) led₂=some (res,led₃)):af c (n+1) x args led (.v res) led₁:=λA env loc g s vs hA N ra=>
 (c.T x _ ht).elim λf z=>(kj N.inv ra ha).elim λg₁ w=>by
   have N₁:=N.gh w.1
   have J:=Inv.inst N₁.inv.hideA k
   have rs:ay c (g₁.hideA.inst s.heap.objs.size) (.r 0) (.ref (s.heap.objs.size+1)):=⟨Nat.zero_lt_one,rfl⟩
   rw[z.1]
   exact iw (Ef (makes_of N₁.KI z.2.1) (looks_findIn N₁.KI z.2.2.1) (λself=>bind_fn N₁.KI self z.2.2.2.1) rfl (fH (led:=[]++[.obj k []]) (args:= .r 0::ds.map .v) (vs:= .ref (s.heap.objs.size+1)::vs) (a:= .v .none) (s:=⟨_,s.gens,s.drawn,s.toks,s.os⟩) hB z.2.2.2.2 (hA.under _ _ _) (hA.roomU _ _ _) J.inv N₁.gens N₁.os (⟨rs,J.ext.repAL N₁.inv.hideA (k7 (F:=g₁.F) (w.2.mono vV))⟩:aQ c _ (_::_) (_::_)) λv s' g₂ I₂ X₂ e1 e2 rv=>
    have rs₂:=X₂.repA J.inv rs
    (kh _ I₂ rs₂.lt hr).elim λg₃ u=>⟨rv,.trans w.1.ext (oX N₁ (((J.ext.weak true).trans X₂).trans (u.1.ext.weak true)) u.1.inv e1 e2 (u.2 _ rs₂))⟩))
theorem AP (ht:get tab x=some (.obj k d mt)) (hB:fJ c n d (.r led.length::args) (led++[.obj k []]) (.v .none) led₁):af c (n+1) x args led (.r led.length) led₁:=λA env loc g s vs hA N ra=>
 (c.T x _ ht).elim λf z=>by
   have J:=Inv.inst N.inv.hideF k
   have rs:ay c (g.hideF.inst s.heap.objs.size) (.r led.length) (.ref (s.heap.objs.size+1)):=⟨show led.length<g.len+1 from N.inv.len▸Nat.lt_succ_self _,congrArg Value.ref (N.inv.len▸mz).symm⟩
   rw[z.1]
   exact iw (Ef (makes_of N.KI z.2.1) (looks_findIn N.KI z.2.2.1) (λself=>bind_fn N.KI self z.2.2.2.1) rfl (fH (led:=led++[.obj k []]) (args:= .r led.length::args) (vs:= .ref (s.heap.objs.size+1)::vs) (a:= .v .none) (s:=⟨_,s.gens,s.drawn,s.toks,s.os⟩) hB z.2.2.2.2 (hA.under _ _ _) (hA.roomU _ _ _) J.inv N.gens N.os (⟨rs,J.ext.repAL N.inv.hideF ra.hideF⟩:aQ c _ (_::_) (_::_)) λv s' g₂ I₂ X₂ e1 e2 rv=>
    ⟨rv,sP N ((J.ext.weak true).trans X₂) I₂ e1 e2 (X₂.repA J.inv rs)⟩))
end
end Mine
end
section
open PySem
namespace Mine
inductive Ad where
 | z
 | t | f
 | r (a:AV) (l:Led)
 | p (d:D)
 | i (d:D)
 | b (d:D)
 | c (b:Bool)
 | n (k:Nat)
 | l (ds:List D) (l:Led)
 | q (ds:List D)
 | w (f:Fl) (loc:Loc) (l:Led)
 | x (f:Fl) (loc:Loc) (l:Led)
 | e (a:AV)
 | a (v:AV)
 | k (k:Kd)
 | v (d:D)
 | o (o:LO)
 | s (as:List AV) (l:Led)
noncomputable abbrev Ans:=List Ad→Prop→Prop
noncomputable def whole {σ:Type} (sel:Ad→Option σ) (Y:σ→Ans) (X:Ans):Ans:=λad ac=>match ad with
 | []=>X [] ac
 | x::r=>match sel x with
   | some s=>Y s r ac
   | none=>X (x::r) ac
noncomputable def told (p:Prop) (X:Ans):Ans:=λad ac=>X ad (p∧ac)
noncomputable def isZ (ad:List Ad):Bool:=match ad with
 | []=>false
 | x::_=>match x with
   | .z=>true
   | _=>false
noncomputable def sure (c:Bool) (X:Ans):Ans:=λad ac=>match c with
 | true=>X ad ac
 | false=>False
noncomputable def either (c:Bool) (X Y:Ans):Ans:=λad ac=>match c with
 | true=>X ad ac
 | false=>Y ad ac
noncomputable def cy (c:Bool) (X:Ans):Ans:=λad ac=>match isZ ad with
 | true=>sure c X ad ac
 | false=>told (c=true) X ad ac
noncomputable def adT:Ad→Option Bool
 | .t=>some true
 | .f=>some false
 | _=>none
noncomputable def adR (led:Led):Ad→Option (AV×Led)
 | .r a l=>some (a,l)
 | .p d=>some (.v d,led)
 | _=>none
noncomputable def adS:Ad→Option (List AV×Led)
 | .s as l=>some (as,l)
 | _=>none
noncomputable def adL (led:Led):Ad→Option (List D×Led)
 | .l ds l=>some (ds,l)
 | .q ds=>some (ds,led)
 | _=>none
noncomputable def adE:Ad→Option AV
 | .e a=>some a
 | _=>none
noncomputable def adW:Ad→Option (Fl×Loc×Led)
 | .w f loc l=>some (f,loc,l)
 | _=>none
noncomputable def adX:Ad→Option (Fl×Loc×Led)
 | .x f loc l=>some (f,loc,l)
 | _=>none
noncomputable def adA:Ad→Option AV
 | .a v=>some v
 | _=>none
noncomputable def adK:Ad→Option Kd
 | .k v=>some v
 | _=>none
noncomputable def adV:Ad→Option D
 | .v v=>some v
 | _=>none
noncomputable def adO:Ad→Option LO
 | .o v=>some v
 | _=>none
noncomputable def adI:Ad→Option D
 | .i v=>some v
 | _=>none
noncomputable def adB:Ad→Option D
 | .b v=>some v
 | _=>none
noncomputable def adC:Ad→Option Bool
 | .c v=>some v
 | _=>none
noncomputable def adN:Ad→Option Nat
 | .n v=>some v
 | _=>none
noncomputable def pick (c:Bool) (X Y:Ans):Ans:=whole adT (λb=>told (c=b) (match b with | true=>X | false=>Y)) (either c X Y)
noncomputable def no:Ans:=λ_ _=>False
noncomputable def opt {α:Type} (o:Option α) (Q:α→Ans):Ans:=λad ac=>match o with
 | some a=>Q a ad ac
 | none=>False
noncomputable def isRef:AV→Bool
 | .r _=>true
 | .v _=>false
noncomputable def bB {α:Type} (on:Bool) (sel:Ad→Option α) (o:Option α) (Q:α→Ans):Ans:=match on with
 | true=>whole sel (λv=>told (o=some v) (Q v)) (opt o Q)
 | false=>opt o Q
noncomputable abbrev optI (o:Option D) (Q:D→Ans):Ans:=bB true adI o Q
noncomputable abbrev Fg (o:Option D) (Q:D→Ans):Ans:=bB true adB o Q
noncomputable abbrev optB (o:Option Bool) (Q:Bool→Ans):Ans:=bB true adC o Q
noncomputable abbrev optN (o:Option Nat) (Q:Nat→Ans):Ans:=bB true adN o Q
noncomputable def rj {α β:Type} (o:Option (α×β)) (Q:α→β→Ans):Ans:=opt o (un2 Q)
noncomputable def nQ (p:AV) (led:Led) (Q:List AV→Led→Ans):Ans:=bB (isRef p) adS (items p led) (un2 Q)
noncomputable def xd (o:AV→Led→Prop) (led:Led) (X:(AV→Led→Ans)→Ans) (Q:AV→Led→Ans):Ans:=whole (adR led) (un2 λa l=>told (o a l) (Q a l)) (X Q)
noncomputable def B5 (led:Led) (o:Option (AV×Led)) (Q:AV→Led→Ans):Ans:=whole (adR led) (un2 λa l=>told (o=some (a,l)) (Q a l)) (rj o Q)
noncomputable def yp (led:Led) (o:List D→Led→Prop) (X:(List D→Led→Ans)→Ans) (Q:List D→Led→Ans):Ans:=whole (adL led) (un2 λds l=>told (o ds l) (cy (fits ds.length) (Q ds l))) (X λds l=>sure (fits ds.length) (Q ds l))
noncomputable def yr (led:Led) (o:AV→Led→Prop) (X:(AV→Led→Ans)→Ans) (Q:AV→Led→Ans):Ans:=whole adE (λa=>told (o a led) (Q a led)) (X Q)
noncomputable abbrev QS:=Fl→Loc→Led→Ans
noncomputable def tj (sel:Ad→Option (Fl×Loc×Led)) (o:Fl→Loc→Led→Prop) (X:QS→Ans) (Q:QS):Ans:=whole sel (un3 λf x l=>told (o f x l) (Q f x l)) (X Q)
noncomputable abbrev Ds (M ac:Prop) (Q:Ans) (P:Prop):Prop:=∀ad' ac',Q ad' ac'→(ac'→ac∧M)→P
noncomputable def R1 {α:Type} (W:(α→Ans)→Ans) (M:α→Prop):Prop:=∀Q ad ac,W Q ad ac→∀P:Prop,(∀a,Ds (M a) ac (Q a) P)→P
noncomputable def R2 {α β:Type} (W:(α→β→Ans)→Ans) (M:α→β→Prop):Prop:=∀Q ad ac,W Q ad ac→∀P:Prop,(∀a b,Ds (M a b) ac (Q a b) P)→P
noncomputable def R3 {α β γ:Type} (W:(α→β→γ→Ans)→Ans) (M:α→β→γ→Prop):Prop:=∀Q ad ac,W Q ad ac→∀P:Prop,(∀a b d,Ds (M a b d) ac (Q a b d) P)→P
section
variable {α β γ δ ε ζ:Type} {M:α→Prop} {M2:α→β→Prop} {M3:α→β→γ→Prop} {c:Bool} {o:Option α}
theorem dH {p q ac ac1 ac2:Prop} (z2:ac2→ac1∧(p→q)) (z1:ac1→ac∧p):ac2→ac∧q:=λz=>have w:=z2 z;have u:=z1 w.1;⟨u.1,w.2 u.2⟩
theorem j1 {p q ac ac2:Prop} (z2:ac2→(p∧ac)∧(p→q)):ac2→ac∧q:=λz=>have w:=z2 z;⟨w.1.2,w.2 w.1.1⟩
theorem R1.no:R1 (λ_=>no) M:=λ_ _ _ h=>h.elim
theorem R2.no:R2 (λ_=>no) M2:=λ_ _ _ h=>h.elim
theorem R3.no:R3 (λ_=>no) M3:=λ_ _ _ h=>h.elim
theorem R1.pure {a:α} (m:M a):R1 (λQ=>Q a) M:=λ_ ad ac h _ k=>k a ad ac h λz=>⟨z,m⟩
theorem R2.pure {a:α} {b:β} (m:M2 a b):R2 (λQ=>Q a b) M2:=λ_ ad ac h _ k=>k a b ad ac h λz=>⟨z,m⟩
theorem R3.pure {a:α} {b:β} {d:γ} (m:M3 a b d):R3 (λQ=>Q a b d) M3:=λ_ ad ac h _ k=>k a b d ad ac h λz=>⟨z,m⟩
theorem R1.opt:R1 (opt o) λa=>o=some a:=λQ ad ac h P k=>by
 cases o with
 | none=>exact h.elim
 | some a=>exact k a ad ac h λz=>⟨z,rfl⟩
theorem R2.opt {o:Option (α×β)}:R2 (rj o) λa b=>o=some (a,b):=λQ ad ac h P k=>R1.opt _ ad ac h P λp=>k p.1 p.2
theorem fM {σ:Type} {sel:Ad→Option σ} {Y:σ→Ans} {X:Ans} {ad:List Ad} {ac P:Prop} (h:whole sel Y X ad ac) (k:∀s r,Y s r ac→P) (k2:∀r,X r ac→P):P:=by
 cases ad with
 | nil=>exact k2 _ h
 | cons x r=>
   have h:(match sel x with | some s=>Y s r ac | none=>X (x::r) ac):=h
   cases e:sel x with
   | none=>rw[e]at h;exact k2 _ h
   | some s=>rw[e]at h;exact k s r h
theorem lP {p ac P:Prop} {Q:Ans} {r:List Ad} (h:told p Q r ac) (k:Ds p ac Q P):P:=k r _ h λz=>⟨z.2,z.1⟩
variable {W:(α→Ans)→Ans} {W2:(α→β→Ans)→Ans} {W3:(α→β→γ→Ans)→Ans}
theorem R1.b1 {V:α→(β→Ans)→Ans} {N:β→Prop} (h1:R1 W M) (h2:∀a,R1 (V a) λx=>M a→N x):R1 (λQ=>W λa=>V a Q) N:=λQ ad ac h P k=>h1 _ ad ac h P λa ad1 ac1 h z1=>h2 a Q ad1 ac1 h P λx ad2 ac2 h z2=>k x ad2 ac2 h (dH z2 z1)
theorem R1.b2 {V:α→(β→γ→Ans)→Ans} {N:β→γ→Prop} (h1:R1 W M) (h2:∀a,R2 (V a) λx y=>M a→N x y):R2 (λQ=>W λa=>V a Q) N:=λQ ad ac h P k=>h1 _ ad ac h P λa ad1 ac1 h z1=>h2 a Q ad1 ac1 h P λx y ad2 ac2 h z2=>k x y ad2 ac2 h (dH z2 z1)
theorem R1.b3 {V:α→(β→γ→δ→Ans)→Ans} {N:β→γ→δ→Prop} (h1:R1 W M) (h2:∀a,R3 (V a) λx y z=>M a→N x y z):R3 (λQ=>W λa=>V a Q) N:=λQ ad ac h P k=>h1 _ ad ac h P λa ad1 ac1 h z1=>h2 a Q ad1 ac1 h P λx y z ad2 ac2 h z2=>k x y z ad2 ac2 h (dH z2 z1)
theorem R2.b1 {V:α→β→(γ→Ans)→Ans} {N:γ→Prop} (h1:R2 W2 M2) (h2:∀a b,R1 (V a b) λx=>M2 a b→N x):R1 (λQ=>W2 λa b=>V a b Q) N:=λQ ad ac h P k=>h1 _ ad ac h P λa b ad1 ac1 h z1=>h2 a b Q ad1 ac1 h P λx ad2 ac2 h z2=>k x ad2 ac2 h (dH z2 z1)
theorem R2.b2 {V:α→β→(γ→δ→Ans)→Ans} {N:γ→δ→Prop} (h1:R2 W2 M2) (h2:∀a b,R2 (V a b) λx y=>M2 a b→N x y):R2 (λQ=>W2 λa b=>V a b Q) N:=λQ ad ac h P k=>h1 _ ad ac h P λa b ad1 ac1 h z1=>h2 a b Q ad1 ac1 h P λx y ad2 ac2 h z2=>k x y ad2 ac2 h (dH z2 z1)
theorem R2.b3 {V:α→β→(γ→δ→ε→Ans)→Ans} {N:γ→δ→ε→Prop} (h1:R2 W2 M2) (h2:∀a b,R3 (V a b) λx y z=>M2 a b→N x y z):R3 (λQ=>W2 λa b=>V a b Q) N:=λQ ad ac h P k=>h1 _ ad ac h P λa b ad1 ac1 h z1=>h2 a b Q ad1 ac1 h P λx y z ad2 ac2 h z2=>k x y z ad2 ac2 h (dH z2 z1)
theorem R3.b2 {V:α→β→γ→(δ→ε→Ans)→Ans} {N:δ→ε→Prop} (h1:R3 W3 M3) (h2:∀a b d,R2 (V a b d) λx y=>M3 a b d→N x y):R2 (λQ=>W3 λa b d=>V a b d Q) N:=λQ ad ac h P k=>h1 _ ad ac h P λa b d ad1 ac1 h z1=>h2 a b d Q ad1 ac1 h P λx y ad2 ac2 h z2=>k x y ad2 ac2 h (dH z2 z1)
theorem R3.b3 {V:α→β→γ→(δ→ε→ζ→Ans)→Ans} {N:δ→ε→ζ→Prop} (h1:R3 W3 M3) (h2:∀a b d,R3 (V a b d) λx y z=>M3 a b d→N x y z):R3 (λQ=>W3 λa b d=>V a b d Q) N:=λQ ad ac h P k=>h1 _ ad ac h P λa b d ad1 ac1 h z1=>h2 a b d Q ad1 ac1 h P λx y z ad2 ac2 h z2=>k x y z ad2 ac2 h (dH z2 z1)
theorem R1.imp {N:α→Prop} (h:R1 W M) (f:∀a,M a→N a):R1 W N:=λQ ad ac q P k=>h Q ad ac q P λa ad1 ac1 q z=>k a ad1 ac1 q λy=>⟨(z y).1,f a (z y).2⟩
theorem R2.imp {N:α→β→Prop} (h:R2 W2 M2) (f:∀a b,M2 a b→N a b):R2 W2 N:=λQ ad ac q P k=>h Q ad ac q P λa b ad1 ac1 q z=>k a b ad1 ac1 q λy=>⟨(z y).1,f a b (z y).2⟩
theorem R3.imp {N:α→β→γ→Prop} (h:R3 W3 M3) (f:∀a b d,M3 a b d→N a b d):R3 W3 N:=λQ ad ac q P k=>h Q ad ac q P λa b d ad1 ac1 q z=>k a b d ad1 ac1 q λy=>⟨(z y).1,f a b d (z y).2⟩
theorem tQ {X:Ans} {ad:List Ad} {ac P:Prop} (h:cy c X ad ac) (k1:c=true→X ad ac→P) (k2:X ad (c=true∧ac)→P):P:=by
 unfold cy at h
 cases e:isZ ad with
 | false=>rw[e]at h;exact k2 h
 | true=>
   rw[e]at h
   cases c with
   | true=>exact k1 rfl h
   | false=>exact h.elim
theorem R1.cy (h:R1 W λa=>c=true→M a):R1 (λQ=>cy c (W Q)) M:=λQ ad ac q P k=>tQ q (λe q=>h Q ad ac q P λa ad1 ac1 q z=>k a ad1 ac1 q λy=>⟨(z y).1,(z y).2 e⟩) λq=>h Q ad _ q P λa ad1 ac1 q z=>k a ad1 ac1 q (j1 z)
theorem R2.cy (h:R2 W2 λa b=>c=true→M2 a b):R2 (λQ=>cy c (W2 Q)) M2:=λQ ad ac q P k=>tQ q (λe q=>h Q ad ac q P λa b ad1 ac1 q z=>k a b ad1 ac1 q λy=>⟨(z y).1,(z y).2 e⟩) λq=>h Q ad _ q P λa b ad1 ac1 q z=>k a b ad1 ac1 q (j1 z)
theorem R1.sure (h:c=true→R1 W M):R1 (λQ=>sure c (W Q)) M:=by
 cases c with
 | true=>exact h rfl
 | false=>exact R1.no
theorem R2.sure (h:c=true→R2 W2 M2):R2 (λQ=>sure c (W2 Q)) M2:=by
 cases c with
 | true=>exact h rfl
 | false=>exact R2.no
theorem R3.sure (h:c=true→R3 W3 M3):R3 (λQ=>sure c (W3 Q)) M3:=by
 cases c with
 | true=>exact h rfl
 | false=>exact R3.no
theorem R1.either {V:(α→Ans)→Ans} (h:c=true→R1 W M) (k:c=false→R1 V M):R1 (λQ=>either c (W Q) (V Q)) M:=by
 cases c with
 | true=>exact h rfl
 | false=>exact k rfl
theorem R2.either {V:(α→β→Ans)→Ans} (h:c=true→R2 W2 M2) (k:c=false→R2 V M2):R2 (λQ=>either c (W2 Q) (V Q)) M2:=by
 cases c with
 | true=>exact h rfl
 | false=>exact k rfl
theorem R3.either {V:(α→β→γ→Ans)→Ans} (h:c=true→R3 W3 M3) (k:c=false→R3 V M3):R3 (λQ=>either c (W3 Q) (V Q)) M3:=by
 cases c with
 | true=>exact h rfl
 | false=>exact k rfl
theorem y9 {X Y:Ans} {ad:List Ad} {ac P:Prop} (h:pick c X Y ad ac) (k1:∀r,X r (c=true∧ac)→P) (k2:∀r,Y r (c=false∧ac)→P) (k3:∀r,either c X Y r ac→P):P:=fM h (λb r h=>by
 cases b with
 | true=>exact k1 r h
 | false=>exact k2 r h) k3
theorem R2.pick {V:(α→β→Ans)→Ans} (h1:R2 W2 λa b=>c=true→M2 a b) (h2:R2 V λa b=>c=false→M2 a b):R2 (λQ=>pick c (W2 Q) (V Q)) M2:=λQ ad ac h P k=>y9 h
 (λad1 h=>h1 Q ad1 _ h P λa b ad2 ac2 h z=>k a b ad2 ac2 h (j1 z)) (λad1 h=>h2 Q ad1 _ h P λa b ad2 ac2 h z=>k a b ad2 ac2 h (j1 z))
 λr h=>R2.either (λe=>R2.imp h1 λ_ _ h=>h e) (λe=>R2.imp h2 λ_ _ h=>h e) Q r ac h P k
theorem R3.pick {V:(α→β→γ→Ans)→Ans} (h1:R3 W3 λa b d=>c=true→M3 a b d) (h2:R3 V λa b d=>c=false→M3 a b d):R3 (λQ=>pick c (W3 Q) (V Q)) M3:=λQ ad ac h P k=>y9 h
 (λad1 h=>h1 Q ad1 _ h P λa b d ad2 ac2 h z=>k a b d ad2 ac2 h (j1 z)) (λad1 h=>h2 Q ad1 _ h P λa b d ad2 ac2 h z=>k a b d ad2 ac2 h (j1 z))
 λr h=>R3.either (λe=>R3.imp h1 λ_ _ _ h=>h e) (λe=>R3.imp h2 λ_ _ _ h=>h e) Q r ac h P k
theorem R1.bB {on:Bool} {sel:Ad→Option α}:R1 (bB on sel o) λa=>o=some a:=λQ ad ac h P k=>by
 cases on with
 | false=>exact R1.opt Q ad ac h P k
 | true=>exact fM h (λv r h=>lP h (k v)) λr h=>R1.opt Q r ac h P k
theorem R2.B5 {led:Led} {o:Option (AV×Led)}:R2 (B5 led o) λa l=>o=some (a,l):=λQ ad ac h P k=>fM h (λp r h=>lP h (k p.1 p.2)) λr h=>R2.opt Q r ac h P k
theorem R2.xd {led:Led} {o:AV→Led→Prop} {X:(AV→Led→Ans)→Ans} (h:R2 X o):R2 (xd o led X) o:=λQ ad ac q P k=>fM q (λp r q=>lP q (k p.1 p.2)) λr q=>h Q r ac q P k
theorem R2.nQ {p:AV} {led:Led}:R2 (nQ p led) λas l=>items p led=some (as,l):=λQ ad ac h P k=>R1.bB _ ad ac h P λp=>k p.1 p.2
theorem yo {led:Led} {o:List D→Led→Prop} {X:(List D→Led→Ans)→Ans} (h:R2 X o):R2 (yp led o X) λds l=>fits ds.length=true∧o ds l:=λQ ad ac q P k=>fM q (λp r q=>tQ (ac:=o p.1 p.2∧ac) q (λe q=>k p.1 p.2 _ _ q λz=>⟨z.2,e,z.1⟩) λq=>k p.1 p.2 _ _ q λz=>⟨z.2.2,z.1,z.2.1⟩)
 λr q=>R2.b2 h (λds l=>R2.sure (W2:=λQ=>Q ds l) λhf=>R2.pure λho=>(⟨hf,ho⟩:fits ds.length=true∧o ds l)) Q r ac q P k
theorem yq {led:Led} {o:AV→Led→Prop} {X:(AV→Led→Ans)→Ans} (h:R2 X o):R2 (yr led o X) o:=λQ ad ac q P k=>fM q (λa r q=>lP q (k a led)) λr q=>h Q r ac q P k
theorem qI {sel:Ad→Option (Fl×Loc×Led)} {o:Fl→Loc→Led→Prop} {X:QS→Ans} (h:R3 X o):R3 (tj sel o X) o:=λQ ad ac q P k=>fM q (λp r q=>lP q (k p.1 p.2.1 p.2.2)) λr q=>h Q r ac q P k
end
end Mine
end
section
open PySem
namespace Mine
noncomputable abbrev QA:=AV→Led→Ans
noncomputable abbrev XE:=Expr→Led→QA→Ans
noncomputable def nH (a:AV) (led:Led) (Q:D→Led→Ans):Ans:=match a with
 | .v d=>Q d led
 | .r n=>rj (frz depth (.r n) led) Q
noncomputable def xBin (op:Operator) (x y:D) (Q:D→Ans):Ans:=match op with
 | .Add=>(match x with
   | .str a=>(match y with
     | .str b=>cy (fits (a.length+b.length)) (Q (.str (a++b)))
     | _=>no)
   | .list a=>(match y with
     | .list b=>cy (fits (a.length+b.length)) (Q (.list (a++b)))
     | _=>no)
   | x=>Fg (binop .Add x y) Q)
 | op=>Fg (binop op x y) Q
noncomputable def xL (w:XE):List Expr→Led→(List AV→Led→Ans)→Ans
 | [],led,Q=>Q [] led
 | e::es,led,Q=>w e led λa l1=>xL w es l1 λas l2=>Q (a::as) l2
noncomputable def xD (w:XE):List Expr→Led→(List D→Led→Ans)→Ans
 | [],led,Q=>Q [] led
 | e::es,led,Q=>w e led λa l1=>nH a l1 λd l2=>xD w es l2 λds l3=>Q (d::ds) l3
noncomputable def yh (w:XE):List (Option Expr)→List Expr→Led→(List (Int×D)→Led→Ans)→Ans
 | [],_,led,Q=>Q [] led
 | k::ks,vs,led,Q=>match k with
   | none=>no
   | some k=>match vs with
     | []=>no
     | v::vs=>w k led λp l1=>opt (bX p) λi=>w v l1 λq l2=>opt (bY q) λd=>yh w ks vs l2 λr l3=>Q ((i,d)::r) l3
noncomputable def uD (w:XE) (e:Expr) (led:Led) (Q:Bool→Led→Ans):Ans:=w e led λp l1=>opt (gr p) λb=>Q b l1
noncomputable def s6 (w:XE):List Expr→Led→(Bool→Led→Ans)→Ans
 | [],led,Q=>Q true led
 | e::es,led,Q=>uD w e led λb l1=>pick b (s6 w es l1 Q) (Q false l1)
noncomputable def uO (w:XE) (op:BoolOp):List Expr→Led→(Bool→Led→Ans)→Ans
 | [],_,_=>no
 | e::es,led,Q=>w e led λp l1=>opt (gr p) λb=>match es with
   | []=>Q b l1
   | _::_=>match op with
     | .And=>pick b (uO w op es l1 Q) (Q false l1)
     | .Or=>pick b (Q true l1) (uO w op es l1 Q)
noncomputable def xCmp (led:Led) (op:CmpOp) (a b:AV) (Q:Bool→Ans):Ans:=match b with
 | .r _=>optB (kx led op a b) Q
 | .v d=>match d with
   | .list _=>optB (kx led op a b) Q
   | _=>opt (kx led op a b) Q
noncomputable def tc (w:XE) (a:AV):List CmpOp→List Expr→Led→(Bool→Led→Ans)→Ans
 | [],_,_,_=>no
 | op::ops,es,led,Q=>match es with
   | []=>no
   | e::es=>w e led λp l1=>xCmp l1 op a p λc=>match ops with
     | []=>(match es with
       | []=>Q c l1
       | _::_=>no)
     | _::_=>match es with
       | []=>no
       | _::_=>pick c (tc w p ops es l1 Q) (Q false l1)
noncomputable def yc (w:XE) (o:Option Expr) (led:Led) (Q:D→Led→Ans):Ans:=match o with
 | none=>Q .none led
 | some e=>w e led λp l1=>opt (bY p) λd=>Q d l1
noncomputable def xLen (d:D) (Q:Nat→Ans):Ans:=match d with
 | .list l=>cy (fits l.length) (Q l.length)
 | .tup l=>cy (fits l.length) (Q l.length)
 | .str s=>cy (fits s.length) (Q s.length)
 | _=>no
noncomputable def xStr (d:D) (Q:D→Ans):Ans:=match d with
 | .int i=>cy (small i) (Q (.str (ao i)))
 | _=>no
noncomputable def DI (k:Blt) (d:D) (Q:D→Ans):Ans:=match k with
 | .len=>xLen d λn=>Q (.int (Int.ofNat n))
 | .str=>xStr d Q
 | k=>Fg (f5 k d) Q
noncomputable def DH (k:Blt) (vs:List AV) (led:Led) (Q:D→Ans):Ans:=match vs with
 | []=>no
 | a::r=>match r with
   | []=>bB (isRef a) adV (view led a) λd=>DI k d Q
   | _::_=>no
noncomputable def xBlt (k:Blt) (vs:List AV) (led:Led) (Q:D→Ans):Ans:=match k with
 | .bytes=>opt (bytesOf led vs) Q
 | k=>DH k vs led Q
structure Eng where
 c:Cx
 n:Nat
 mt:List Str
 sc:Scope
 /-- a call without advice -/
 inl:Str→List AV→Led→QA→Ans
noncomputable def DD (g:Eng) (x:Str) (vs:List AV) (led:Led) (Q:QA):Ans:=
 either (vP tab x) (xd (af g.c g.n x vs led) led (g.inl x vs led) Q) (opt (get f9 x) λk=>xBlt k vs led λd=>Q (.v d) led)
noncomputable def GC (led:Led) (n k:Nat):Option (AV×Led):=led[n]?.bind λo=>match o with
 | .list xs=>(match xs with
   | []=>some (.v .none,put led n (.refs [k]))
   | _::_=>none)
 | .refs ns=>(match fits ns.length with
   | true=>some (.v .none,put led n (.refs (ns++[k])))
   | false=>none)
 | _=>none
noncomputable def xApp (led:Led) (n:Nat) (d:D) (o:LO) (Q:QA):Ans:=match o with
 | .list xs=>cy (fits xs.length) (Q (.v .none) (put led n (.list (xs++[d]))))
 | _=>no
noncomputable def xExt (led:Led) (n:Nat) (o:LO) (d:D) (Q:QA):Ans:=match o with
 | .list xs=>(match d with
   | .list ys=>cy (fits (xs.length+ys.length)) (Q (.v .none) (put led n (.list (xs++ys))))
   | _=>no)
 | _=>no
noncomputable def xMd (led:Led) (md:Md) (o:AV) (vs:List AV) (Q:QA):Ans:=match md with
 | .append=>(match o with
   | .v _=>no
   | .r n=>match vs with
     | []=>no
     | a::r=>match r with
       | _::_=>no
       | []=>match a with
         | .v d=>bB true adO led[n]? λo=>xApp led n d o Q
         | .r k=>rj (GC led n k) Q)
 | .extend=>(match o with
   | .v _=>no
   | .r n=>match vs with
     | []=>no
     | a::r=>match r with
       | _::_=>no
       | []=>bB true adO led[n]? λo=>bB (isRef a) adV (view led a) λd=>xExt led n o d Q)
 | md=>B5 led (iA led md o vs) Q
noncomputable def DJ (g:Eng) (k:Kd) (o:AV) (m:Str) (vs:List AV) (led:Led) (Q:QA):Ans:=match k with
 | .obj c=>sure (tS c m) (xd (af g.c g.n (dot c m) (o::vs) led) led (g.inl (dot c m) (o::vs) led) Q)
 | k=>opt (Fq k m) λmd=>xMd led md o vs Q
noncomputable def EA (l:List D) (a b:D) (Q:List D→Ans):Ans:=cy (fits l.length) (opt (lower l.length a) λi=>opt (upper l.length b) λj=>Q ((l.drop i).take (j - i)))
noncomputable def yb (d a b:D) (Q:D→Ans):Ans:=match d with
 | .list l=>EA l a b λl=>Q (.list l)
 | d=>optI (slice d a b) Q
noncomputable def DF (d k:D) (Q:D→Ans):Ans:=match d with
 | .tup _=>opt (item d k) Q
 | _=>optI (item d k) Q
noncomputable def Dy (w:XE) (o:AV) (i:Expr) (led:Led) (Q:QA):Ans:=w i led λp l1=>opt (bY p) λk=>bB (isRef o) adV (view l1 o) λd=>DF d k λd=>Q (.v d) l1
noncomputable def Dx (w:XE) (o:AV) (lo hi st:Option Expr) (led:Led) (Q:QA):Ans:=match st with
 | none=>yc w lo led λp l1=>yc w hi l1 λq l2=>bB (isRef o) adV (view l2 o) λd=>yb d p q λd=>Q (.v d) l2
 | some _=>no
noncomputable def Ep (w:XE) (o:AV) (s:Expr) (led:Led) (Q:QA):Ans:=match ij s with
 | some q=>un3 (λlo hi st=>Dx w o lo hi st led Q) q
 | none=>Dy w o s led Q
noncomputable def uI (sc:Scope) (loc:Loc) (w:XE) (e:Expr) (led:Led) (Q:List AV→Led→Ans):Ans:=match lu e with
 | some xa=>un2 (λx e=>sure (cv sc loc x) (w e led λp l1=>opt (bX p) λi=>optN (nat? i) λn=>cy (fits n) (Q (cY 0 n) l1))) xa
 | none=>w e led λp l1=>nQ p l1 Q
noncomputable abbrev XEv:=Expr→Loc→Led→QA→Ans
noncomputable def xOut (o:Option D) (ds:List D) (l:Led) (Q:List D→Led→Ans):Ans:=match o with
 | some d=>Q (d::ds) l
 | none=>Q ds l
noncomputable def yj (step:AV→Led→(Option D→Led→Ans)→Ans):List AV→Led→(List D→Led→Ans)→Ans
 | [],led,Q=>Q [] led
 | a::as,led,Q=>step a led λo l1=>yj step as l1 λds l2=>xOut o ds l2 Q
noncomputable def gm (w:XEv) (elt:Expr) (ifs:List Expr) (sc:Scope) (x:Str) (loc:Loc) (a:AV) (led:Led) (Q:Option D→Led→Ans):Ans:=
 s6 (λe l R=>w e ((x,a)::kept sc loc) l R) ifs led λb l1=>pick b (w elt ((x,a)::kept sc loc) l1 λb l2=>nH b l2 λd l3=>Q (some d) l3) (Q none l1)
noncomputable def vn (k:Int):Bool:=match k with
 | .ofNat k=>Nat.beq k 0
 | .negSucc _=>false
noncomputable def FW (g:Comprehension):Option (Str×Expr×List Expr):=(asName g.target).bind λx=>match vn g.is_async with
 | true=>some (x,g.iter,g.ifs)
 | false=>none
noncomputable def n6 (g:Eng) (w0 w:XEv) (elt:Expr) (gens:List Comprehension) (sc:Scope) (loc:Loc) (led:Led) (Q:List D→Led→Ans):Ans:=
 opt ((one? gens).bind FW) (un3 λx it ifs=>sure (cp g.sc sc x) (uI g.sc loc (λe l R=>w0 e loc l R) it led λas l1=>yp l1 (cH g.c g.n sc loc elt ifs x as l1) (yj (gm w elt ifs sc x loc) as l1) Q))
noncomputable def xE:Nat→Eng→XEv
 | 0,_,_,_,_,_=>no
 | k+1,g,e,loc,led,Q=>match e with
   | .Constant c _ _=>(match c with
     | .none=>Q (.v .none) led
     | .bool b=>Q (.v (.bool b)) led
     | .int i=>Q (.v (.int i)) led
     | .str s=>Q (.v (.str s)) led
     | .bytes b=>Q (.v (.byt b)) led
     | _=>no)
   | .Name x _=>opt (nameOf g.sc x loc) λa=>Q a led
   | .BinOp l op r _=>xE k g l loc led λp l1=>xE k g r loc l1 λq l2=>bB (isRef p) adV (view l2 p) λx=>bB (isRef q) adV (view l2 q) λy=>xBin op x y λd=>Q (.v d) l2
   | .UnaryOp op x _=>(match op with
     | .USub=>xE k g x loc led λp l1=>opt (bX p) λi=>Q (.v (.int (-i))) l1
     | _=>no)
   | .IfExp t b o p=>yr led (Ex g.c g.n g.sc loc (.IfExp t b o p) led) (λQ=>uD (λe l R=>xE k g e loc l R) t led λc l1=>pick c (xE k g b loc l1 Q) (xE k g o loc l1 Q)) Q
   | .BoolOp op es _=>uO (λe l R=>xE k g e loc l R) op es led λb l1=>Q (.v (.bool b)) l1
   | .Compare l ops rs _=>either (lastMarks ops rs) no (xE k g l loc led λp l1=>tc (λe l R=>xE k g e loc l R) p ops rs l1 λb l2=>Q (.v (.bool b)) l2)
   | .Call f args kws pos=>(match f with
     | .Attribute o m apos=>(match kws with
       | []=>sure (eU args&&Nat.beq apos.endLine pos.line&&bare o) (xE k g o loc led λp l1=>bB (isRef p) adK (kJ l1 p) λkd=>xL (λe l R=>xE k g e loc l R) args l1 λvs l2=>DJ g kd p m vs l2 Q)
       | _::_=>no)
     | .Name x _=>(match kws with
       | []=>sure (cv g.sc loc x&&eU args) (xL (λe l R=>xE k g e loc l R) args led λvs l1=>DD g x vs l1 Q)
       | _::_=>no)
     | _=>no)
   | .Attribute o x _=>sure (bare o) (xE k g o loc led λp l1=>bB (isRef p) adA (g5 l1 x p) λa=>Q a l1)
   | .Subscript o s _=>xE k g o loc led λp l1=>Ep (λe l R=>xE k g e loc l R) p s l1 Q
   | .List es _=>xD (λe l R=>xE k g e loc l R) es led λds l1=>sure (fits ds.length) (Q (.v (.list ds)) l1)
   | .Tuple es _ _=>xD (λe l R=>xE k g e loc l R) es led λds l1=>sure (fits ds.length) (Q (.v (.tup ds)) l1)
   | .Dict ks vs _=>yh (λe l R=>xE k g e loc l R) ks vs led λds l1=>sure (et ds&&Nat.ble ds.length 15) (Q (.v (.dict ds)) l1)
   | .ListComp elt gens sc _=>n6 g (xE k g) (xE k {g with sc:=sc}) elt gens sc loc led λds l1=>Q (.v (.list ds)) l1
   | _=>no
noncomputable abbrev XLv:=Loc→Expr→Led→QA→Ans
noncomputable def DK (x y:D) (Q:List D→Ans):Ans:=match x with
 | .list a=>(match y with
   | .list b=>cy (fits (a.length+b.length)) (Q (a++b))
   | _=>no)
 | _=>no
noncomputable def DG (d p q:D) (Q:List D→Ans):Ans:=match d with
 | .list l=>EA l p q Q
 | _=>no
noncomputable def isAdd (op:Operator):Bool:=match op with
 | .Add=>true
 | _=>false
noncomputable def uJ (w:XE) (o:Expr) (lo hi st:Option Expr) (led:Led) (Q:LO→Led→Ans):Ans:=match st with
 | none=>w o led λp l1=>yc w lo l1 λq l2=>yc w hi l2 λr l3=>bB (isRef p) adV (view l3 p) λd=>DG d q r λl=>Q (.list l) l3
 | some _=>no
noncomputable def uK (sc:Scope) (loc:Loc) (led:Led) (Q:LO→Led→Ans) (x:Str) (as:List Expr):Ans:=match as with
 | []=>sure (cv sc loc x&&eqS x "bytearray") (Q (.byt []) led)
 | _::_=>no
noncomputable def s8 (sc:Scope) (loc:Loc) (w:XE) (e:Expr) (led:Led) (Q:LO→Led→Ans):Ans:=match e with
 | .List es _=>xD w es led λds l1=>sure (fits ds.length) (Q (.list ds) l1)
 | .Dict ks vs _=>(match ks with
   | []=>(match vs with
     | []=>Q (.dict []) led
     | _::_=>no)
   | _::_=>no)
 | .BinOp l op r _=>sure (isAdd op) (w l led λp l1=>w r l1 λq l2=>bB (isRef p) adV (view l2 p) λx=>bB (isRef q) adV (view l2 q) λy=>DK x y λl=>Q (.list l) l2)
 | .Subscript o s _=>opt (ij s) (un3 λlo hi st=>uJ w o lo hi st led Q)
 | .Call f as ks p=>opt (nk (.Call f as ks p)) (un2 λx as=>uK sc loc led Q x as)
 | _=>no
noncomputable def inPlace (g:Eng):Expr→Bool
 | .Name x _=>has g.mt x
 | .Attribute _ x _=>has g.mt x
 | _=>false
noncomputable def fuel:Nat:=60
noncomputable def pe (g:Eng) (loc:Loc) (w:XE):List Expr→List Expr→Led→(List AV→Led→Ans)→Ans
 | [],es,led,Q=>(match es with
   | []=>Q [] led
   | _::_=>no)
 | t::ts,es,led,Q=>match es with
   | []=>no
   | e::es=>either (inPlace g t) (s8 g.sc loc w e led λo l1=>pe g loc w ts es (l1++[o]) λas l2=>Q (AV.r l1.length::as) l2)
     (w e led λa l1=>pe g loc w ts es l1 λas l2=>Q (a::as) l2)
noncomputable def w4:Loc→Str→AV→(Loc→Ans)→Ans
 | [],x,a,k=>k [(x,a)]
 | p::l,x,a,k=>match eqS p.1 x with
   | true=>un2 (λy _=>k ((y,a)::l)) p
   | false=>w4 l x a λl'=>k (p::l')
theorem pB {x:Str} {a:AV}:∀{l:Loc} {k:Loc→Ans},w4 l x a k=k (set l x a)
 | [],k=>rfl
 | p::l,k=>by
   show (match eqS p.1 x with | true=>un2 (λy _=>k ((y,a)::l)) p | false=>w4 l x a λl'=>k (p::l'))=k (match eqS p.1 x with | true=>(p.1,a)::l | false=>p::set l x a)
   cases eqS p.1 x with
   | true=>rfl
   | false=>exact pB
noncomputable def DA (x:Str) (n:Nat) (a:AV) (loc:Loc) (l1:Led) (ob:LO) (Q:Loc→Led→Ans):Ans:=match ob with
 | .obj c fs=>sure (di c x&&Nat.ble fs.length 100) (Q loc (put l1 n (.obj c (set fs x a))))
 | _=>no
noncomputable def xPut (x:Str) (p a:AV) (loc:Loc) (l1:Led) (Q:Loc→Led→Ans):Ans:=match p with
 | .v _=>no
 | .r n=>bB true adO l1[n]? λob=>DA x n a loc l1 ob Q
noncomputable def Dz (n:Nat) (k:Int) (d:D) (loc:Loc) (l2:Led) (ob:LO) (Q:Loc→Led→Ans):Ans:=match ob with
 | .list xs=>optN (nat? k) λj=>cy (Nat.blt j xs.length&&fits j) (Q loc (put l2 n (.list (List.set xs j d))))
 | .dict l=>cy (fits l.length) (Q loc (put l2 n (.dict (dz l k d))))
 | _=>no
noncomputable def xSet (p:AV) (k:Int) (d:D) (loc:Loc) (l2:Led) (Q:Loc→Led→Ans):Ans:=match p with
 | .v _=>no
 | .r n=>bB true adO l2[n]? λob=>Dz n k d loc l2 ob Q
noncomputable def uE (w:XLv) (o i:Expr) (a:AV) (loc:Loc) (led:Led) (Q:Loc→Led→Ans):Ans:=w loc o led λp l1=>w loc i l1 λq l2=>opt (bX q) λk=>opt (bY a) λd=>xSet p k d loc l2 Q
noncomputable def pd (sc:Scope) (w:XLv) (t:Expr) (a:AV) (loc:Loc) (led:Led) (Q:Loc→Led→Ans):Ans:=match t with
 | .Name x _=>sure (iF sc x) (w4 loc x a λl=>Q l led)
 | .Attribute o x _=>w loc o led λp l1=>xPut x p a loc l1 Q
 | .Subscript o i _=>uE w o i a loc led Q
 | _=>no
noncomputable def jd (sc:Scope) (w:XLv):List Expr→List AV→Loc→Led→(Loc→Led→Ans)→Ans
 | [],as,loc,led,Q=>(match as with
   | []=>Q loc led
   | _::_=>no)
 | t::ts,as,loc,led,Q=>match as with
   | []=>no
   | a::as=>pd sc w t a loc led λloc l1=>jd sc w ts as loc l1 Q
noncomputable def kY (sc:Scope) (w:XLv) (t:Expr) (a:AV) (loc:Loc) (led:Led) (Q:Loc→Led→Ans):Ans:=match d4 t with
 | some ts=>opt (parts a) λas=>jd sc w ts as loc led Q
 | none=>pd sc w t a loc led Q
noncomputable def kZ (sc:Scope) (w:XLv) (t:Expr) (i:It) (loc:Loc) (led:Led) (Q:Loc→Led→Ans):Ans:=match i with
 | .one a=>kY sc w t a loc led Q
 | .two a b=>opt (d4 t) λts=>jd sc w ts [a,b] loc led Q
noncomputable def xZip (w:XE) (a b:Expr) (led:Led) (Q:List It→Led→Ans):Ans:=
 w a led λp l1=>sure (dh l1 p) (nQ p l1 λq l2=>w b l2 λr l3=>sure (dh l3 r || pT r) (nQ r l3 λs l4=>Q (gC q s) l4))
noncomputable def xEnum (w:XE) (a:Expr) (led:Led) (Q:List It→Led→Ans):Ans:=
 w a led λp l1=>sure (dh l1 p) (nQ p l1 λq l2=>Q (gw 0 q) l2)
noncomputable def Dv (as:List Expr) (x:Str):Option (Str×Expr×Option Expr):=match as with
 | []=>none
 | a::r=>match r with
   | []=>some (x,a,none)
   | b::r=>match r with
     | []=>some (x,a,some b)
     | _::_=>none
noncomputable def F8 (e:Expr):Option (Str×Expr×Option Expr):=(nk e).bind (un2 λx as=>Dv as x)
noncomputable def yf (sc:Scope) (loc:Loc) (w:XE) (e:Expr) (led:Led) (Q:List It→Led→Ans):Ans:=uI sc loc w e led λas l1=>Q (as.map .one) l1
noncomputable def yg (sc:Scope) (loc:Loc) (w:XE) (t e:Expr) (led:Led) (Q:List It→Led→Ans):Ans:=match F8 e with
 | some q=>un3 (λx a o=>match o with
   | some b=>sure (eqS x "zip"&&cv sc loc x&&bG t) (xZip w a b led Q)
   | none=>either (eqS x "enumerate") (sure (cv sc loc x&&bG t) (xEnum w a led Q)) (yf sc loc w e led Q)) q
 | none=>yf sc loc w e led Q
noncomputable def xTn (next:Loc→Led→QS→Ans) (f:Fl) (loc:Loc) (l1:Led) (Q:QS):Ans:=match f with
 | .ret a=>Q (.ret a) loc l1
 | .next=>next loc l1 Q
 | .cont=>next loc l1 Q
noncomputable def xFl (next:Loc→Led→QS→Ans) (f:Fl) (loc:Loc) (l1:Led) (Q:QS):Ans:=match f with
 | .next=>next loc l1 Q
 | .cont=>Q .cont loc l1
 | .ret a=>Q (.ret a) loc l1
noncomputable def DB (a:AV) (loc:Loc) (l1:Led) (Q:QS):Ans:=match a with
 | .v d=>(match d with
   | .none=>Q .next loc l1
   | _=>no)
 | _=>no
noncomputable def o9 (step:It→Loc→Led→QS→Ans):List It→Loc→Led→QS→Ans
 | [],loc,led,Q=>Q .next loc led
 | i::is,loc,led,Q=>step i loc led λf loc l1=>xTn (o9 step is) f loc l1 Q
noncomputable def xAug (op:Operator) (a b:D) (Q:D→Ans):Ans:=match op with
 | .Add=>(match a with
   | .int i=>(match b with
     | .int j=>Q (.int (i+j))
     | _=>no)
   | _=>no)
 | _=>no
noncomputable def EF (g:Eng) (w:XLv) (t e:Expr) (loc:Loc) (led:Led) (Q:QS):Ans:=match bG t&&bG e with
 | true=>opt (d4 t) λts=>opt (d4 e) λes=>sure (fQ es) (pe g loc (w loc) ts es led λas l1=>jd g.sc w ts as loc l1 λloc l2=>Q .next loc l2)
 | false=>either (inPlace g t) (s8 g.sc loc (w loc) e led λo l1=>pd g.sc w t (.r l1.length) loc (l1++[o]) λloc l2=>Q .next loc l2)
    (w loc e led λa l1=>kY g.sc w t a loc l1 λloc l2=>Q .next loc l2)
mutual
noncomputable def xS (g:Eng):Nat→Stmt→Loc→Led→QS→Ans
 | 0,_,_,_,_=>no
 | k+1,s,loc,led,Q=>match s with
   | .Expr e _=>sure (Nat.beq (bK e) 3) (xE k g e loc led λa l1=>DB a loc l1 Q)
   | .Return o _=>(match o with
     | some e=>xE k g e loc led λa l1=>Q (.ret a) loc l1
     | none=>Q (.ret (.v .none)) loc led)
   | .Continue _=>Q .cont loc led
   | .Assign tl e p=>(match tl with
     | []=>no
     | t::r=>match r with
       | _::_=>no
       | []=>EF g (λloc e l R=>xE k g e loc l R) t e loc led Q)
   | .AugAssign t op e _=>opt (asName t) λx=>opt (get loc x) λo=>sure (iF g.sc x) (opt (bY o) λa=>xE k g e loc led λb l1=>opt (bY b) λb=>xAug op a b λd=>w4 loc x (.v d) λl=>Q .next l l1)
   | .If t b o p=>tj adX (StR g.c g.n g.sc (.If t b o p) loc led) (λQ=>uD (λe l R=>xE k g e loc l R) t led λc l1=>pick c (xSs g k b loc l1 Q) (xSs g k o loc l1 Q)) Q
   | .For t it body els _=>(match els with
     | []=>yg g.sc loc (λe l R=>xE k g e loc l R) t it led λis l1=>
       tj adW (bf g.c g.n g.sc t body is loc l1) (o9 (λi loc led R=>kZ g.sc (λloc e l R=>xE k g e loc l R) t i loc led λloc l2=>xSs g k body loc l2 R) is loc l1) Q
     | _::_=>no)
   | _=>no
noncomputable def xSs (g:Eng):Nat→List Stmt→Loc→Led→QS→Ans
 | 0,_,_,_,_=>no
 | k+1,l,loc,led,Q=>match l with
   | []=>Q .next loc led
   | s::r=>xS g k s loc led λf loc l1=>xFl (xSs g k r) f loc l1 Q
end
end Mine
end
section
open PySem
namespace Mine
noncomputable abbrev XOk (c:Cx) (n:Nat) (sc:Scope) (loc:Loc) (w:XE):Prop:=∀e led,R2 (w e led) λa l=>Ex c n sc loc e led a l
noncomputable abbrev Bd (c:Cx) (n:Nat) (sc:Scope) (w:XEv):Prop:=∀loc e led,R2 (w e loc led) λa l=>Ex c n sc loc e led a l
section
variable {c:Cx} {n m:Nat} {sc sc0:Scope} {loc l1 l2:Loc} {led led' led₁ led₂ led₃:Led} {d y z:D} {x:Str} {pos p0 apos:Pos} {e el er o:Expr} {es args:List Expr} {a b p q:AV} {as vs:List AV} {ds:List D} {w:XE}
theorem t9 {b:Bool} (h:b=true):guard b d=some d:=by rw[h];rfl
theorem Ck {α:Type} {x y:α}:∀{b:Bool},b=true→(match b with | true=>x | false=>y)=x
 | true,_=>rfl
 | false,h=>nomatch h
theorem jW (a:AV) (led:Led):R2 (nH a led) λd l=>frz depth a led=some (d,l):=by
 cases a with
 | v d=>exact R2.pure rfl
 | r n=>exact R2.opt
theorem EC (op:Operator) (x y:D):R1 (xBin op x y) λd=>binop op x y=some d:=by
 cases op with
 | Add=>cases x with
   | str a=>cases y with
     | str b=>exact R1.cy (R1.pure t9)
     | _=>exact R1.no
   | list a=>cases y with
     | list b=>exact R1.cy (R1.pure t9)
     | _=>exact R1.no
   | _=>exact R1.bB (on:=true) (sel:=adB) (o:=binop .Add _ y)
 | _=>exact R1.bB (on:=true) (sel:=adB) (o:=binop _ x y)
theorem Ey (W:XOk c n sc loc w):∀es led,R2 (xL w es led) λas l=>EvL c n sc loc es led as l
 | [],led=>R2.pure (fY λ_=>rfl)
 | e::es,led=>by
   have h:=R2.b2 (N:=λas l=>EvL c n sc loc (e::es) led as l) (W e led) λa l1=>R2.b2 (Ey W es l1) λas l2=>R2.pure (a:=a::as) (b:=l2) λhs he=>jL hs he
   exact h
theorem Bq (W:XOk c n sc loc w):∀es led,R2 (xD w es led) λds l=>EvD c n sc loc es led ds l
 | [],led=>R2.pure (fY λ_=>rfl)
 | e::es,led=>by
   have h:=R2.b2 (N:=λds l=>EvD c n sc loc (e::es) led ds l) (W e led) λa l1=>R2.b2 (jW a l1) λd l2=>R2.b2 (Bq W es l2) λds l3=>R2.pure (a:=d::ds) (b:=l3) λhs hf he=>Au hs hf he
   exact h
theorem uM (W:XOk c n sc loc w):∀ks vs led,R2 (yh w ks vs led) λl l1=>o6 c n sc loc ks vs led l l1
 | [],vs,led=>R2.pure AG
 | none::ks,vs,led=>R2.no
 | some k::ks,[],led=>R2.no
 | some k::ks,v::vs,led=>by
   have h:=R2.b2 (N:=λl l1=>o6 c n sc loc (some k::ks) (v::vs) led l l1) (W k led) λp l1=>R1.b2 (R1.opt (o:=bX p)) λi=>R2.b2 (W v l1) λq l2=>R1.b2 (R1.opt (o:=bY q)) λd=>R2.b2 (uM W ks vs l2) λr l3=>R2.pure (a:=(i,d)::r) (b:=l3) λhr hd he hi hk=>xP hr hd he hi hk
   exact h
theorem pb (W:XOk c n sc loc w) (e:Expr) (led:Led):R2 (uD w e led) λb l=>Tv c n sc loc e led b l:=by
 have h:=R2.b2 (N:=λb l=>Tv c n sc loc e led b l) (W e led) λp l1=>R1.b2 (R1.opt (o:=gr p)) λb=>R2.pure (a:=b) (b:=l1) λhb he=>he.test hb
 exact h
theorem tf {b:Bool} {P:Prop} (h:b=true) (k:b=false):P:=tfE (h.symm.trans k)
theorem qE (W:XOk c n sc loc w):∀es led,R2 (s6 w es led) λb l=>dB c n sc loc es led b l
 | [],led=>R2.pure EM
 | e::es,led=>by
   have h:=R2.b2 (N:=λb l=>dB c n sc loc (e::es) led b l) (pb W e led) λb l1=>R2.pick (c:=b) (R2.imp (qE W es l1) λb' l' ht q hv=>uW (λ_=>ht) (λz=>tf q z) hv) (R2.pure (a:=false) (b:=l1) λq hv=>uW (λz=>tf z q) (λ_=>⟨rfl,rfl⟩) hv)
   exact h
theorem ph (W:XOk c n sc loc w) (op:BoolOp):∀es led,R2 (uO w op es led) λb l=>jV c n sc loc op es led b l
 | [],led=>R2.no
 | [e],led=>by
   have h:=R2.b2 (N:=λb l=>jV c n sc loc op [e] led b l) (W e led) λp l1=>R1.b2 (R1.opt (o:=gr p)) λb=>R2.pure (a:=b) (b:=l1) λhb he=>AW hb he
   exact h
 | e::e2::es,led=>by
   cases op with
   | And=>
     have h:=R2.b2 (N:=λb l=>jV c n sc loc .And (e::e2::es) led b l) (W e led) λp l1=>R1.b2 (R1.opt (o:=gr p)) λb=>R2.pick (c:=b) (R2.imp (ph W .And (e2::es) l1) λb' l' hr q hb he=>oU hr (by rw[q];rfl) hb he) (R2.pure (a:=false) (b:=l1) λq hb he=>q▸oT (by rw[q];rfl) hb he)
     exact h
   | Or=>
     have h:=R2.b2 (N:=λb l=>jV c n sc loc .Or (e::e2::es) led b l) (W e led) λp l1=>R1.b2 (R1.opt (o:=gr p)) λb=>R2.pick (c:=b) (R2.pure (a:=true) (b:=l1) λq hb he=>q▸oT (by rw[q];rfl) hb he) (R2.imp (ph W .Or (e2::es) l1) λb' l' hr q hb he=>oU hr (by rw[q];rfl) hb he)
     exact h
theorem pg (led:Led) (op:CmpOp) (a b:AV):R1 (xCmp led op a b) λr=>kx led op a b=some r:=by
 cases b with
 | r _=>exact R1.bB (on:=true) (sel:=adC) (o:=kx led op a _)
 | v d=>cases d with
   | list _=>exact R1.bB (on:=true) (sel:=adC) (o:=kx led op a _)
   | _=>exact R1.opt (o:=kx led op a _)
theorem qH (W:XOk c n sc loc w):∀a ops es led,R2 (tc w a ops es led) λb l=>gj c n sc loc a ops es led b l
 | _,[],_,_=>R2.no
 | a,op::ops,[],led=>R2.no
 | a,[op],[e],led=>by
   have h:=R2.b2 (N:=λb l=>gj c n sc loc a [op] [e] led b l) (W e led) λp l1=>R1.b2 (pg l1 op a p) λr=>R2.pure (a:=r) (b:=l1) λhc he=>xV hc he
   exact h
 | a,[op],e::e2::es,led=>by
   have h:=R2.b2 (N:=λb l=>gj c n sc loc a [op] (e::e2::es) led b l) (W e led) λp l1=>R1.b2 (pg l1 op a p) λr=>R2.no
   exact h
 | a,op::op2::ops,[e],led=>by
   have h:=R2.b2 (N:=λb l=>gj c n sc loc a (op::op2::ops) [e] led b l) (W e led) λp l1=>R1.b2 (pg l1 op a p) λr=>R2.no
   exact h
 | a,op::op2::ops,e::e2::es,led=>by
   have h:=R2.b2 (N:=λb l=>gj c n sc loc a (op::op2::ops) (e::e2::es) led b l) (W e led) λp l1=>R1.b2 (pg l1 op a p) λr=>R2.pick (c:=r) (R2.imp (qH W p (op2::ops) (e2::es) l1) λb l h q hc he=>nj (λ_=>h) (λz=>tf q z) hc he) (R2.pure (a:=false) (b:=l1) λq hc he=>nj (λz=>tf z q) (λ_=>⟨rfl,rfl⟩) hc he)
   exact h
theorem pf (W:XOk c n sc loc w) (o:Option Expr) (led:Led):R2 (yc w o led) λd l=>Opt c n sc loc o led d l:=by
 cases o with
 | none=>exact R2.pure zb
 | some e=>
   have h:=R2.b2 (N:=λd l=>Opt c n sc loc (some e) led d l) (W e led) λp l1=>R1.b2 (R1.opt (o:=bY p)) λd=>R2.pure (a:=d) (b:=l1) λhd he=>xc hd he
   exact h
theorem Ew (d:D):R1 (xLen d) λn=>Fv d=some n:=by
 cases d with
 | list l=>exact R1.cy (R1.pure Ck)
 | tup l=>exact R1.cy (R1.pure Ck)
 | str l=>exact R1.cy (R1.pure Ck)
 | _=>exact R1.no
theorem Er (d:D):R1 (xStr d) λr=>f5 .str d=some r:=by
 cases d with
 | int i=>exact R1.cy (R1.pure t9)
 | _=>exact R1.no
theorem Bt (k:Blt) (d:D):R1 (DI k d) λr=>f5 k d=some r:=by
 cases k with
 | len=>
   have h:=R1.b1 (N:=λr=>f5 .len d=some r) (Ew d) λn=>R1.pure (a:=D.int (Int.ofNat n)) λh=>congrArg (λo:Option Nat=>o.bind λn=>some (D.int (Int.ofNat n))) h
   exact h
 | str=>exact Er d
 | _=>exact R1.bB (on:=true) (sel:=adB) (o:=f5 _ d)
noncomputable abbrev GH (c:Cx) (n:Nat) (sc:Scope) (loc:Loc) (k:Blt) (vs:List AV) (led:Led) (d:D):Prop:=∀{x p0 pos args led0},get f9 x=some k→EvL c n sc loc args led0 vs led→cv sc loc x=true→Gv c n sc loc (.Call (.Name x p0) args [] pos) led0 (.v d) led
theorem Bs (k:Blt) (vs:List AV) (led:Led):R1 (DH k vs led) λd=>GH c n sc loc k vs led d:=by
 cases vs with
 | nil=>exact R1.no
 | cons a r=>cases r with
   | cons _ _=>exact R1.no
   | nil=>
     have h:=R1.b1 (N:=λd=>GH c n sc loc k [a] led d) (R1.bB (on:=isRef a) (sel:=adV) (o:=view led a)) λd=>R1.imp (Bt k d) λr h hv=>λhk E ht=>xG h hv hk E ht
     exact h
theorem EB (k:Blt) (vs:List AV) (led:Led):R1 (xBlt k vs led) λd=>GH c n sc loc k vs led d:=by
 cases k with
 | bytes=>exact R1.imp (R1.opt (o:=bytesOf led vs)) λd h=>λhk E ht=>zY h hk E ht
 | _=>exact Bs _ vs led
noncomputable abbrev EOk (g:Eng):Prop:=∀x vs led,R2 (g.inl x vs led) λa l=>af g.c g.n x vs led a l
theorem Bn (g:Eng) (H:EOk g) (x:Str) (vs:List AV) (led:Led):R2 (DD g x vs led) λa l=>∀{p0 pos args led0},EvL g.c g.n g.sc loc args led0 vs led→cv g.sc loc x=true→Gv g.c g.n g.sc loc (.Call (.Name x p0) args [] pos) led0 a l:=
 R2.either (λhf=>R2.imp (R2.xd (H x vs led)) λa l C _ _ _ _ E ht=>CR C E hf ht) λ_=>R1.b2 R1.opt λk=>R1.b2 (EB k vs led) λd=>R2.pure λB hk _ _ _ _ E ht=>B hk E ht
theorem GB {i j:Nat} (h:GC led i j=some (a,led₁)):MdR c n .append (.r i) [.r j] led a led₁:=bE h λo ho h=>by
 cases o with
 | list xs=>cases xs with
   | nil=>exact pE h (Ci ho)
   | cons _ _=>exact nE h
 | refs ns=>exact tE h λhf h=>pE h (Cg hf ho)
 | _=>exact nE h
theorem A5 {α β:Type} {o:Option α} {f:α→Option β} {a:α} {b:β} (e1:o=some a) (e2:f a=some b):o.bind f=some b:=by rw[e1];exact e2
theorem EG (i:Nat) (d:D) (o:LO):R2 (xApp led i d o) λa l=>led[i]? =some o→MdR c n .append (.r i) [.v d] led a l:=by
 cases o with
 | list xs=>exact R2.cy (R2.pure λhf ho=>Fp hf ho)
 | _=>exact R2.no
theorem Ez (i:Nat) (o:LO) (d:D):R2 (xExt led i o d) λb l=>view led a=some d→led[i]? =some o→MdR c n .extend (.r i) [a] led b l:=by
 cases o with
 | list xs=>cases d with
   | list ys=>exact R2.cy (R2.pure λhf hv ho=>Fm hf rfl hv ho)
   | _=>exact R2.no
 | _=>exact R2.no
theorem xMd_s (led:Led) (md:Md) (o:AV) (vs:List AV):R2 (xMd led md o vs) λa l=>MdR c n md o vs led a l:=by
 cases md with
 | append=>cases o with
   | v _=>exact R2.no
   | r i=>cases vs with
     | nil=>exact R2.no
     | cons a r=>cases r with
       | cons _ _=>exact R2.no
       | nil=>cases a with
         | r j=>exact R2.imp (R2.opt (o:=GC led i j)) λ_ _=>GB
         | v d=>
           have h:=R1.b2 (N:=λa l=>MdR c n .append (.r i) [.v d] led a l) (R1.bB (on:=true) (sel:=adO) (o:=led[i]?)) λo=>EG i d o
           exact h
 | extend=>cases o with
   | v _=>exact R2.no
   | r i=>cases vs with
     | nil=>exact R2.no
     | cons a r=>cases r with
       | cons _ _=>exact R2.no
       | nil=>
         have h:=R1.b2 (N:=λb l=>MdR c n .extend (.r i) [a] led b l) (R1.bB (on:=true) (sel:=adO) (o:=led[i]?)) λo=>R1.b2 (R1.bB (on:=isRef a) (sel:=adV) (o:=view led a)) λd=>Ez i o d
         exact h
 | _=>exact R2.imp (R2.B5 (led:=led) (o:=iA led _ o vs)) λ_ _=>Fi
theorem Bu (g:Eng) (H:EOk g) (k:Kd) (p:AV) (x:Str) (vs:List AV) (led:Led):R2 (DJ g k p x vs led) λa l=>∀{o apos pos args led0 led1},EvL g.c g.n g.sc loc args led1 vs led→kJ led1 p=some k→Ex g.c g.n g.sc loc o led0 p led1→bare o=true→Nat.beq apos.endLine pos.line=true→eU args=true→
 Gv g.c g.n g.sc loc (.Call (.Attribute o x apos) args [] pos) led0 a l:=by
 cases k with
 | obj k=>exact R2.sure λhm=>R2.imp (R2.xd (H _ _ led)) λa l C _ _ _ _ _ _ E hk ho hb hp hf=>CN C E hm hk ho hb hp hf
 | _=>exact R1.b2 R1.opt λmd=>R2.imp (xMd_s led md p vs) λa l C hm _ _ _ _ _ _ E hk ho hb hp hf=>gv_md C E hm hk ho hb hp hf
theorem yi (l:List D) (a b:D):R1 (EA l a b) λr=>cut l a b=some r:=by
 have h:=R1.cy (M:=λr=>cut l a b=some r) (R1.b1 (R1.opt (o:=lower l.length a)) λi=>R1.b1 (R1.opt (o:=upper l.length b)) λj=>R1.pure (a:=(l.drop i).take (j - i)) λhj hi hf=>(Ck hf).trans (A5 hi (A5 hj rfl)))
 exact h
theorem ya (d a b:D):R1 (yb d a b) λr=>slice d a b=some r:=by
 cases d with
 | list l=>
   have h:=R1.b1 (N:=λr=>slice (.list l) a b=some r) (yi l a b) λr=>R1.pure (a:=D.list r) λh=>congrArg (λo:Option (List D)=>o.map D.list) h
   exact h
 | _=>exact R1.bB (on:=true) (sel:=adI) (o:=slice _ a b)
theorem Bo (d k:D):R1 (DF d k) λr=>item d k=some r:=by
 cases d with
 | tup _=>exact R1.opt (o:=item _ k)
 | _=>exact R1.bB (on:=true) (sel:=adI) (o:=item _ k)
noncomputable abbrev Be (c:Cx) (n:Nat) (sc:Scope) (loc:Loc) (p:AV) (s:Expr) (led:Led) (a:AV) (l:Led):Prop:=∀{o pos led0},Ex c n sc loc o led0 p led→Gv c n sc loc (.Subscript o s pos) led0 a l
theorem Bi (W:XOk c n sc loc w) (p:AV) (s:Expr) (led:Led):R2 (Dy w p s led) λa l=>Be c n sc loc p s led a l:=by
 have h:=R2.b2 (N:=λa l=>Be c n sc loc p s led a l) (W s led) λq l1=>R1.b2 (R1.opt (o:=bY q)) λk=>R1.b2 (R1.bB (on:=isRef p) (sel:=adV) (o:=view l1 p)) λd=>R1.b2 (Bo d k) λr=>R2.pure (a:=AV.v r) (b:=l1) λhd hz hk hi _ _ _ ho=>CP hd hz hk hi ho
 exact h
theorem Eo (W:XOk c n sc loc w) (p:AV) (s:Expr) (led:Led):R2 (Ep w p s led) λa l=>Be c n sc loc p s led a l:=by
 unfold Ep
 cases hs:ij s with
 | none=>exact Bi W p s led
 | some q=>
   exact(yV hs).elim λps z=>by
    rw[z]
    have h:R2 (Dx w p q.1 q.2.1 q.2.2 led) λa l=>Be c n sc loc p (.Slice q.1 q.2.1 q.2.2 ps) led a l:=by
     cases q.2.2 with
     | none=>
       have h:=R2.b2 (N:=λa l=>Be c n sc loc p (.Slice q.1 q.2.1 none ps) led a l) (pf W q.1 led) λd1 l1=>R2.b2 (pf W q.2.1 l1) λd2 l2=>R1.b2 (R1.bB (on:=isRef p) (sel:=adV) (o:=view l2 p)) λd=>R1.b2 (ya d d1 d2) λr=>R2.pure (a:=AV.v r) (b:=l2) λhd hz hh hl _ _ _ ho=>zX hd hz hh hl ho
       exact h
     | some _=>exact R2.no
    exact h
theorem uH (W:XOk c n sc loc w) (e:Expr) (led:Led):R2 (uI sc loc w e led) λas l=>ItR c n sc loc e led as l:=by
 unfold uI
 cases hr:lu e with
 | none=>
   have h:=R2.b2 (N:=λas l=>ItR c n sc loc e led as l) (W e led) λp l1=>R2.imp (R2.nQ (p:=p) (led:=l1)) λas l h he=>it_ev h he
   exact h
 | some xa=>
   have h:=R2.sure (c:=cv sc loc xa.1) (M2:=λas l=>ItR c n sc loc e led as l) λht=>R2.b2 (W xa.2 led) λp l1=>R1.b2 (R1.opt (o:=bX p)) λi=>R1.b2 (R1.bB (on:=true) (sel:=adN) (o:=nat? i)) λm=>R2.cy (c:=fits m) (R2.pure (a:=cY 0 m) (b:=l1) λhf hm hi he=>zF hf hm hi he ht hr)
   exact h
theorem Eu {N:List D→Led→Prop} (o:Option D) (ds:List D) (l:Led) (h:N (o.toList++ds) l):R2 (λQ=>xOut o ds l Q) N:=by
 cases o with
 | none=>exact R2.pure h
 | some d=>exact R2.pure h
theorem uF {w:XEv} (W:Bd c n sc w) (elt:Expr) (ifs:List Expr) (x:Str) (loc:Loc) (a:AV) (led:Led):R2 (gm w elt ifs sc x loc a led) λo l=>kP c n sc loc elt ifs x a led o l:=by
 have h:=R2.b2 (N:=λo l=>kP c n sc loc elt ifs x a led o l) (qE (W ((x,a)::kept sc loc)) ifs led) λb l1=>R2.pick (c:=b) (R2.b2 (W _ elt l1) λb l2=>R2.b2 (jW b l2) λd l3=>R2.pure (a:=some d) (b:=l3) λhf he q ht=>⟨_,_,_,q▸ht,he,hf⟩) (R2.pure (a:=none) (b:=l1) λq ht=>(show dB c n sc _ ifs led false l1 from q▸ht))
 exact h
theorem uN {w:XEv} (W:Bd c n sc w) (elt:Expr) (ifs:List Expr) (x:Str) (loc:Loc):∀as led,R2 (yj (gm w elt ifs sc x loc) as led) λds l=>cH c n sc loc elt ifs x as led ds l
 | [],led=>R2.pure ⟨rfl,rfl⟩
 | a::as,led=>by
   have h:=R2.b2 (N:=λds l=>cH c n sc loc elt ifs x (a::as) led ds l) (uF W elt ifs x loc a led) λo l1=>R2.b2 (uN W elt ifs x loc as l1) λds l2=>Eu o ds l2 λhr hs=>⟨o,l1,ds,hs,hr,rfl⟩
   exact h
theorem ze {k:Int} (h:vn k=true):k=0:=by
 cases k with
 | ofNat k=>exact congrArg Int.ofNat (Nat.eq_of_beq_eq_true h)
 | negSucc _=>exact ftE h
theorem xK {g:Comprehension} {q:Str×Expr×List Expr} (h:FW g=some q):∃px,g=⟨.Name q.1 px,q.2.1,q.2.2,0⟩:=bE h λx hx h=>tE h λhk h=>sE h ((D4 hx).imp λpx z=>by
 cases g with
 | mk t it ifs k=>rw[show t= .Name x px from z,show k=0 from ze hk])
theorem qF {w0 w:XEv} {g:Eng} {sc:Scope} (W0:Bd g.c g.n g.sc w0) (W:Bd g.c g.n sc w) (elt:Expr) (gens:List Comprehension) (loc:Loc) (led:Led):R2 (n6 g w0 w elt gens sc loc led) λds l=>Ex g.c g.n g.sc loc (.ListComp elt gens sc pos) led (.v (.list ds)) l:=by
 have h:=R1.b2 (N:=λds l=>Ex g.c g.n g.sc loc (.ListComp elt gens sc pos) led (.v (.list ds)) l) (R1.opt (o:=(one? gens).bind FW)) λq=>R2.sure (c:=cp g.sc sc q.1) λhC=>R2.b2 (uH (W0 loc) q.2.1 led) λas l1=>R2.imp (yo (led:=l1) (uN W elt q.2.2 q.1 loc as l1)) λds l h hi hq=>bE hq λgn h1 hq=>(xK hq).elim λpx z=>by
  rw[rm h1,z]
  exact C6 h.1 h.2 hi hC
 exact h
theorem s9:∀(k:Nat) (g:Eng),EOk g→Bd g.c g.n g.sc (xE k g)
 | 0,g,H,loc,e,led=>R2.no
 | k+1,g,H,loc,e,led=>by
   have W:XOk g.c g.n g.sc loc (λe l R=>xE k g e loc l R):=λe led=>s9 k g H loc e led
   cases e with
   | Constant v i ps=>cases v with
     | none=>exact R2.pure (M2:=λa l=>Ex g.c g.n g.sc loc (.Constant .none i ps) led a l) (.of rfl CK)
     | bool b=>exact R2.pure (M2:=λa l=>Ex g.c g.n g.sc loc (.Constant (.bool b) i ps) led a l) (.of rfl CS)
     | int j=>exact R2.pure (M2:=λa l=>Ex g.c g.n g.sc loc (.Constant (.int j) i ps) led a l) (.of rfl FR)
     | str s=>exact R2.pure (M2:=λa l=>Ex g.c g.n g.sc loc (.Constant (.str s) i ps) led a l) (.of rfl FP)
     | bytes b=>exact R2.pure (M2:=λa l=>Ex g.c g.n g.sc loc (.Constant (.bytes b) i ps) led a l) (.of rfl FT)
     | _=>exact R2.no
   | Name x ps=>
     have h:=R1.b2 (N:=λa l=>Ex g.c g.n g.sc loc (.Name x ps) led a l) (R1.opt (o:=nameOf g.sc x loc)) λa=>R2.pure (a:=a) (b:=led) λh=> .of rfl (CM h)
     exact h
   | BinOp l op r ps=>
     have h:=R2.b2 (N:=λa l1=>Ex g.c g.n g.sc loc (.BinOp l op r ps) led a l1) (W l led) λp l1=>R2.b2 (W r l1) λq l2=>R1.b2 (R1.bB (on:=isRef p) (sel:=adV) (o:=view l2 p)) λx=>R1.b2 (R1.bB (on:=isRef q) (sel:=adV) (o:=view l2 q)) λy=>R1.b2 (EC op x y) λd=>R2.pure (a:=AV.v d) (b:=l2) λhd hy hx hr hl=> .of rfl (zZ hd hy hx hr hl)
     exact h
   | UnaryOp op x ps=>cases op with
     | USub=>
       have h:=R2.b2 (N:=λa l1=>Ex g.c g.n g.sc loc (.UnaryOp .USub x ps) led a l1) (W x led) λp l1=>R1.b2 (R1.opt (o:=bX p)) λi=>R2.pure (a:=AV.v (.int (-i))) (b:=l1) λhi hx=> .of rfl (FQ hi hx)
       exact h
     | _=>exact R2.no
   | IfExp t b o ps=>
     have h:=yq (led:=led) (R2.b2 (N:=λa l1=>Ex g.c g.n g.sc loc (.IfExp t b o ps) led a l1) (pb W t led) λr l1=>R2.pick (c:=r) (R2.imp (W b l1) λa l h q hb=>D8 (λ_=>h) (λz=>tf q z) hb) (R2.imp (W o l1) λa l h q hb=>D8 (λz=>tf z q) (λ_=>h) hb))
     exact h
   | BoolOp op es ps=>
     have h:=R2.b2 (N:=λa l1=>Ex g.c g.n g.sc loc (.BoolOp op es ps) led a l1) (ph W op es led) λb l1=>R2.pure (a:=AV.v (.bool b)) (b:=l1) λh=>C7 h
     exact h
   | Compare l ops rs ps=>
     have h:=R2.either (c:=lastMarks ops rs) (M2:=λa l1=>Ex g.c g.n g.sc loc (.Compare l ops rs ps) led a l1) (λ_=>R2.no) λhm=>R2.b2 (W l led) λp l1=>R2.b2 (qH W p ops rs l1) λb l2=>R2.pure (a:=AV.v (.bool b)) (b:=l2) λh he=>Gd h he hm
     exact h
   | Call f args kws ps=>cases f with
     | Attribute o x apos=>cases kws with
       | nil=>
         have h:=R2.sure (c:=eU args&&Nat.beq apos.endLine ps.line&&bare o) (M2:=λa l1=>Ex g.c g.n g.sc loc (.Call (.Attribute o x apos) args [] ps) led a l1) λh=>R2.b2 (W o led) λp l1=>R1.b2 (R1.bB (on:=isRef p) (sel:=adK) (o:=kJ l1 p)) λkd=>R2.b2 (Ey W args l1) λvs l2=>R2.imp (Bu g H kd p x vs l2) λa l C E hk ho=>aE h λh hb=>aE h λhf hp=> .of rfl (C E hk ho hb hp hf)
         exact h
       | cons _ _=>exact R2.no
     | Name x p0=>cases kws with
       | nil=>
         have h:=R2.sure (c:=cv g.sc loc x&&eU args) (M2:=λa l1=>Ex g.c g.n g.sc loc (.Call (.Name x p0) args [] ps) led a l1) λh=>R2.b2 (Ey W args led) λvs l1=>R2.imp (Bn g H x vs l1) λa l C E=>aE h λht hf=> .of rfl (C E ht)
         exact h
       | cons _ _=>exact R2.no
     | _=>exact R2.no
   | Attribute o x ps=>
     have h:=R2.sure (c:=bare o) (M2:=λa l1=>Ex g.c g.n g.sc loc (.Attribute o x ps) led a l1) λhb=>R2.b2 (W o led) λp l1=>R1.b2 (R1.bB (on:=isRef p) (sel:=adA) (o:=g5 l1 x p)) λa=>R2.pure (a:=a) (b:=l1) λh ho=> .of rfl (CT h hb ho)
     exact h
   | Subscript o s ps=>
     have h:=R2.b2 (N:=λa l1=>Ex g.c g.n g.sc loc (.Subscript o s ps) led a l1) (W o led) λp l1=>R2.imp (Eo W p s l1) λa l H ho=> .of rfl (H ho)
     exact h
   | List es ps=>
     have h:=R2.b2 (N:=λa l1=>Ex g.c g.n g.sc loc (.List es ps) led a l1) (Bq W es led) λds l1=>R2.sure (c:=fits ds.length) λhf=>R2.pure (a:=AV.v (.list ds)) (b:=l1) λh=> .of rfl (CO hf h)
     exact h
   | Tuple es i ps=>
     have h:=R2.b2 (N:=λa l1=>Ex g.c g.n g.sc loc (.Tuple es i ps) led a l1) (Bq W es led) λds l1=>R2.sure (c:=fits ds.length) λhf=>R2.pure (a:=AV.v (.tup ds)) (b:=l1) λh=> .of rfl (FO hf h)
     exact h
   | Dict ks vs ps=>
     have h:=R2.b2 (N:=λa l1=>Ex g.c g.n g.sc loc (.Dict ks vs ps) led a l1) (uM W ks vs led) λl l1=>R2.sure (c:=et l&&Nat.ble l.length 15) λhd=>R2.pure (a:=AV.v (.dict l)) (b:=l1) λh=> .of rfl (CQ hd h)
     exact h
   | ListComp elt gens sc ps=>
     have h:=R2.b2 (N:=λa l1=>Ex g.c g.n g.sc loc (.ListComp elt gens sc ps) led a l1) (qF (pos:=ps) (s9 k g H) (s9 k {g with sc:=sc} H) elt gens loc led) λds l1=>R2.pure (a:=AV.v (.list ds)) (b:=l1) λh=>h
     exact h
   | _=>exact R2.no
end
end Mine
end
section
open PySem
namespace Mine
noncomputable abbrev ux (c:Cx) (n:Nat) (sc:Scope) (w:XLv):Prop:=∀loc e led,R2 (w loc e led) λa l=>Ex c n sc loc e led a l
section
variable {c:Cx} {n m i:Nat} {sc sc0:Scope} {loc l1 l2:Loc} {led led' led₁ led₂ led₃:Led} {d y z:D} {x:Str} {pos p0 apos:Pos} {e el er o t:Expr} {es args ts:List Expr} {a b p q:AV} {as vs:List AV} {ds:List D} {w:XE} {body:List Stmt}
theorem Bv (x y:D):R1 (DK x y) λl=>∃xs ys,x= .list xs∧y= .list ys∧fits (xs.length+ys.length)=true∧l=xs++ys:=by
 cases x with
 | list a=>cases y with
   | list b=>exact R1.cy (R1.pure λhf=>⟨a,b,rfl,rfl,hf,rfl⟩)
   | _=>exact R1.no
 | _=>exact R1.no
theorem Br (d p q:D):R1 (DG d p q) λr=>∃l,d= .list l∧cut l p q=some r:=by
 cases d with
 | list l=>exact R1.imp (yi l p q) λr h=>⟨l,rfl,h⟩
 | _=>exact R1.no
theorem FK {op:Operator} (h:isAdd op=true):op= .Add:=by
 cases op with
 | Add=>rfl
 | _=>exact ftE h
theorem wK (W:XOk c n sc loc w) (o:Expr) (lo hi st:Option Expr) (led:Led):R2 (uJ w o lo hi st led) λr l'=>∀{p2 ps},FreR c n sc loc (.Subscript o (.Slice lo hi st p2) ps) led r l':=by
 cases st with
 | none=>
   have h:=R2.b2 (N:=λr l'=>∀{p2 ps},FreR c n sc loc (.Subscript o (.Slice lo hi none p2) ps) led r l') (W o led) λp l1=>R2.b2 (pf W lo l1) λq l2=>R2.b2 (pf W hi l2) λr l3=>R1.b2 (R1.bB (on:=isRef p) (sel:=adV) (o:=view l3 p)) λd=>R1.b2 (Br d q r) λl=>R2.pure (a:=LO.list l) (b:=l3) λh hz hh hl ho _ _=>h.elim λxs h=>Am h.2 (hz.trans (congrArg some h.1)) hh hl ho
   exact h
 | some _=>exact R2.no
theorem wL (x:Str) (as:List Expr) (led:Led):R2 (λQ=>uK sc loc led Q x as) λo l=>∀{p0 pos},FreR c n sc loc (.Call (.Name x p0) as [] pos) led o l:=by
 cases as with
 | nil=>
   have h:=R2.sure (c:=cv sc loc x&&eqS x "bytearray") (M2:=λo l=>∀{p0 pos},FreR c n sc loc (.Call (.Name x p0) [] [] pos) led o l) λh=>R2.pure (a:=LO.byt []) (b:=led) (aE h λht hx=>FX (aG.mp hx▸by kernel_rfl) ht)
   exact h
 | cons _ _=>exact R2.no
theorem qG (W:XOk c n sc loc w) (e:Expr) (led:Led):R2 (s8 sc loc w e led) λo l=>FreR c n sc loc e led o l:=by
 cases e with
 | List es ps=>
   have h:=R2.b2 (N:=λo l=>FreR c n sc loc (.List es ps) led o l) (Bq W es led) λds l1=>R2.sure (c:=fits ds.length) λhf=>R2.pure (a:=LO.list ds) (b:=l1) λh=>C0 hf h
   exact h
 | Dict ks vs ps=>cases ks with
   | nil=>cases vs with
     | nil=>exact R2.pure (M2:=λo l=>FreR c n sc loc (.Dict [] [] ps) led o l) C1
     | cons _ _=>exact R2.no
   | cons _ _=>exact R2.no
 | BinOp l op r ps=>
   have h:=R2.sure (c:=isAdd op) (M2:=λo l'=>FreR c n sc loc (.BinOp l op r ps) led o l') λha=>R2.b2 (W l led) λp l1=>R2.b2 (W r l1) λq l2=>R1.b2 (R1.bB (on:=isRef p) (sel:=adV) (o:=view l2 p)) λx=>R1.b2 (R1.bB (on:=isRef q) (sel:=adV) (o:=view l2 q)) λy=>R1.b2 (Bv x y) λr=>R2.pure (a:=LO.list r) (b:=l2) λh hy hx hr hl=>h.elim λxs h=>h.elim λys h=>FK ha▸h.2.2.2▸FY h.2.2.1 (hy.trans (congrArg some h.2.1)) (hx.trans (congrArg some h.1)) hr hl
   exact h
 | Subscript o s ps=>
   have h:=R1.b2 (N:=λr l'=>FreR c n sc loc (.Subscript o s ps) led r l') (R1.opt (o:=ij s)) λq=>R2.imp (wK W o q.1 q.2.1 q.2.2 led) λr l h hs=>(yV hs).elim λp2 z=>z▸h
   exact h
 | Call f as ks ps=>
   have h:=R1.b2 (N:=λo l=>FreR c n sc loc (.Call f as ks ps) led o l) (R1.opt (o:=nk (.Call f as ks ps))) λq=>R2.imp (wL q.1 q.2 led) λr l h hs=>(uo hs).elim λp0 z=>z.elim λpos z=>z▸h
   exact h
 | _=>exact R2.no
theorem lJ {g:Eng} (W:XOk g.c g.n g.sc loc w):∀ts es led,R2 (pe g loc w ts es led) λas l=>g6 g.c g.n g.sc loc es led as l
 | [],[],led=>R2.pure Fe
 | [],_::_,led=>R2.no
 | _::_,[],led=>R2.no
 | t::ts,e::es,led=>by
   have h:=R2.either (c:=inPlace g t) (M2:=λas l=>g6 g.c g.n g.sc loc (e::es) led as l) (λ_=>R2.b2 (qG W e led) λo l1=>R2.b2 (lJ W ts es (l1++[o])) λas l2=>R2.pure (a:=AV.r l1.length::as) (b:=l2) λhs he=>y7 hs he)
    λ_=>R2.b2 (W e led) λa l1=>R2.b2 (lJ W ts es l1) λas l2=>R2.pure (a:=a::as) (b:=l2) λhs he=>pt_ex hs he
   exact h
theorem Bk (ob:LO):R2 (DA x i a loc led₁ ob) λl1 led1=>led₁[i]? =some ob→Ex c n sc loc o led (.r i) led₁→StoR c n sc (.Attribute o x pos) a loc led l1 led1:=by
 cases ob with
 | obj k fs=>exact R2.sure λhf=>R2.pure (M2:=λl1 led1=>led₁[i]? =some (.obj k fs)→Ex c n sc loc o led (.r i) led₁→StoR c n sc (.Attribute o x pos) a loc led l1 led1) λhq ho=>yP hf hq ho
 | _=>exact R2.no
theorem Et (p:AV):R2 (xPut x p a loc led₁) λl1 led1=>Ex c n sc loc o led p led₁→StoR c n sc (.Attribute o x pos) a loc led l1 led1:=by
 cases p with
 | v _=>exact R2.no
 | r i=>
   have h:=R1.b2 (N:=λl1 led1=>Ex c n sc loc o led (.r i) led₁→StoR c n sc (.Attribute o x pos) a loc led l1 led1) (R1.bB (on:=true) (sel:=adO) (o:=led₁[i]?)) λob=>Bk ob
   exact h
theorem Bj {k:Int} (ob:LO):R2 (Dz i k d loc led₂ ob) λl1 led1=>led₂[i]? =some ob→bX q=some k→Ex c n sc loc el led₁ q led₂→Ex c n sc loc o led (.r i) led₁→StoR c n sc (.Subscript o el pos) (.v d) loc led l1 led1:=by
 cases ob with
 | list xs=>
   have h:=R1.b2 (N:=λl1 led1=>led₂[i]? =some (.list xs)→bX q=some k→Ex c n sc loc el led₁ q led₂→Ex c n sc loc o led (.r i) led₁→StoR c n sc (.Subscript o el pos) (.v d) loc led l1 led1) (R1.bB (on:=true) (sel:=adN) (o:=nat? k)) λj=>R2.cy (c:=Nat.blt j xs.length&&fits j) (R2.pure (a:=loc) (b:=put led₂ i (.list (List.set xs j d))) λhlt hj hq hk hi ho=>yN hlt hj hq hk hi ho)
   exact h
 | dict l=>
   have h:=R2.cy (c:=fits l.length) (M2:=λl1 led1=>led₂[i]? =some (.dict l)→bX q=some k→Ex c n sc loc el led₁ q led₂→Ex c n sc loc o led (.r i) led₁→StoR c n sc (.Subscript o el pos) (.v d) loc led l1 led1) (R2.pure (a:=loc) (b:=put led₂ i (.dict (dz l k d))) λhf hq hk hi ho=>yO hf hq hk hi ho)
   exact h
 | _=>exact R2.no
theorem Es {k:Int} (p:AV):R2 (xSet p k d loc led₂) λl1 led1=>bX q=some k→Ex c n sc loc el led₁ q led₂→Ex c n sc loc o led p led₁→StoR c n sc (.Subscript o el pos) (.v d) loc led l1 led1:=by
 cases p with
 | v _=>exact R2.no
 | r i=>
   have h:=R1.b2 (N:=λl1 led1=>bX q=some k→Ex c n sc loc el led₁ q led₂→Ex c n sc loc o led (.r i) led₁→StoR c n sc (.Subscript o el pos) (.v d) loc led l1 led1) (R1.bB (on:=true) (sel:=adO) (o:=led₂[i]?)) λob=>Bj ob
   exact h
variable {wl:XLv}
theorem wJ (W:ux c n sc wl) (o i:Expr) (a:AV) (loc:Loc) (led:Led):R2 (uE wl o i a loc led) λl1 led1=>StoR c n sc (.Subscript o i pos) a loc led l1 led1:=by
 have h:=R2.b2 (N:=λl1 led1=>StoR c n sc (.Subscript o i pos) a loc led l1 led1) (W loc o led) λp l1=>R2.b2 (W loc i l1) λq l2=>R1.b2 (R1.opt (o:=bX q)) λk=>R1.b2 (R1.opt (o:=bY a)) λd=>R2.imp (Es (k:=k) p) λl1 led1 H hd hk hi ho=>by
  rw[jB hd]
  exact H hk hi ho
 exact h
theorem lI (W:ux c n sc wl) (t:Expr) (a:AV) (loc:Loc) (led:Led):R2 (pd sc wl t a loc led) λl1 led1=>StoR c n sc t a loc led l1 led1:=by
 cases t with
 | Name x ps=>exact R2.sure λho=>λQ ad ac h P k=>k (set loc x a) led ad ac (Eq.mp (congrFun (congrFun (pB (k:=λl=>Q l led)) ad) ac) h) λz=>⟨z,yM ho⟩
 | Attribute o x ps=>
   have h:=R2.b2 (N:=λl1 led1=>StoR c n sc (.Attribute o x ps) a loc led l1 led1) (W loc o led) λp l1=>Et p
   exact h
 | Subscript o s ps=>exact wJ W o s a loc led
 | _=>exact R2.no
theorem hM (W:ux c n sc wl):∀ts as loc led,R2 (jd sc wl ts as loc led) λl1 led1=>StosR c n sc ts as loc led l1 led1
 | [],[],loc,led=>R2.pure yK
 | [],_::_,loc,led=>R2.no
 | _::_,[],loc,led=>R2.no
 | t::ts,a::as,loc,led=>by
   have h:=R2.b2 (N:=λl1 led1=>StosR c n sc (t::ts) (a::as) loc led l1 led1) (lI W t a loc led) λpO l1=>R2.imp (hM W ts as pO l1) λl2 bT hr h=>wV hr h
   exact h
theorem n7 (W:ux c n sc wl) (t:Expr) (a:AV) (loc:Loc) (led:Led):R2 (kY sc wl t a loc led) λl1 led1=>StoR c n sc t a loc led l1 led1:=by
 unfold kY
 cases h:d4 t with
 | none=>exact lI W t a loc led
 | some ts=>
   exact(qQ h).elim λk z=>z.elim λps z=>by
          rw[z]
          have h:=R1.b2 (N:=λl1 led1=>StoR c n sc (.Tuple ts k ps) a loc led l1 led1) (R1.opt (o:=parts a)) λas=>R2.imp (hM W ts as loc led) λl1 led1 h ha=>BA h ha
          exact h
theorem n8 (W:ux c n sc wl) (t:Expr) (i:It) (loc:Loc) (led:Led):R2 (kZ sc wl t i loc led) λl1 led1=>sW c n sc t i loc led l1 led1:=by
 cases i with
 | one a=>exact R2.imp (n7 W t a loc led) λ_ _ h=>A6 h
 | two a b=>
   have h:=R1.b2 (N:=λl1 led1=>sW c n sc t (.two a b) loc led l1 led1) (R1.opt (o:=d4 t)) λts=>R2.imp (hM W ts [a,b] loc led) λl1 led1 h ht=>(qQ ht).elim λk z=>z.elim λps z=>z▸A4 h
   exact h
theorem sX {as:List Expr} {x:Str} {q:Str×Expr×Option Expr} (h:Dv as x=some q):q.1=x∧as=q.2.1::q.2.2.toList:=by
 rcases as with _ | ⟨a,_ | ⟨b,_ | _⟩⟩<;>first | exact nE h | exact sE h ⟨rfl,rfl⟩
theorem xM {q:Str×Expr×Option Expr} (h:F8 e=some q):∃px pos,e= .Call (.Name q.1 px) (q.2.1::q.2.2.toList) [] pos:=bE h λr hr h=>(uo hr).imp λpx z=>z.imp λpos z=>have w:=sX (as:=r.2) (x:=r.1) h;by rw[z,w.1,w.2]
theorem uL (W:XOk c n sc loc w) (t e:Expr) (led:Led):R2 (yf sc loc w e led) λits l=>ForR c n sc loc t e led its l:=by
 have h:=R2.b2 (N:=λits l=>ForR c n sc loc t e led its l) (uH W e led) λas l1=>R2.pure (a:=as.map It.one) (b:=l1) λh=>F7 h
 exact h
theorem Bp (W:XOk c n sc loc w) (t e:Expr) (led:Led):R2 (yg sc loc w t e led) λits l=>ForR c n sc loc t e led its l:=by
 unfold yg
 cases h:F8 e with
 | none=>exact uL W t e led
 | some q=>
   refine cF λGG gg=>?_
   obtain⟨x,a,b⟩:=q
   refine gg ?_
   have E:=xM h
   cases b with
   | some b=>
     have g:=R2.sure (c:=eqS x "zip"&&cv sc loc x&&bG t) (M2:=λits l=>ForR c n sc loc t e led its l) λhc=>R2.b2 (W a led) λp l1=>R2.sure (c:=dh l1 p) λhl=>R2.b2 (R2.nQ (p:=p) (led:=l1)) λq l2=>R2.b2 (W b l2) λr l3=>R2.sure (c:=dh l3 r || pT r) λhl2=>R2.b2 (R2.nQ (p:=r) (led:=l3)) λs l4=>R2.pure (a:=gC q s) (b:=l4) λh4 hb h2 ha=>E.elim λpx z=>z.elim λpos z=>z▸C2 h4 hl2 hb h2 hl ha hc
     exact g
   | none=>
     have g:=R2.either (c:=eqS x "enumerate") (M2:=λits l=>ForR c n sc loc t e led its l) (λhx=>R2.sure (c:=cv sc loc x&&bG t) λhc=>R2.b2 (W a led) λp l1=>R2.sure (c:=dh l1 p) λhl=>R2.b2 (R2.nQ (p:=p) (led:=l1)) λq l2=>R2.pure (a:=gw 0 q) (b:=l2) λh2 ha=>E.elim λpx z=>z.elim λpos z=>z▸Ao h2 hl ha hc hx) λ_=>uL W t e led
     exact g
theorem lH {step:It→Loc→Led→QS→Ans} (S:∀i loc led,R3 (step i loc led) λf l1 led1=>bA c n sc t body i loc led f l1 led1):∀is loc led,R3 (o9 step is loc led) λf l1 led1=>bf c n sc t body is loc led f l1 led1
 | [],loc,led=>R3.pure ⟨rfl,λ_ _ e=>e,rfl⟩
 | i::is,loc,led=>by
   have go:∀f loc' l1,R3 (xTn (o9 step is) f loc' l1) λf' l2 bT=>bA c n sc t body i loc led f loc' l1→bf c n sc t body (i::is) loc led f' l2 bT:=λf loc' l1=>by
    cases f with
    | ret a=>exact R3.pure (M3:=λf' l2 bT=>bA c n sc t body i loc led (.ret a) loc' l1→bf c n sc t body (i::is) loc led f' l2 bT) λh=>⟨.ret a,loc',l1,h,rfl,λ_ _ e=>e,rfl⟩
    | next=>exact R3.imp (lH S is loc' l1) λf' l2 bT h hT=>⟨.next,loc',l1,hT,h⟩
    | cont=>exact R3.imp (lH S is loc' l1) λf' l2 bT h hT=>⟨.cont,loc',l1,hT,h⟩
   have h:=R3.b3 (N:=λf l1 led1=>bf c n sc t body (i::is) loc led f l1 led1) (S i loc led) go
   exact h
theorem Bl {P:Prop} {st:Stmt} (a:AV) (loc:Loc) (l1:Led) (h:a= .v .none→P→StR c n sc st loc led .next loc l1):R3 (DB a loc l1) λf l2 bT=>P→StR c n sc st loc led f l2 bT:=by
 cases a with
 | r _=>exact R3.no
 | v d=>cases d with
   | none=>exact R3.pure (M3:=λf l2 bT=>P→StR c n sc st loc led f l2 bT) (h rfl)
   | _=>exact R3.no
theorem ED (op:Operator) (a b:D):R1 (xAug op a b) λd=>∃i j,op= .Add∧a= .int i∧b= .int j∧d= .int (i+j):=by
 cases op with
 | Add=>cases a with
   | int i=>cases b with
     | int j=>exact R1.pure ⟨i,j,rfl,rfl,rfl,rfl⟩
     | _=>exact R1.no
   | _=>exact R1.no
 | _=>exact R1.no
theorem EX {M3:Fl→Loc→Led→Prop} (h:M3 .next (set loc x a) led):R3 (λQ=>w4 loc x a λl=>Q .next l led) M3:=λQ ad ac q P k=>k .next (set loc x a) led ad ac (Eq.mp (congrFun (congrFun (pB (k:=λl=>Q .next l led)) ad) ac) q) λz=>⟨z,h⟩
theorem xFl_s {g:Eng} {k:Nat} {st:Stmt} {r:List Stmt} (S:∀loc led,R3 (xSs g k r loc led) λf l1 led1=>SsR g.c g.n g.sc r loc led f l1 led1) (f:Fl) (loc':Loc) (l1:Led):R3 (xFl (xSs g k r) f loc' l1) λf' l2 bT=>StR g.c g.n g.sc st loc led f loc' l1→SsR g.c g.n g.sc (st::r) loc led f' l2 bT:=by
 cases f with
 | ret a=>exact R3.pure (M3:=λf' l2 bT=>StR g.c g.n g.sc st loc led (.ret a) loc' l1→SsR g.c g.n g.sc (st::r) loc led f' l2 bT) λh=>EU h
 | next=>exact R3.imp (S loc' l1) λf' l2 bT h hs=>BH h hs
 | cont=>exact R3.pure (M3:=λf' l2 bT=>StR g.c g.n g.sc st loc led .cont loc' l1→SsR g.c g.n g.sc (st::r) loc led f' l2 bT) λh=>BI h
theorem rQ {i:Int} (h:bY a=some (.int i)):bX a=some i:=by rw[jB h];rfl
theorem EE {g:Eng} (W:ux g.c g.n g.sc wl) (t e:Expr) (loc:Loc) (led:Led):R3 (EF g wl t e loc led) λfl l1 led1=>StR g.c g.n g.sc (.Assign [t] e pos) loc led fl l1 led1:=by
 unfold EF
 cases h:(bG t&&bG e)with
 | false=>
   have h:=R3.either (c:=inPlace g t) (M3:=λfl l1 led1=>StR g.c g.n g.sc (.Assign [t] e pos) loc led fl l1 led1) (λ_=>R2.b3 (qG (W loc) e led) λo l1=>R2.b3 (lI W t (.r l1.length) loc (l1++[o])) λloc l2=>R3.pure (a:=Fl.next) (b:=loc) (d:=l2) λh1 he=>yR h h1 he)
    λ_=>R2.b3 (W loc e led) λa l1=>R2.b3 (n7 W t a loc l1) λloc l2=>R3.pure (a:=Fl.next) (b:=loc) (d:=l2) λh1 he=>wW h h1 he
   exact h
 | true=>
   have h:=R1.b3 (M:=λts=>d4 t=some ts) (N:=λfl l1 led1=>StR g.c g.n g.sc (.Assign [t] e pos) loc led fl l1 led1) R1.opt λts=>R1.b3 (M:=λes=>d4 e=some es) R1.opt λes=>R3.sure (c:=fQ es) λhpl=>R2.b3 (lJ (W loc) ts es led) λas l1=>R2.b3 (hM W ts as loc l1) λloc l2=>R3.pure (a:=Fl.next) (b:=loc) (d:=l2) λh hp he ht=>
    (qQ ht).elim λk1 z=>z.elim λp1 z=>(qQ he).elim λk2 y=>y.elim λp2 y=>by rw[z,y];exact ER h hp hpl
   exact h
theorem uG (g:Eng) (H:EOk g):∀k,(∀st loc led,R3 (xS g k st loc led) λf l1 led1=>StR g.c g.n g.sc st loc led f l1 led1)∧∀l loc led,R3 (xSs g k l loc led) λf l1 led1=>SsR g.c g.n g.sc l loc led f l1 led1
 | 0=>⟨λ_ _ _=>R3.no,λ_ _ _=>R3.no⟩
 | k+1=>by
   have ih:=uG g H k
   have Wl:ux g.c g.n g.sc (λloc e l R=>xE k g e loc l R):=λloc e led=>s9 k g H loc e led
   refine⟨λst loc led=>?_,λl loc led=>?_⟩
   · have W:XOk g.c g.n g.sc loc (λe l R=>xE k g e loc l R):=Wl loc
     cases st with
     | Expr e ps=>
        have h:=R3.sure (c:=Nat.beq (bK e) 3) (M3:=λfl l1 led1=>StR g.c g.n g.sc (.Expr e ps) loc led fl l1 led1) λhk=>R2.b3 (W e led) λa l1=>Bl a loc l1 λq he=>BE (Nat.eq_of_beq_eq_true hk) (q▸he)
        exact h
     | Return o ps=>cases o with
       | some e=>
         have h:=R2.b3 (N:=λfl l1 led1=>StR g.c g.n g.sc (.Return (some e) ps) loc led fl l1 led1) (W e led) λa l1=>R3.pure (a:=Fl.ret a) (b:=loc) (d:=l1) λhe=>ES he
         exact h
       | none=>exact R3.pure (M3:=λfl l1 led1=>StR g.c g.n g.sc (.Return none ps) loc led fl l1 led1) BD
     | Continue ps=>exact R3.pure (M3:=λfl l1 led1=>StR g.c g.n g.sc (.Continue ps) loc led fl l1 led1) BG
     | Assign tl e ps=>cases tl with
       | nil=>exact R3.no
       | cons t r=>cases r with
         | cons _ _=>exact R3.no
         | nil=>exact EE Wl t e loc led
     | AugAssign t op e ps=>
        have h:=R1.b3 (N:=λfl l1 led1=>StR g.c g.n g.sc (.AugAssign t op e ps) loc led fl l1 led1) (R1.opt (o:=asName t)) λx=>R1.b3 (R1.opt (o:=get loc x)) λo=>R3.sure (c:=iF g.sc x) λho=>R1.b3 (R1.opt (o:=bY o)) λa=>R2.b3 (W e led) λb l1=>R1.b3 (R1.opt (o:=bY b)) λb'=>R1.b3 (ED op a b') λd=>EX (loc:=loc) (x:=x) (a:= .v d) (led:=l1) λz hb he ha hx hn=>(D4 hn).elim λpx y=>z.elim λi z=>z.elim λj z=>by
         rw[y,z.1,z.2.2.2]
         rw[z.2.1]at ha
         rw[z.2.2.1]at hb
         exact ET (rQ hb) he (rQ ha) ho hx
        exact h
     | If t b o ps=>
       have h:=qI (sel:=adX) (R2.b3 (N:=λfl l1 led1=>StR g.c g.n g.sc (.If t b o ps) loc led fl l1 led1) (pb W t led) λr l1=>R3.pick (c:=r) (R3.imp (ih.2 b loc l1) λf l2 bT h q hb=>DU (λ_=>h) (λz=>tf q z) hb) (R3.imp (ih.2 o loc l1) λf l2 bT h q hb=>DU (λz=>tf z q) (λ_=>h) hb))
       exact h
     | For t it body els ps=>cases els with
       | cons _ _=>exact R3.no
       | nil=>
         have S:∀i loc led,R3 (λR=>kZ g.sc (λloc e l R=>xE k g e loc l R) t i loc led λloc l2=>xSs g k body loc l2 R) λf l1 led1=>bA g.c g.n g.sc t body i loc led f l1 led1:=λi loc led=>R2.b3 (n8 Wl t i loc led) λpO l1=>R3.imp (ih.2 body pO l1) λf l2 bT hb h=>uV hb h
         have h:=R2.b3 (N:=λfl l1 led1=>StR g.c g.n g.sc (.For t it body [] ps) loc led fl l1 led1) (Bp W t it led) λis l1=>R3.imp (qI (sel:=adW) (lH S is loc l1)) λf l2 bT h hf=>FZ h hf
         exact h
     | _=>exact R3.no
   · cases l with
     | nil=>exact R3.pure (M3:=λf l1 led1=>SsR g.c g.n g.sc [] loc led f l1 led1) EV
     | cons st r=>
       have h:=R3.b3 (N:=λf l1 led1=>SsR g.c g.n g.sc (st::r) loc led f l1 led1) (ih.1 st loc led) λf loc' l1=>xFl_s (ih.2 r) f loc' l1
       exact h
end
end Mine
end
section
open PySem
namespace Mine
noncomputable def tell (p:Prop):Ans:=λ_ ac=>ac∧p
noncomputable def endF (Q:QA) (f:Fl) (l:Led):Ans:=match f with
 | .ret a=>Q a l
 | .next=>Q (.v .none) l
 | .cont=>no
noncomputable def e7 (g:Eng) (d:Df) (args:List AV) (led:Led) (Q:QA):Ans:=opt (wH d.params args) λloc=>xSs g fuel d.body loc led λf _ l=>endF Q f l
noncomputable def Bm (a:AV) (Q:Ans):Ans:=match a with
 | .v d=>(match d with
   | .none=>Q
   | _=>no)
 | .r _=>no
noncomputable def s7 (c:Cx):Nat→Str→List AV→Led→QA→Ans
 | 0,_,_,_,_=>no
 | n+1,x,vs,led,Q=>opt (get tab x) λf=>match f with
   | .pure d mt=>rj (bH vs led) λds l1=>e7 ⟨c,n,mt,d.sc,s7 c n⟩ d (ds.map .v) [] λa l=>nH a l λr _=>Q (.v r) l1
   | .cls y d mt=>rj (bH vs led) λds l1=>e7 ⟨c,n,mt,d.sc,s7 c n⟩ d (.r 0::ds.map .v) [.obj y []] λa l=>Bm a (nH (.r 0) l λr _=>Q (.v r) l1)
   | _=>no
noncomputable abbrev g0w (c:Cx) (n:Nat) (mt:List Str) (d:Df):Eng:=⟨c,n,mt,d.sc,s7 c n⟩
noncomputable def cQ (c:Cx) (n:Nat) (mt:List Str) (d:Df) (ds:List D) (Q:D→Led→Ans):Ans:=e7 (g0w c n mt d) d (ds.map .v) [] λa l=>nH a l Q
noncomputable def DE (c:Cx) (n:Nat) (mt:List Str) (x:Str) (d:Df) (ds:List D) (Q:D→Led→Ans):Ans:=e7 (g0w c n mt d) d (.r 0::ds.map .v) [.obj x []] λa l=>Bm a (nH (.r 0) l Q)
noncomputable def Dw (g:Eng) (k:Nat) (t:Expr) (body:List Stmt) (i:It) (loc:Loc) (led:Led) (R:QS):Ans:=kZ g.sc (λloc e l R=>xE k g e loc l R) t i loc led λloc l2=>xSs g k body loc l2 R
noncomputable def bF (s:Stmt):Expr:=match s with
 | .For t _ _ _ _=>t
 | _=> .Tuple [] 0 ⟨0,0,0,0⟩
noncomputable def bu (s:Stmt):List Stmt:=match s with
 | .For _ _ b _ _=>b
 | _=>[]
noncomputable def ifB (s:Stmt):List Stmt:=match s with
 | .If _ b _ _=>b
 | _=>[]
noncomputable def stB (l:List Stmt) (i:Nat):Stmt:=l.getD i (.Pass ⟨0,0,0,0⟩)
noncomputable def asE (s:Stmt):Expr:=match s with
 | .Assign _ e _=>e
 | _=> .Tuple [] 0 ⟨0,0,0,0⟩
noncomputable def opR (e:Expr):Expr:=match e with
 | .BinOp _ _ r _=>r
 | e=>e
section
variable {c:Cx} {n k:Nat} {g:Eng} {loc l1 l2:Loc} {led led1 led':Led} {d:Df} {mt:List Str} {x:Str} {args:List AV} {ds:List D} {res:D} {a:AV} {t e elt:Expr} {body:List Stmt} {i:It} {f:Fl} {ifs:List Expr} {sc:Scope} {s:Stmt}
theorem Gg {fl:Fl} (led:Led):R2 (λQ=>endF Q fl led) λa l=>Gi fl=some a∧l=led:=by
 cases fl with
 | ret a=>exact R2.pure ⟨rfl,rfl⟩
 | next=>exact R2.pure ⟨rfl,rfl⟩
 | cont=>exact R2.no
theorem fK (g:Eng) (H:EOk g) (d:Df) (h:g.sc=d.sc) (args:List AV) (led:Led):R2 (e7 g d args led) λa l=>fJ g.c g.n d args led a l:=by
 have q:=R1.b2 (N:=λa l=>fJ g.c g.n d args led a l) (R1.opt (o:=wH d.params args)) λloc=>R3.b2 ((uG g H fuel).2 d.body loc led) λf l1 led1=>R2.imp (Gg (fl:=f) led1) λa l he hs hz=>⟨loc,f,l1,hz,h▸he.2▸hs,he.1⟩
 exact q
theorem yd {α β:Type} {M:α→β→Prop} {W:(α→β→Ans)→Ans} (a:AV) (h:a= .v .none→R2 W M):R2 (λQ=>Bm a (W Q)) M:=by
 cases a with
 | r _=>exact R2.no
 | v d=>cases d with
   | none=>exact h rfl
   | _=>exact R2.no
theorem ye (c:Cx):∀n x vs led,R2 (s7 c n x vs led) λa l=>af c n x vs led a l
 | 0,x,vs,led=>R2.no
 | n+1,x,vs,led=>by
   have H:∀mt sc,EOk ⟨c,n,mt,sc,s7 c n⟩:=λ_ _=>ye c n
   have F:∀f,R2 (λQ:QA=>match f with
    | .pure d mt=>rj (bH vs led) λds l1=>e7 ⟨c,n,mt,d.sc,s7 c n⟩ d (ds.map .v) [] λa l=>nH a l λr _=>Q (.v r) l1
    | .cls y d mt=>rj (bH vs led) λds l1=>e7 ⟨c,n,mt,d.sc,s7 c n⟩ d (.r 0::ds.map .v) [.obj y []] λa l=>Bm a (nH (.r 0) l λr _=>Q (.v r) l1)
    | _=>no) λa l=>get tab x=some f→af c (n+1) x vs led a l:=λf=>by
    cases f with
    | pure d mt=>
      have h:=R2.b2 (N:=λa l=>get tab x=some (.pure d mt)→af c (n+1) x vs led a l) (R2.opt (o:=bH vs led)) λds l1=>R2.b2 (fK _ (H mt d.sc) d rfl (ds.map .v) []) λa l=>R2.b2 (jW a l) λr l3=>R2.pure (a:=AV.v r) (b:=l1) λhf hb ha ht=>oQ ht ha hb hf
      exact h
    | cls y d mt=>
      have h:=R2.b2 (N:=λa l=>get tab x=some (.cls y d mt)→af c (n+1) x vs led a l) (R2.opt (o:=bH vs led)) λds l1=>R2.b2 (fK _ (H mt d.sc) d rfl (.r 0::ds.map .v) [.obj y []]) λa l=>yd (W:=λQ:QA=>nH (.r 0) l λr _=>Q (.v r) l1) a λe=>R2.b2 (jW (.r 0) l) λr l3=>R2.pure (a:=AV.v r) (b:=l1) λhf hb ha ht=>call_cls ht ha (e▸hb) hf
      exact h
    | _=>exact R2.no
   have h:=R1.b2 (N:=λa l=>af c (n+1) x vs led a l) (R1.opt (o:=get tab x)) F
   exact h
theorem fE (c:Cx) (n:Nat) (mt:List Str) (d:Df):EOk (g0w c n mt d):=ye c n
theorem told1 {α:Type} {M:α→Prop} {W:(α→Ans)→Ans} {P:α→Prop} {ad:List Ad} (h:R1 W M) (q:W (λa=>tell (P a)) ad True) {R:Prop} (k:∀a,M a→P a→R):R:=h _ ad True q R λa ad' ac' y z=>k a (z y.1).2 y.2
theorem lO {α β:Type} {M:α→β→Prop} {W:(α→β→Ans)→Ans} {P:α→β→Prop} {ad:List Ad} (h:R2 W M) (q:W (λa b=>tell (P a b)) ad True) {R:Prop} (k:∀a b,M a b→P a b→R):R:=h _ ad True q R λa b ad' ac' y z=>k a b (z y.1).2 y.2
theorem DS {α β γ:Type} {M:α→β→γ→Prop} {W:(α→β→γ→Ans)→Ans} {P:α→β→γ→Prop} {ad:List Ad} (h:R3 W M) (q:W (λa b d=>tell (P a b d)) ad True) {R:Prop} (k:∀a b d,M a b d→P a b d→R):R:=h _ ad True q R λa b d ad' ac' y z=>k a b d (z y.1).2 y.2
theorem eD (ad:List Ad) (ht:get tab x=some (.pure d mt)) (ha:bH args led=some (ds,led1)) (h:cQ c n mt d ds (λr _=>tell (r=res)) ad True):af c (n+1) x args led (.v res) led1:=by
 have q:=R2.b2 (N:=λr l=>∃a l2,frz depth a l2=some (r,l)∧fJ c n d (ds.map .v) [] a l2) (fK (g0w c n mt d) (fE c n mt d) d rfl (ds.map .v) []) λa l=>R2.imp (jW a l) λr l3 hf hb=>⟨a,l,hf,hb⟩
 refine @lO _ _ _ _ _ _ q h (af c (n+1) x args led (.v res) led1) λr l z e=>?_
 refine cF λGG gg=>?_
 obtain⟨a,l2,z⟩:=z
 refine gg ?_
 exact oQ ht ha z.2 (e▸z.1)
theorem rG {P:AV→Led→Prop} (ad:List Ad) (ht:get tab x=some (.led d mt)) (h:e7 (g0w c n mt d) d args led (λa l=>tell (P a l)) ad True):∃a l,af c (n+1) x args led a l∧P a l:=lO (fK (g0w c n mt d) (fE c n mt d) d rfl args led) h λa l b p=>⟨a,l,AQ ht b,p⟩
theorem clsS {y:Str} (ad:List Ad) (ht:get tab x=some (.cls y d mt)) (ha:bH args led=some (ds,led1)) (h:DE c n mt y d ds (λr _=>tell (r=res)) ad True):af c (n+1) x args led (.v res) led1:=by
 have q:=R2.b2 (N:=λr l=>∃l2,frz depth (.r 0) l2=some (r,l)∧fJ c n d (.r 0::ds.map .v) [.obj y []] (.v .none) l2) (fK (g0w c n mt d) (fE c n mt d) d rfl (.r 0::ds.map .v) [.obj y []]) λa l=>yd a λe=>R2.imp (jW (.r 0) l) λr l3 hf hb=>⟨l,hf,e▸hb⟩
 refine @lO _ _ _ _ _ _ q h (af c (n+1) x args led (.v res) led1) λr l z e=>?_
 obtain⟨l2,z⟩:=z
 exact call_cls ht ha z.2 (e▸z.1)
theorem objS {y:Str} {P:Led→Prop} (ad:List Ad) (ht:get tab x=some (.obj y d mt)) (h:e7 (g0w c n mt d) d (.r led.length::args) (led++[.obj y []]) (λa l=>tell (a= .v .none∧P l)) ad True):∃l,af c (n+1) x args led (.r led.length) l∧P l:=
 lO (P:=λa l=>a= .v .none∧P l) (fK (g0w c n mt d) (fE c n mt d) d rfl (.r led.length::args) (led++[.obj y []])) h λa l b p=>⟨l,AP ht (p.1▸b),p.2⟩
theorem Bh (g:Eng) (H:EOk g) (k:Nat) (t:Expr) (body:List Stmt) (i:It) (loc:Loc) (led:Led):R3 (Dw g k t body i loc led) λf l1 led1=>bA g.c g.n g.sc t body i loc led f l1 led1:=
 R2.b3 (n8 (λloc e led=>s9 k g H loc e led) t i loc led) λpO l1=>R3.imp ((uG g H k).2 body pO l1) λf l2 bT hb h=>uV hb h
theorem aH {P:Fl→Loc→Led→Prop} (ad:List Ad) (h:Dw g fuel t body i loc led (λf l d=>tell (P f l d)) ad True) (H:EOk g:=by exact fE _ _ _ _):∃f l1 led1,P f l1 led1∧bA g.c g.n g.sc t body i loc led f l1 led1:=DS (Bh g H fuel t body i loc led) h λf l d r p=>⟨f,l,d,p,r⟩
theorem yQ (H:EOk g) {P:Option D→Led→Prop} (ad:List Ad) (h:gm (xE fuel {g with sc:=sc}) elt ifs sc x loc a led (λo l=>tell (P o l)) ad True):∃o l2,P o l2∧kP g.c g.n sc loc elt ifs x a led o l2:=lO (uF (s9 fuel {g with sc:=sc} H) elt ifs x loc a led) h λo l r p=>⟨o,l,p,r⟩
theorem bA.cut (H:SubL l2 l1) (h:bA c n sc t body i loc led f l1 led'):bA c n sc t body i loc led f l2 led':=λ_ _ _ _ _ M r=>bc (h M r) λ_ _ z=>bc z λ_ _=>gA.wk H
theorem StR.cut (H:SubL l2 l1) (h:StR c n sc s loc led f l1 led'):StR c n sc s loc led f l2 led':=λ_ _ _ _ M=>bc (h M) λ_ _=>gA.wk H
theorem kA (ad:List Ad) (h:xS g fuel s loc led (λf1 l1 d=>tell ((f1=f∧d=led')∧SubL l2 l1)) ad True) (H:EOk g:=by exact fE _ _ _ _):StR g.c g.n g.sc s loc led f l2 led':=DS ((uG g H fuel).1 s loc led) h λf1 l1 d r p=>p.1.1▸p.1.2▸r.cut p.2
theorem eV (ad:List Ad) (h:xE fuel g e loc led (λa1 l1=>tell (a1=a∧l1=led)) ad True) (H:EOk g:=by exact fE _ _ _ _):Ex g.c g.n g.sc loc e led a led:=lO (s9 fuel g H loc e led) h λa1 l1 r p=>p.1▸p.2▸r
theorem Ed (H:EOk g) {α:Type} {A:α→AV} {f:α→D}:∀{xs:List α} {as:List AV},as=xs.map A→
 (∀a∈xs,∃ad,gm (xE fuel {g with sc:=sc}) elt ifs sc x loc (A a) led (λo l=>tell (o=some (f a)∧l=led)) ad True)→cH g.c g.n sc loc elt ifs x as led (xs.map f) led
 | [],_,rfl,_=>⟨rfl,rfl⟩
 | a::xs,_,rfl,h=>(h a List.mem_cons_self).elim λad q=>(yQ H ad q).elim λo z=>z.elim λl2 z=>⟨some (f a),led,xs.map f,z.1.1▸z.1.2▸z.2,Ed H (A:=A) (xs:=xs) rfl λb hb=>h b (List.mem_cons_of_mem _ hb),rfl⟩
theorem Ec (H:EOk g) {α:Type} {A:α→AV} {f:α→Option D}:∀{xs:List α} {as:List AV},as=xs.map A→
 (∀a∈xs,∃ad,gm (xE fuel {g with sc:=sc}) elt ifs sc x loc (A a) led (λo l=>tell (o=f a∧l=led)) ad True)→cH g.c g.n sc loc elt ifs x as led (xs.filterMap f) led
 | [],_,rfl,_=>⟨rfl,rfl⟩
 | a::xs,_,rfl,h=>(h a List.mem_cons_self).elim λad q=>(yQ H ad q).elim λo z=>z.elim λl2 z=>⟨f a,led,xs.filterMap f,z.1.1▸z.1.2▸z.2,Ec H (A:=A) (xs:=xs) rfl λb hb=>h b (List.mem_cons_of_mem _ hb),by
   rw[List.filterMap_cons]
   cases f a<;>rfl⟩
theorem SubL.app {a b:Loc}:SubL a (a++b):=by
 induction a with
 | nil=>exact λx v e=>nE e
 | cons p a ih=>exact λx v e=>cE (eqS p.1 x) (λq=>(aB q).trans ((aB q).symm.trans e)) λq=>(ak q).trans (ih x v ((ak q).symm.trans e))
theorem SubL.drop {a l:Loc} (h:l.take a.length=a):SubL a l:=by
 have q:SubL (l.take a.length) (l.take a.length++l.drop a.length):=SubL.app
 rw[List.take_append_drop,h]at q
 exact q
theorem turns_inv {is:List It}:∀(A:Nat→Loc) (I:Nat→Led→Prop),
 (∀i it led,is[i]? =some it→I i led→∃f l1 led1,(I (i+1) led1∧(f= .next∨f= .cont)∧SubL (A (i+1)) l1)∧bA c n sc t body it (A i) led f l1 led1)→
 ∀led,I 0 led→∃led1,I is.length led1∧bf c n sc t body is (A 0) led .next (A is.length) led1:=by
 induction is with
 | nil=>exact λA I h led h0=>⟨led,h0,rfl,λ_ _ e=>e,rfl⟩
 | cons i is ih=>exact λA I h led h0=>(h 0 i led rfl h0).elim λf z=>z.elim λl1 z=>z.elim λled1 z=>(ih (λi=>A (i+1)) (λi=>I (i+1)) (λj it led e=>h (j+1) it led e) led1 z.1.1).imp λbT w=>⟨w.1,f,l1,led1,z.2,z.1.2.1.elim (λe=>by rw[e];exact bf.wk z.1.2.2 w.2) λe=>by rw[e];exact bf.wk z.1.2.2 w.2⟩
theorem aV {is:List It} (A:Nat→Loc) (L:Nat→Led)
 (h:∀i it,is[i]? =some it→∃f l1 led1,(led1=L (i+1)∧(f= .next∨f= .cont)∧SubL (A (i+1)) l1)∧bA c n sc t body it (A i) (L i) f l1 led1):bf c n sc t body is (A 0) (L 0) .next (A is.length) (L is.length):=
 (turns_inv A (λi l=>l=L i) (λi it led e q=>q▸h i it e) (L 0) rfl).elim λled1 z=>z.1▸z.2
theorem ax (ad:List Ad) (ht:get tab x=some (.pure d mt)) (ha:bH args led=some (ds,led1)) (hn:1≤n) (h:∀m,n=m+1→cQ c m mt d ds (λr _=>tell (r=res)) ad True):af c n x args led (.v res) led1:=by
 obtain⟨m,rfl⟩:∃m,n=m+1:=⟨n - 1,(Nat.sub_add_cancel hn).symm⟩
 exact eD ad ht ha (h m rfl)
theorem jz {P:AV→Led→Prop} (ad:List Ad) (ht:get tab x=some (.led d mt)) (hn:1≤n) (h:∀m,n=m+1→e7 (g0w c m mt d) d args led (λa l=>tell (P a l)) ad True):∃a l,af c n x args led a l∧P a l:=by
 obtain⟨m,rfl⟩:∃m,n=m+1:=⟨n - 1,(Nat.sub_add_cancel hn).symm⟩
 exact rG ad ht (h m rfl)
theorem uj {y:Str} (ad:List Ad) (ht:get tab x=some (.cls y d mt)) (ha:bH args led=some (ds,led1)) (hn:1≤n) (h:∀m,n=m+1→DE c m mt y d ds (λr _=>tell (r=res)) ad True):af c n x args led (.v res) led1:=by
 obtain⟨m,rfl⟩:∃m,n=m+1:=⟨n - 1,(Nat.sub_add_cancel hn).symm⟩
 exact clsS ad ht ha (h m rfl)
theorem objR {y:Str} {P:Led→Prop} (ad:List Ad) (ht:get tab x=some (.obj y d mt)) (hn:1≤n) (h:∀m,n=m+1→e7 (g0w c m mt d) d (.r led.length::args) (led++[.obj y []]) (λa l=>tell (a= .v .none∧P l)) ad True):∃l,af c n x args led (.r led.length) l∧P l:=by
 obtain⟨m,rfl⟩:∃m,n=m+1:=⟨n - 1,(Nat.sub_add_cancel hn).symm⟩
 exact objS ad ht (h m rfl)
theorem cw (hc:cp g.sc sc x=true) {α:Type} {A:α→AV} {f:α→D} {xs:List α} {as:List AV} (e:as=xs.map A)
 (h:∀a∈xs,∃ad,gm (xE fuel {g with sc:=sc}) elt ifs sc x loc (A a) led (λo l=>tell (o=some (f a)∧l=led)) ad True) (H:EOk g:=by exact fE _ _ _ _):cH g.c g.n sc loc elt ifs x as led (xs.map f) led:=Ed H e h
theorem gz (hc:cp g.sc sc x=true) {α:Type} {A:α→AV} {f:α→Option D} {xs:List α} {as:List AV} (e:as=xs.map A)
 (h:∀a∈xs,∃ad,gm (xE fuel {g with sc:=sc}) elt ifs sc x loc (A a) led (λo l=>tell (o=f a∧l=led)) ad True) (H:EOk g:=by exact fE _ _ _ _):cH g.c g.n sc loc elt ifs x as led (xs.filterMap f) led:=Ec H e h
theorem dn {m:Nat} (ht:get tab x=some (.pure d mt)) (ha:bH args led=some (ds,led1)) (h:cQ c m mt d ds (λr _=>tell (r=res)) [.z] True=(True∧res=res)):af c (m+1) x args led (.v res) led1:=eD [.z] ht ha (h▸⟨trivial,rfl⟩)
theorem Ea {m:Nat} {y:Str} (ht:get tab x=some (.obj y d mt)) (h:e7 (g0w c m mt d) d (.r led.length::args) (led++[.obj y []]) (λa l=>tell (a= .v .none∧l=led1)) [.z] True=(True∧(AV.v .none= .v .none∧led1=led1))):af c (m+1) x args led (.r led.length) led1:=(objS (P:=λl=>l=led1) [.z] ht (h▸⟨trivial,rfl,rfl⟩)).elim λl z=>z.2▸z.1
end
end Mine
end
section
open PySem
namespace Mine
variable {cx:Cx}
theorem dj {n:Nat} (h:n≤1048576):fits n=true:=Nat.ble_eq_true_of_le h
theorem item_list {l:List D} {n:Nat} {d:D} (h:n≤1048576) (e:l[n]? =some d):item (.list l) (.int (n:Int))=some d:=by
 show (match fits n with | true=>l[n]? | false=>none)=_
 rw[dj h];exact e
theorem item_tup {l:List D} {n:Nat} {d:D} (h:n≤1048576) (e:l[n]? =some d):item (.tup l) (.int (n:Int))=some d:=by
 show (match fits n with | true=>l[n]? | false=>none)=_
 rw[dj h];exact e
noncomputable def sD (l:List Str):List D:=l.map .str
noncomputable def md (x:Int) (m:Nat):Nat:=(x.fmod m).toNat
theorem vD {x:Int} {m:Nat} (h:0<m):x.fmod m=((md x m:Nat):Int):=by
 unfold md
 rw[Int.toNat_of_nonneg]
 exact Int.fmod_nonneg_of_pos _ (by lia)
theorem aj {x:Int} {m:Nat} (h:0<m):md x m<m:=by
 have h1:x.fmod m<m:=Int.fmod_lt_of_pos _ (by lia)
 have h2:=vD (x:=x) h
 lia
theorem lt2:∀{n:Nat},n<2→n=0∨n=1:=by decide
theorem lt3:∀{n:Nat},n<3→n=0∨n=1∨n=2:=by decide
theorem lt4:∀{n:Nat},n<4→n=0∨n=1∨n=2∨n=3:=by decide
theorem lt5:∀{n:Nat},n<5→n=0∨n=1∨n=2∨n=3∨n=4:=by decide
theorem lt6:∀{n:Nat},n<6→n=0∨n=1∨n=2∨n=3∨n=4∨n=5:=by decide
theorem lt7:∀{n:Nat},n<7→n=0∨n=1∨n=2∨n=3∨n=4∨n=5∨n=6:=by decide
theorem lt9:∀{n:Nat},n<9→n=0∨n=1∨n=2∨n=3∨n=4∨n=5∨n=6∨n=7∨n=8:=by decide
theorem ones {α:Type} {f:α→D} {l:List α} {i:Nat} {it:It} (h:(((l.map f).map AV.v).map It.one)[i]? =some it):∃a,l[i]? =some a∧it= .one (.v (f a)):=by
 rw[List.getElem?_map,List.getElem?_map,List.getElem?_map]at h
 cases e:l[i]? with
 | none=>rw[e]at h;cases h
 | some a=>rw[e]at h;exact⟨a,rfl,(Option.some.inj h).symm⟩
theorem cR {α:Type} {l:List α} {i:Nat} {a:α} (h:l[i]? =some a):l.take (i+1)=l.take i++[a]:=by rw[List.take_add_one,h];rfl
theorem xq {α:Type} {c:Prop} [Decidable c] {a b:α} {P:α→Prop} (h:P a) (k:P b):P (if c then a else b):=dE (p:=c) (λq=>(congrArg P (if_pos q)).mpr h) λq=>(congrArg P (if_neg q)).mpr k
theorem lX {a b:Str}:(a++b).length=a.length+b.length:=Str.length_append a b
theorem ai {n k m:Nat} (h:n≤k) (e:Nat.ble k m=true):n≤m:=Nat.le_trans h (Nat.le_of_ble_eq_true e)
theorem ae {n k:Nat} (h:n≤k) (e:Nat.ble k 1048576=true):fits n=true:=dj (ai h e)
theorem eP {n:Nat} (h:fits n=true):n≤1048576:=Nat.le_of_ble_eq_true h
theorem aL {a b:Str} (h:fits (a++b).length=true):fits (a.length+b.length)=true:=lX▸h
theorem aa {a b:Str} {n:Nat} (h:fits ((a++b).length+n)=true):fits (a.length+b.length)=true:=dj (Nat.le_trans (by rw[lX];exact Nat.le_add_right _ n) (eP h))
theorem zo {a b:Str} {n:Nat} (h:fits (n+(a++b).length)=true):fits (a.length+b.length)=true:=dj (Nat.le_trans (by rw[lX];exact Nat.le_add_left _ n) (eP h))
theorem aW {n k:Nat} (h:n≤k) (e:Nat.ble k 1000000=true):small (n:Int)=true:=Nat.ble_eq_true_of_le (Nat.le_trans (Nat.succ_le_succ (show ((n:Int)).natAbs≤1000000 from ai h e)) (by decide))
theorem ag {a b:Str} {n m:Nat} (h1:a.length≤n) (h2:b.length≤m):(a++b).length≤n+m:=lX▸Nat.add_le_add h1 h2
section
variable {α:Type} {a b:List α} {n:Nat}
theorem fitsL (h:fits (a++b).length=true):fits (a.length+b.length)=true:=List.length_append▸h
theorem w9 (h:fits ((a++b).length+n)=true):fits (a.length+b.length)=true:=dj (Nat.le_trans (by rw[List.length_append];exact Nat.le_add_right _ n) (eP h))
theorem midL (h:fits (n+(a++b).length)=true):fits (a.length+b.length)=true:=dj (Nat.le_trans (by rw[List.length_append];exact Nat.le_add_left _ n) (eP h))
end
inductive Vk where
 | a | b | c | d
noncomputable def Vk.i:Vk→Int
 | .a=> -1 | .b=> -2 | .c=> -16 | .d=> -17
noncomputable def Vk.s:Vk→Str
 | .a=>"i32" | .b=>"i64" | .c=>"funcref" | .d=>"externref"
noncomputable def Vk.D (k:Vk):D:= .int k.i
noncomputable def vk4:Nat→Vk
 | 0=> .a | 1=> .b | 2=> .c | _=> .d
theorem qu {α β:Type} {l:List α} {f g:α→β} (h:l.map f=l.map g) {a:α} (ha:a∈l):f a=g a:=List.map_inj_left.mp h a ha
theorem bW {β:Type} {k:Nat} {f g:Nat→β} (h:(List.range k).map f=(List.range k).map g) {i:Nat} (hi:i<k):f i=g i:=qu h (List.mem_range.mpr hi)
noncomputable def pairs {α β:Type} (l:List α) (m:List β):List (α×β):=l.flatMap λa=>m.map λb=>(a,b)
theorem j8 {α β:Type} {l:List α} {m:List β} {a:α} {b:β} (h1:a∈l) (h2:b∈m):(a,b)∈pairs l m:=List.mem_flatMap_of_mem h1 (List.mem_map_of_mem h2)
theorem b9 {α β γ:Type} {l:List α} {m:List β} {f g:α→β→γ} (h:(pairs l m).map (λp=>f p.1 p.2)=(pairs l m).map λp=>g p.1 p.2) {a:α} {b:β} (h1:a∈l) (h2:b∈m):f a b=g a b:=qu (a:=(a,b)) h (j8 h1 h2)
theorem ik {α β γ δ:Type} {l:List α} {m:List β} {k:List γ} {f g:α→β→γ→δ} (h:(pairs l (pairs m k)).map (λp=>f p.1 p.2.1 p.2.2)=(pairs l (pairs m k)).map λp=>g p.1 p.2.1 p.2.2) {a:α} {b:β} {c:γ} (h1:a∈l) (h2:b∈m) (h3:c∈k):f a b c=g a b c:=qu (a:=(a,b,c)) h (j8 h1 (j8 h2 h3))
noncomputable abbrev rg:=List.range
theorem aO {i k:Nat} (h:i<k):i∈rg k:=List.mem_range.mpr h
noncomputable def vks:List Vk:=[.a,.b,.c,.d]
theorem c7:(k:Vk)→k∈vks
 | .a=> .head _
 | .b=> .tail _ (.head _)
 | .c=> .tail _ (.tail _ (.head _))
 | .d=> .tail _ (.tail _ (.tail _ (.head _)))
theorem fV {n:Nat} {k:Vk} {led:Led} (hn:1≤n):af cx n "kind_name" [.v k.D] led (.v (.str k.s)) led:=by
 obtain⟨m,rfl⟩:∃m,n=m+1:=⟨n - 1,by lia⟩
 exact dn (m:=m) (d:=(dfD 13)) (mt:=[]) (by kernel_rfl) rfl (qu (l:=vks) (f:=λk=>cQ cx m [] (dfD 13) [k.D] (λρ _=>tell (ρ=(.str k.s))) [.z] True) (g:=λk=>(True∧((.str k.s):D)=(.str k.s))) (by kernel_rfl) (c7 k))
theorem one_le {n k:Nat} (h:k+1≤n):1≤n:=Nat.le_trans (Nat.le_add_left 1 k) h
theorem lv {n m k j:Nat} (h:k≤n) (hm:n=m+1) (e:Nat.ble (j+1) k=true):j≤m:=Nat.le_of_succ_le_succ (Nat.le_trans (Nat.le_of_ble_eq_true e) (Eq.subst hm h))
theorem le_trans' {n k j:Nat} (h:k≤n) (e:Nat.ble j k=true):j≤n:=Nat.le_trans (Nat.le_of_ble_eq_true e) h
theorem le_succ {n k:Nat} (h:k≤n):∃m,n=m+k:=⟨n - k,(Nat.sub_add_cancel h).symm⟩
noncomputable def aP (w:Str) (ks:List Vk):Str:=match ks with
 | []=>""
 | ks=>" ("++w++ " "++Str.join " " (ks.map Vk.s)++ ")"
noncomputable def kD (ks:List Vk):List D:=ks.map Vk.D
noncomputable def kss:List (List Vk):=[]::(vks.map (λa=>[a])++vks.flatMap λa=>vks.map λb=>[a,b])
theorem pL:∀{ks:List Vk},ks.length≤2→ks∈kss
 | [],_=>List.mem_cons_self
 | [a],_=>List.mem_cons_of_mem _ (List.mem_append_left _ (List.mem_map_of_mem (c7 a)))
 | [a,b],_=>List.mem_cons_of_mem _ (List.mem_append_right _ (List.mem_flatMap_of_mem (c7 a) (List.mem_map_of_mem (c7 b))))
 | _::_::_::l,h=>absurd h (Nat.not_le.mpr (Nat.le_add_left 3 l.length))
theorem ec {n:Nat} {w:Str} {ks:List Vk} {led:Led} (hn:3≤n) (hw:w= "param"∨w= "result"∨w= "local") (hk:ks.length≤2):af cx n "list_text" [.v (.str w),.v (.tup (kD ks))] led (.v (.str (aP w ks))) led:=by
 obtain⟨m,rfl⟩:∃m,n=m+3:=⟨n - 3,(Nat.sub_add_cancel hn).symm⟩
 exact dn (m:=(m+2)) (d:=(dfD 103)) (mt:=[]) (by kernel_rfl) rfl (b9 (l:=[("param":Str),"result","local"]) (m:=kss) (f:=λw ks=>cQ cx (m+2) [] (dfD 103) [(.str w),(.tup (kD ks))] (λρ _=>tell (ρ=(.str (aP w ks)))) [.z] True) (g:=λw ks=>(True∧((.str (aP w ks)):D)=(.str (aP w ks)))) (by kernel_rfl) (by rcases hw with rfl | rfl | rfl<;>simp) (pL hk))
theorem eH {l:List D} {f:Nat→D} {x:Int} {m:Nat} (h:l=(List.range m).map f) (hm:0<m) (hb:m≤1000):item (.list l) (.int (x.fmod m))=some (f (md x m)):=by
 rw[vD hm]
 refine item_list (Nat.le_trans (Nat.le_of_lt (aj hm)) (Nat.le_trans hb (by decide))) ?_
 rw[h,List.getElem?_map,List.getElem?_range (aj hm)];rfl
theorem bP {n:Nat} {x:Int} {led:Led} (hn:1≤n):af cx n "_law_kind" [.v (.int x)] led (.v (.tup [(vk4 (md x 4)).D,.str (vk4 (md x 4)).s])) led:=by
 refine ax (d:=dfD 125) (mt:=[]) [.i (.tup [(vk4 (md x 4)).D,.str (vk4 (md x 4)).s])] (by kernel_rfl) rfl hn λm _=>?_
 exact And.intro ⟨eH (m:=4) (f:=λi=> .tup [(vk4 i).D,.str (vk4 i).s]) (by kernel_rfl) (by decide) (by decide),trivial⟩ rfl
end Mine
end
section
open PySem
namespace Mine
variable {cx:Cx}
noncomputable def eX:Nat→Int
 | 0=>0 | 1=>1 | _=>4294967295
noncomputable def rC:Nat→D
 | 0=> .none | 1=> .int 0 | _=> .int 7
noncomputable def zk:Nat→Str
 | 0=>"" | 1=>" 0" | _=>" 7"
noncomputable def rF (a b:Nat):List D:=[.int (eX a),rC b]
noncomputable def eN (a b:Nat):Str:=ao (eX a)++zk b
theorem mB {n a b:Nat} {led:Led} (hn:1≤n) (ha:a<3) (hb:b<3):af cx n "limits_text" [.v (.int (eX a)),.v (rC b)] led (.v (.str (eN a b))) led:=by
 obtain⟨m,rfl⟩:=le_succ hn
 exact dn (m:=m) (d:=(dfD 104)) (mt:=[]) (by kernel_rfl) rfl (b9 (l:=rg 3) (m:=rg 3) (f:=λa b=>cQ cx m [] (dfD 104) [(.int (eX a)),(rC b)] (λρ _=>tell (ρ=(.str (eN a b)))) [.z] True) (g:=λa b=>(True∧((.str (eN a b)):D)=(.str (eN a b)))) (by kernel_rfl) (aO ha) (aO hb))
noncomputable def tabS (k:Vk) (a b:Nat):Str:=eN a b++ " "++k.s
theorem nM {n a b:Nat} {k:Vk} {led:Led} (hn:2≤n) (ha:a<3) (hb:b<3):af cx n "table_text" [.v (.tup (k.D::rF a b))] led (.v (.str (tabS k a b))) led:=by
 obtain⟨m,rfl⟩:=le_succ hn
 exact dn (m:=(m+1)) (d:=(dfD 105)) (mt:=[]) (by kernel_rfl) rfl (ik (l:=vks) (m:=rg 3) (k:=rg 3) (f:=λk a b=>cQ cx (m+1) [] (dfD 105) [(.tup (k.D::rF a b))] (λρ _=>tell (ρ=(.str (tabS k a b)))) [.z] True) (g:=λk a b=>(True∧((.str (tabS k a b)):D)=(.str (tabS k a b)))) (by kernel_rfl) (c7 k) (aO ha) (aO hb))
noncomputable def globT (k:Vk) (m:Nat):Str:=match m with
 | 0=>k.s
 | _=>"(mut "++k.s++ ")"
theorem mW {n m:Nat} {k:Vk} {led:Led} (hn:2≤n) (hm:m<2):af cx n "global_text" [.v k.D,.v (.int m)] led (.v (.str (globT k m))) led:=by
 obtain⟨n,rfl⟩:=le_succ hn
 exact dn (m:=(n+1)) (d:=(dfD 106)) (mt:=[]) (by kernel_rfl) rfl (b9 (l:=vks) (m:=rg 2) (f:=λk m=>cQ cx (n+1) [] (dfD 106) [k.D,(.int m)] (λρ _=>tell (ρ=(.str (globT k m)))) [.z] True) (g:=λk m=>(True∧((.str (globT k m)):D)=(.str (globT k m)))) (by kernel_rfl) (c7 k) (aO hm))
theorem dF {n:Nat} {x:Int} {led:Led} (hn:1≤n):af cx n "_law_limits" [.v (.int x)] led (.v (.tup [.tup (rF (md x 3) (md (x.fdiv 3) 3)),.str (eN (md x 3) (md (x.fdiv 3) 3))])) led:=by
 have h1:=aj (x:=x) (m:=3) (by decide)
 have i1:=eH (x:=x) (m:=3) (f:=λi=> .int (eX i)) (l:=[.int 0,.int 1,.int 4294967295]) (by kernel_rfl) (by decide) (by decide)
 have i2:=eH (x:=x.fdiv 3) (m:=3) (f:=rC) (l:=[.none,.int 0,.int 7]) (by kernel_rfl) (by decide) (by decide)
 have f1:fits ((ao (eX (md x 3))).length+(zk (md (x.fdiv 3) 3)).length)=true:=b9 (l:=rg 3) (m:=rg 3) (f:=λa b=>fits ((ao (eX a)).length+(zk b).length)) (g:=λ_ _=>true) (by kernel_rfl) (aO h1) (aO (aj (by decide)))
 have f2:small (eX (md x 3))=true:=bW (f:=λa=>small (eX a)) (g:=λ_=>true) (by kernel_rfl) h1
 rcases lt3 (aj (x:=x.fdiv 3) (m:=3) (by decide))with q | q | q
 all_goals
  rw[q]at f1 i2
  refine ax (d:=dfD 129) (mt:=[]) [.i (.int (eX (md x 3))),.i (rC (md (x.fdiv 3) 3))] (by kernel_rfl) rfl hn λm _=>?_
  rw[q]
  conv=>whnf
 · exact⟨⟨f1,f2,i2,i1,trivial⟩,rfl⟩
 · exact⟨⟨f1,rfl,rfl,f2,i2,i1,trivial⟩,rfl⟩
 · exact⟨⟨f1,rfl,rfl,f2,i2,i1,trivial⟩,rfl⟩
noncomputable def strN:Nat→Str×Str
 | 0=>("","\"\"")
 | 1=>("a b~","\"a b~\"")
 | 2=>("\"\\","\"\\22\\5c\"")
 | 3=>("é\n","\"\\c3\\a9\\0a\"")
 | _=>("€\x7f\x1f","\"\\e2\\82\\ac\\7f\\1f\"")
theorem fS {n i:Nat} {led:Led} (hn:2≤n) (hi:i<5):af cx n "name_text" [.v (.str (strN i).1)] led (.v (.str (strN i).2)) led:=by
 obtain⟨n,rfl⟩:=le_succ hn
 exact dn (m:=(n+1)) (d:=(dfD 101)) (mt:=[]) (by kernel_rfl) rfl (bW (f:=λi=>cQ cx (n+1) [] (dfD 101) [(.str (strN i).1)] (λρ _=>tell (ρ=(.str (strN i).2))) [.z] True) (g:=λi=>(True∧((.str (strN i).2):D)=(.str (strN i).2))) (k:=5) (by kernel_rfl) hi)
theorem eY {n:Nat} {x:Int} {led:Led} (hn:1≤n):af cx n "_law_string" [.v (.int x)] led (.v (.tup [.str (strN (md x 5)).1,.str (strN (md x 5)).2])) led:=by
 refine ax (d:=dfD 128) (mt:=[]) [.i (.tup [.str (strN (md x 5)).1,.str (strN (md x 5)).2])] (by kernel_rfl) rfl hn λm _=>?_
 exact And.intro ⟨eH (m:=5) (f:=λi=> .tup [.str (strN i).1,.str (strN i).2]) (by kernel_rfl) (by decide) (by decide),rfl,trivial⟩ rfl
noncomputable def gD:Nat→List UInt8×Str
 | 0=>([],"\"\"")
 | 1=>([97,0,255],"\"a\\00\\ff\"")
 | _=>([126,32,40,59],"\"~ (;\"")
theorem yJ {n i:Nat} {led:Led} (hn:1≤n) (hi:i<3):af cx n "string_text" [.v (.byt (gD i).1)] led (.v (.str (gD i).2)) led:=by
 obtain⟨n,rfl⟩:=le_succ hn
 exact dn (m:=n) (d:=(dfD 100)) (mt:=["found"]) (by kernel_rfl) rfl (bW (f:=λi=>cQ cx n ["found"] (dfD 100) [(.byt (gD i).1)] (λρ _=>tell (ρ=(.str (gD i).2))) [.z] True) (g:=λi=>(True∧((.str (gD i).2):D)=(.str (gD i).2))) (k:=3) (by kernel_rfl) hi)
noncomputable def opD (l:List Int):D:= .tup (l.map .int)
noncomputable def aC:Nat→List D×Str
 | 0=>([opD [65, -7],opD [11]],"i32.const -7")
 | 1=>([opD [66,9223372036854775807],opD [11]],"i64.const 9223372036854775807")
 | 2=>([opD [35,1],opD [65,2],opD [106],opD [11]],"global.get 1 i32.const 2 i32.add")
 | 3=>([opD [11]],"")
 | _=>([opD [208, -17],opD [11]],"ref.null extern")
theorem fG {n i:Nat} {told:D} {led:Led} (hn:6≤n) (hi:i<5):af cx n "constant_text" [.v told,.v (.list (aC i).1)] led (.v (.str (aC i).2)) led:=by
 obtain⟨n,rfl⟩:=le_succ hn
 exact dn (m:=(n+5)) (d:=(dfD 113)) (mt:=[]) (by kernel_rfl) rfl (bW (f:=λi=>cQ cx (n+5) [] (dfD 113) [told,(.list (aC i).1)] (λρ _=>tell (ρ=(.str (aC i).2))) [.z] True) (g:=λi=>(True∧((.str (aC i).2):D)=(.str (aC i).2))) (k:=5) (by kernel_rfl) hi)
theorem pS {n:Nat} {told:D} {led:Led} (hn:6≤n):af cx n "constant_text" [.v told,.v (.list [opD [35,0],opD [11]])] led (.v (.str "global.get 0")) led:=by
 obtain⟨n,rfl⟩:∃m,n=m+6:=⟨n - 6,by lia⟩
 exact dn (d:=(dfD 113)) (mt:=[]) (by kernel_rfl) rfl (by kernel_rfl)
theorem cL {n:Nat} {x:Int} {led:Led} (hn:1≤n):af cx n "_law_constant" [.v (.int x)] led (.v (.tup [.list (aC (md x 5)).1,.str (aC (md x 5)).2])) led:=by
 refine ax (d:=dfD 133) (mt:=[]) [.i (.tup [.list (aC (md x 5)).1,.str (aC (md x 5)).2])] (by kernel_rfl) rfl hn λm _=>?_
 exact And.intro ⟨eH (m:=5) (f:=λi=> .tup [.list (aC i).1,.str (aC i).2]) (by kernel_rfl) (by decide) (by decide),rfl,rfl,trivial⟩ rfl
noncomputable def bN:Nat→Str×Bool
 | 0=>("f",true) | 1=>("a!~",true) | 2=>("",false) | 3=>("x y",false) | 4=>("é",false) | 5=>("9",true) | _=>("(",false)
theorem rJ {n:Nat} {x:Int} {led:Led} (hn:1≤n):af cx n "_law_name" [.v (.int x)] led (.v (.tup [.str (bN (md x 7)).1,.bool (bN (md x 7)).2])) led:=by
 refine ax (d:=dfD 130) (mt:=[]) [.i (.tup [.str (bN (md x 7)).1,.bool (bN (md x 7)).2])] (by kernel_rfl) rfl hn λm _=>?_
 exact And.intro ⟨eH (m:=7) (f:=λi=> .tup [.str (bN i).1,.bool (bN i).2]) (by kernel_rfl) (by decide) (by decide),rfl,trivial⟩ rfl
noncomputable def isE (s:Str):Bool:=eqS s ""
noncomputable def aD (ids:List Str) (i:Nat):Str:=match ids[i]? with
 | some s=>if isE s then ao i else s
 | none=>ao i
theorem Gs {a b:Str}:cmp .NotEq (.str a) (.str b)=some (!eqS a b):=rfl
theorem aF {l:List Str}:(sD l).length=l.length:=List.length_map _
theorem EZ {l:List Str} {i:Nat} (h:i<l.length):(sD l)[i]? =some (.str l[i]):=by unfold sD;rw[List.getElem?_map,List.getElem?_eq_getElem h];rfl
theorem cn {l:List Str} (h:l.length≤1000):fits (sD l).length=true:=by rw[aF];exact dj (Nat.le_trans h (by decide))
theorem vO {l:List Str} {i:Nat} (h:i<l.length) (h1:i≤1000):item (.list (sD l)) (.int (i:Int))=some (.str l[i]):=item_list (Nat.le_trans h1 (by decide)) (EZ h)
theorem bx {n i:Nat} {ids:List Str} {led:Led} (hn:1≤n) (h1:ids.length≤1000) (h2:i≤1000):af cx n "_law_told" [.v (.list (sD ids)),.v (.int i)] led (.v (.str (aD ids i))) led:=by
 unfold aD
 rcases Nat.lt_or_ge i ids.length with q | q
 · rw[List.getElem?_eq_getElem q]
   dsimp only
   have it:=vO q h2
   have c:decide ((i:Int)<((sD ids).length:Int))=true:=decide_eq_true (by rw[aF];exact Int.ofNat_lt.mpr q)
   cases e:isE ids[i]with
   | true=>
     refine ax (d:=dfD 132) (mt:=[]) [.t,.i (.str ids[i]),.f] (by kernel_rfl) rfl hn λm _=>?_
     exact And.intro ⟨aW h2 rfl,congrArg (!·) e,it,c,cn h1,trivial⟩ rfl
   | false=>
     refine ax (d:=dfD 132) (mt:=[]) [.t,.i (.str ids[i]),.t,.i (.str ids[i])] (by kernel_rfl) rfl hn λm _=>?_
     exact And.intro ⟨it,congrArg (!·) e,it,c,cn h1,trivial⟩ rfl
 · rw[List.getElem?_eq_none q]
   refine ax (d:=dfD 132) (mt:=[]) [.f,.f] (by kernel_rfl) rfl hn λm _=>?_
   exact And.intro ⟨aW h2 rfl,rfl,decide_eq_false (by rw[aF];exact λz=>Nat.not_lt.mpr q (Int.ofNat_lt.mp z)),cn h1,trivial⟩ rfl
end Mine
end
section
open PySem
namespace Mine
variable {cx:Cx}
theorem zM {ids:List Str} {i:Nat} (h:i<ids.length):decide ((i:Int)<Int.ofNat (sD ids).length)=true:=decide_eq_true (by rw[aF];exact Int.ofNat_lt.mpr h)
theorem CE {ids:List Str} {i:Nat} (h:ids.length≤i):decide ((i:Int)<Int.ofNat (sD ids).length)=false:=decide_eq_false (by rw[aF];exact λz=>Nat.not_lt.mpr h (Int.ofNat_lt.mp z))
theorem EN {ids:List Str} {i:Nat} (h:i<ids.length) (e:isE ids[i]=true):aD ids i=ao i:=by unfold aD;rw[List.getElem?_eq_getElem h];exact if_pos e
theorem EP {ids:List Str} {i:Nat} (h:i<ids.length) (e:isE ids[i]=false):aD ids i=ids[i]:=by unfold aD;rw[List.getElem?_eq_getElem h];exact if_neg (by rw[e];exact Bool.false_ne_true)
theorem EO {ids:List Str} {i:Nat} (h:ids.length≤i):aD ids i=ao i:=by unfold aD;rw[List.getElem?_eq_none h]
theorem iz {n i:Nat} {ids:List Str} {led:Led} (hn:1≤n) (h1:ids.length≤1000) (h2:i≤1000):af cx n "told_index" [.v (.list (sD ids)),.v (.int i)] led (.v (.str (aD ids i))) led:=by
 rcases Nat.lt_or_ge i ids.length with q | q
 · have it:=vO q h2
   cases e:isE ids[i]with
   | true=>
     refine ax (d:=dfD 109) (mt:=[]) [.t,.i (.str ids[i]),.f] (by kernel_rfl) rfl (one_le hn) λm1 hm=>?_
     exact And.intro ⟨aW h2 rfl,congrArg (!·) e,it,zM q,cn h1,trivial⟩ (congrArg D.str (EN q e).symm)
   | false=>
     refine ax (d:=dfD 109) (mt:=[]) [.t,.i (.str ids[i]),.t,.i (.str ids[i])] (by kernel_rfl) rfl (one_le hn) λm1 hm=>?_
     exact And.intro ⟨it,congrArg (!·) e,it,zM q,cn h1,trivial⟩ (congrArg D.str (EP q e).symm)
 · refine ax (d:=dfD 109) (mt:=[]) [.f,.f] (by kernel_rfl) rfl (one_le hn) λm1 hm=>?_
   exact And.intro ⟨aW h2 rfl,rfl,CE q,cn h1,trivial⟩ (congrArg D.str (EO q).symm)
noncomputable def aU (ids lids:List Str):D:= .obj "Told" [("func_ids",.list (sD ids)),("local_ids",.list (sD lids))]
theorem d6 {n i:Nat} {ids lids:List Str} {led:Led} (hn:2≤n) (h1:ids.length≤1000) (h2:i≤1000):af cx n (dot "Told" "func") [.v (aU ids lids),.v (.int i)] led (.v (.str (aD ids i))) led:=by
 refine ax (d:=dfM 108 1) (mt:=[]) [.p (.str (aD ids i))] (by kernel_rfl) rfl (one_le hn) λm1 hm=>?_
 exact And.intro ⟨iz (lv hn hm rfl) h1 h2,trivial⟩ rfl
theorem nK {n i:Nat} {ids lids:List Str} {led:Led} (hn:2≤n) (h1:lids.length≤1000) (h2:i≤1000):af cx n (dot "Told" "local") [.v (aU ids lids),.v (.int i)] led (.v (.str (aD lids i))) led:=by
 refine ax (d:=dfM 108 2) (mt:=[]) [.p (.str (aD lids i))] (by kernel_rfl) rfl (one_le hn) λm1 hm=>?_
 exact And.intro ⟨iz (lv hn hm rfl) h1 h2,trivial⟩ rfl
inductive Sp where
 | const (r:Nat) | lget (i:Nat) | call (i:Nat) | ind (a b:Nat)
noncomputable def spD:Sp→D
 | .const r=> .tup [.int 65,.int ((r:Int) - 4)]
 | .lget i=> .tup [.int 32,.int i]
 | .call i=> .tup [.int 16,.int i]
 | .ind a b=> .tup [.int 17,.int a,.int b]
noncomputable def pz:Sp→Prop
 | .const r=>r<9
 | .lget i=>i<5
 | .call i=>i<10
 | .ind a b=>a<4∧b<2
noncomputable def spS (ids lids:List Str):Sp→Str
 | .const r=>"i32.const "++ao ((r:Int) - 4)
 | .lget i=>"local.get "++aD lids i
 | .call i=>"call "++aD ids i
 | .ind a b=>"call_indirect "++ao b++ " (type "++ao a++ ")"
theorem tO {n:Nat} {led:Led} (hn:1≤n):af cx n "name_of" [.v (.int 32)] led (.v (.str "local.get")) led:=by
 obtain⟨n,rfl⟩:=le_succ hn
 exact dn (d:=(dfD 94)) (mt:=[]) (by kernel_rfl) rfl (by kernel_rfl)
theorem ub {n:Nat} {led:Led} (hn:1≤n):af cx n "form_of" [.v (.int 32)] led (.v (.str "local")) led:=by
 obtain⟨n,rfl⟩:=le_succ hn
 exact dn (d:=(dfD 64)) (mt:=[]) (by kernel_rfl) rfl (by kernel_rfl)
theorem tP {n:Nat} {led:Led} (hn:1≤n):af cx n "name_of" [.v (.int 16)] led (.v (.str "call")) led:=by
 obtain⟨n,rfl⟩:=le_succ hn
 exact dn (d:=(dfD 94)) (mt:=[]) (by kernel_rfl) rfl (by kernel_rfl)
theorem uc {n:Nat} {led:Led} (hn:1≤n):af cx n "form_of" [.v (.int 16)] led (.v (.str "func")) led:=by
 obtain⟨n,rfl⟩:=le_succ hn
 exact dn (d:=(dfD 64)) (mt:=[]) (by kernel_rfl) rfl (by kernel_rfl)
theorem dM {a b c:Str}:a++b++c=a++(b++c):=by
 show Str.append (Str.append a b) c=Str.append a (Str.append b c)
 unfold Str.append
 rw[Array.append_assoc]
theorem gS {n:Nat} {ids lids:List Str} {sp:Sp} {led:Led} (hn:4≤n) (h1:ids.length≤1000) (h2:lids.length≤1000) (b1:∀i,i<10→(aD ids i).length≤1000) (b2:∀i,i<10→(aD lids i).length≤1000) (hs:pz sp):
 af cx n "instruction_text" [.v (aU ids lids),.v (spD sp)] led (.v (.str (spS ids lids sp))) led:=by
 cases sp with
 | const r=>
   obtain⟨n,rfl⟩:=le_succ hn
   exact dn (m:=(n+3)) (d:=(dfD 112)) (mt:=[]) (by kernel_rfl) rfl (bW (k:=9) (f:=λr=>cQ cx (n+3) [] (dfD 112) [(aU ids lids),(spD (.const r))] (λρ _=>tell (ρ=(.str (spS ids lids (.const r))))) [.z] True) (g:=λr=>(True∧((.str (spS ids lids (.const r))):D)=(.str (spS ids lids (.const r))))) (by kernel_rfl) hs)
 | ind a b=>
   obtain⟨n,rfl⟩:=le_succ hn
   exact dn (m:=(n+3)) (d:=(dfD 112)) (mt:=[]) (by kernel_rfl) rfl (b9 (l:=rg 4) (m:=rg 2) (f:=λa b=>cQ cx (n+3) [] (dfD 112) [(aU ids lids),(spD (.ind a b))] (λρ _=>tell (ρ=(.str (spS ids lids (.ind a b))))) [.z] True) (g:=λa b=>(True∧((.str (spS ids lids (.ind a b))):D)=(.str (spS ids lids (.ind a b))))) (by kernel_rfl) (aO hs.1) (aO hs.2))
 | lget i=>
   have hs:i<5:=hs
   have t:=ai (Nat.le_of_lt hs) (m:=1000) rfl
   refine ax (d:=dfD 112) (mt:=[]) [.p (.str "local.get"),.p (.str "local"),.p (.str (aD lids i))] (by kernel_rfl) rfl (one_le hn) λm1 hm=>?_
   exact And.intro ⟨ae (Nat.add_le_add (Nat.le_refl _) (b2 i (Nat.lt_of_lt_of_le hs (by decide)))) rfl,nK (lv hn hm rfl) h2 t,rfl,ub (lv hn hm rfl),tO (lv hn hm rfl),trivial⟩ rfl
 | call i=>
   have hs:i<10:=hs
   have t:=ai (Nat.le_of_lt hs) (m:=1000) rfl
   refine ax (d:=dfD 112) (mt:=[]) [.p (.str "call"),.p (.str "func"),.p (.str (aD ids i))] (by kernel_rfl) rfl (one_le hn) λm1 hm=>?_
   exact And.intro ⟨ae (Nat.add_le_add (Nat.le_refl _) (b1 i hs)) rfl,d6 (lv hn hm rfl) h1 t,rfl,uc (lv hn hm rfl),tP (lv hn hm rfl),trivial⟩ rfl
end Mine
end
section
open PySem
namespace Mine
variable {cx:Cx}
theorem ll_sp:(Str.ofString " ").length=1:=rfl
noncomputable def ahead (s:Str):Str:=if isE s then "" else " "++s
noncomputable def declS (w s:Str) (k:Vk):Str:=" ("++w++ahead s++ " "++k.s++ ")"
theorem iI (k:Vk):k.s.length≤9:=by cases k<;>decide
theorem ip {s:Str} (h:(!eqS s (Str.ofString ""))=true):ahead s= " "++s:=by unfold ahead isE;rw[if_neg (by simpa using h)]
theorem iq {s:Str} (h:(!eqS s (Str.ofString ""))=false):ahead s= "":=by unfold ahead isE;rw[if_pos (by simpa using h)]
theorem eu (s:Str):(ahead s).length≤s.length+1:=by
 unfold ahead
 split
 · exact Nat.zero_le _
 · exact lX▸Nat.le_of_eq (Nat.add_comm 1 _)
theorem ie {w s:Str} {k:Vk} {n:Nat} (hw:w.length≤10) (hs:s.length≤n):(declS w s k).length≤n+24:=
 Nat.le_trans (ag (ag (ag (ag (ag (Nat.le_refl 2) hw) (Nat.le_trans (eu s) (Nat.succ_le_succ hs))) (Nat.le_refl 1)) (iI k)) (Nat.le_refl 1)) (by lia)
theorem kN {n:Nat} {w s:Str} {k:Vk} {led:Led} (hn:2≤n) (hw:w.length≤10) (hs:s.length≤1000):af cx n "declared_text" [.v (.str w),.v (.str s),.v k.D] led (.v (.str (declS w s k))) led:=by
 have F:=ae (ie (k:=k) hw hs) rfl
 cases e:isE s with
 | true=>
   have q:declS w s k= " ("++w++ ""++ " "++k.s++ ")":=congrArg (λa=>" ("++w++a++ " "++k.s++ ")") (iq (congrArg (!·) e))
   have f:=aL (q▸F)
   refine ax (d:=dfD 118) (mt:=[]) [.f,.p (.str k.s)] (by kernel_rfl) rfl (one_le hn) λm1 hm=>?_
   exact And.intro ⟨f,aa f,fV (lv hn hm rfl),aa (aa f),aa (aa (aa f)),congrArg (!·) e,aa (aa (aa (aa f))),trivial⟩ (congrArg D.str q.symm)
 | false=>
   have q:declS w s k= " ("++w++(" "++s)++ " "++k.s++ ")":=congrArg (λa=>" ("++w++a++ " "++k.s++ ")") (ip (congrArg (!·) e))
   have f:=aL (q▸F)
   refine ax (d:=dfD 118) (mt:=[]) [.t,.p (.str k.s)] (by kernel_rfl) rfl (one_le hn) λm1 hm=>?_
   exact And.intro ⟨f,aa f,fV (lv hn hm rfl),aa (aa f),aa (aa (aa f)),zo (aa (aa (aa f))),congrArg (!·) e,aa (aa (aa (aa f))),trivial⟩ (congrArg D.str q.symm)
end Mine
end
section
open PySem
namespace Mine
variable {cx:Cx}
noncomputable def prD (m nm:D) (b:Bool) (ids:List Str):D:= .obj "Printer" [("module",m),("names",nm),("is_folded",.bool b),("func_ids",.list (sD ids)),("plain_told",aU ids [])]
theorem sD_at {ids:List Str} {i:Nat} {s:Str} (h:ids[i]? =some s):(sD ids)[i]? =some (.str s):=by unfold sD;rw[List.getElem?_map,h];rfl
theorem item_at {ids:List Str} {i:Nat} {s:Str} (h:ids[i]? =some s) (h1:i≤1000):item (.list (sD ids)) (.int (i:Int))=some (.str s):=item_list (ai h1 rfl) (sD_at h)
theorem dR {n i:Nat} {m nm:D} {b:Bool} {ids:List Str} {s:Str} {led:Led} (hn:1≤n) (hi:ids[i]? =some s) (h1:i≤1000) (hs:s.length≤1000):
 af cx n (dot "Printer" "id_ahead") [.v (prD m nm b ids),.v (.int i)] led (.v (.str (ahead s))) led:=by
 have it:=item_at hi h1
 cases e:isE s with
 | true=>
   refine ax (d:=dfM 117 2) (mt:=[]) [.i (.str s),.f] (by kernel_rfl) rfl (one_le hn) λm1 hm=>?_
   exact And.intro ⟨congrArg (!·) e,it,trivial⟩ (congrArg D.str (iq (congrArg (!·) e)).symm)
 | false=>
   refine ax (d:=dfM 117 2) (mt:=[]) [.i (.str s),.t,.i (.str s)] (by kernel_rfl) rfl (one_le hn) λm1 hm=>?_
   exact And.intro ⟨ae (Nat.add_le_add (Nat.le_refl 1) hs) rfl,it,congrArg (!·) e,it,trivial⟩ (congrArg D.str (ip (congrArg (!·) e)).symm)
structure Kn where
 p:List Vk
 r:List Vk
noncomputable def knD (k:Kn):D:= .tup [.tup (kD k.p),.tup (kD k.r)]
noncomputable def fU (k:Kn):Prop:=k.p.length≤2∧k.r.length≤2
noncomputable def knS (k:Kn):Str:="(type (func"++aP "param" k.p++aP "result" k.r++ "))"
theorem bI {w:Str} {ks:List Vk} (hw:w= "param"∨w= "result"∨w= "local") (hk:ks.length≤2):(aP w ks).length≤50:=
 Nat.le_of_ble_eq_true (b9 (l:=[("param":Str),"result","local"]) (m:=kss) (f:=λw ks=>Nat.ble (aP w ks).length 50) (g:=λ_ _=>true) (by kernel_rfl) (by rcases hw with rfl | rfl | rfl<;>simp) (pL hk))
theorem vM {k:Kn} (h:fU k):(knS k).length≤200:=ai (ag (ag (ag (Nat.le_refl 11) (bI (.inl rfl) h.1)) (bI (.inr (.inl rfl)) h.2)) (Nat.le_refl 2)) rfl
inductive Ab where
 | fn (t:Nat) | tb (k:Vk) (x y:Nat) | me (x y:Nat) | gl (k:Vk) (m:Nat)
noncomputable def Dq:Ab→Prop
 | .fn t=>t<4
 | .tb _ x y=>x<3∧y<3
 | .me x y=>x<3∧y<3
 | .gl _ m=>m<2
noncomputable def nB:Ab→Int
 | .fn _=>0 | .tb ..=>1 | .me ..=>2 | .gl ..=>3
noncomputable def abD:Ab→D
 | .fn t=> .int t
 | .tb k x y=> .tup (k.D::rF x y)
 | .me x y=> .tup (rF x y)
 | .gl k m=> .tup [k.D,.int m]
noncomputable def isFn:Ab→Bool
 | .fn _=>true
 | _=>false
noncomputable def abS (s:Str):Ab→Str
 | .fn t=>"(func"++ahead s++ " (type "++ao t++ "))"
 | .tb k x y=>"(table "++tabS k x y++ ")"
 | .me x y=>"(memory "++eN x y++ ")"
 | .gl k m=>"(global "++globT k m++ ")"
structure Im where
 p:Nat
 q:Nat
 a:Ab
noncomputable def pW (m:Im):Prop:=m.p<5∧m.q<5∧Dq m.a
noncomputable def imD (m:Im):D:= .obj "Import" [("place",.str (strN m.p).1),("name",.str (strN m.q).1),("sort",.int (nB m.a)),("about",abD m.a)]
structure Fu where
 kind:Nat
 locals:List Vk
 body:List Sp
noncomputable def b8 (l:List Sp):List D:=l.map spD++[opD [11]]
noncomputable def fuD (f:Fu):D:= .obj "Func" [("kind",.int f.kind),("locals",.tup (kD f.locals)),("body",.list (b8 f.body))]
noncomputable def nV (f:Fu):Prop:=f.kind<4∧f.locals.length≤2∧f.body.length≤5∧∀s∈f.body,pz s
structure Gl where
 k:Vk
 m:Nat
 c:Nat
noncomputable def glD (g:Gl):D:= .obj "Global" [("kind",g.k.D),("mutable",.int g.m),("body",.list (aC g.c).1)]
noncomputable def FV (g:Gl):Prop:=g.m<2∧g.c<5
structure Xp where
 s:Nat
 sort:Nat
 i:Nat
noncomputable def exD (e:Xp):D:= .tup [.str (strN e.s).1,.int e.sort,.int e.i]
noncomputable def Ge (e:Xp):Prop:=e.s<5∧e.sort<4∧e.i<4
structure El where
 mode:Nat
 table:Nat
 c:Nat
 k:Vk
 init:Bool
 many:Nat
noncomputable def gT:Bool→D
 | true=> .list [opD [210,1],opD [11]]
 | false=> .list [opD [35,0],opD [11]]
noncomputable def elD (e:El):D:= .obj "Elem" [("mode",.int e.mode),("table",.int e.table),("offset",if e.mode=1 then .list (aC e.c).1 else .none),("kind",e.k.D),("inits",.list (List.replicate e.many (gT e.init)))]
noncomputable def AF (e:El):Prop:=e.mode<3∧e.table<2∧e.c<5∧e.many<3
structure Da where
 mode:Nat
 c:Nat
 o:Nat
noncomputable def daD (d:Da):D:= .obj "Data" [("mode",.int d.mode),("memory",.int 0),("offset",if d.mode=1 then .list (aC d.c).1 else .none),("octets",.byt (gD d.o).1)]
noncomputable def C9 (d:Da):Prop:=d.mode<2∧d.c<5∧d.o<3
structure Mo where
 kinds:List Kn
 imports:List Im
 funcs:List Fu
 tables:List (Nat×Nat)
 memories:List (Nat×Nat)
 globals:List Gl
 exports:List Xp
 start:Option Nat
 elems:List El
 datas:List Da
noncomputable def tbD (p:Nat×Nat):D:= .tup (Vk.c.D::rF p.1 p.2)
noncomputable def meD (p:Nat×Nat):D:= .tup (rF p.1 p.2)
noncomputable def stD:Option Nat→D
 | none=> .none
 | some n=> .int n
noncomputable def mdD (m:Mo):D:= .obj "Module" [("kinds",.list (m.kinds.map knD)),("imports",.list (m.imports.map imD)),("funcs",.list (m.funcs.map fuD)),("tables",.list (m.tables.map tbD)),("memories",.list (m.memories.map meD)),
 ("globals",.list (m.globals.map glD)),("exports",.list (m.exports.map exD)),("start",stD m.start),("elems",.list (m.elems.map elD)),("datas",.list (m.datas.map daD)),("customs",.list [])]
structure MoOk (m:Mo):Prop where
 kinds:∀k∈m.kinds,fU k
 kindsL:m.kinds.length≤3
 imports:∀k∈m.imports,pW k
 importsL:m.imports.length≤3
 funcs:∀k∈m.funcs,nV k
 funcsL:m.funcs.length≤2
 tables:∀k∈m.tables,k.1<3∧k.2<3
 tablesL:m.tables.length≤1
 memories:∀k∈m.memories,k.1<3∧k.2<3
 memoriesL:m.memories.length≤1
 globals:∀k∈m.globals,FV k
 globalsL:m.globals.length≤2
 exports:∀k∈m.exports,Ge k
 exportsL:m.exports.length≤2
 start:∀i,m.start=some i→i<4
 elems:∀k∈m.elems,AF k
 elemsL:m.elems.length≤2
 datas:∀k∈m.datas,C9 k
 datasL:m.datas.length≤2
theorem snoc {α:Type} {f:α→Str} {l:List α} {i:Nat} {a:α} (h:l[i]? =some a):sD ((l.take i).map f)++[.str (f a)]=sD ((l.take (i+1)).map f):=by
 rw[cR h];unfold sD;rw[List.map_append,List.map_append];rfl
theorem yA {α β:Type} {f:α→β} {g:β→AV} {k:AV→It} {l:List α}:l.take (((l.map f).map g).map k).length=l:=by
 rw[List.length_map,List.length_map,List.length_map,List.take_length]
theorem DQ {α:Type} {P:List α→Prop}:∀{l:List α},l.length≤2→P []→(∀a,a∈l→P [a])→(∀a b,a∈l→b∈l→P [a,b])→P l
 | [],_,h0,_,_=>h0
 | [a],_,_,h1,_=>h1 a List.mem_cons_self
 | [a,b],_,_,_,h2=>h2 a b List.mem_cons_self (List.mem_cons_of_mem _ List.mem_cons_self)
 | _::_::_::l,h,_,_,_=>absurd h (Nat.not_le.mpr (Nat.le_add_left 3 l.length))
theorem upto3 {α:Type} {P:List α→Prop} {l:List α} (h:l.length≤3) (h0:P []) (h1:∀a,a∈l→P [a]) (h2:∀a b,a∈l→b∈l→P [a,b]) (h3:∀a b c,a∈l→b∈l→c∈l→P [a,b,c]):P l:=by
 cases l with
 | nil=>exact h0
 | cons a l=>exact DQ (P:=λl'=>(∀x∈l',x∈a::l)→P (a::l')) (l:=l) (Nat.le_of_succ_le_succ h) (λ_=>h1 a List.mem_cons_self) (λb _ q=>h2 a b List.mem_cons_self (q b List.mem_cons_self)) (λb c _ _ q=>h3 a b c List.mem_cons_self (q b List.mem_cons_self) (q c (List.mem_cons_of_mem _ List.mem_cons_self))) (λx hx=>List.mem_cons_of_mem _ hx)
theorem pR {n:Nat} {m:Mo} {nm:D} {b:Bool} {ids:List Str} {led:Led} (hn:4≤n) (M:MoOk m):
 af cx n (dot "Printer" "kind_rows") [.v (prD (mdD m) nm b ids)] led (.v (.list (sD (m.kinds.map knS)))) led:=by
 have F:=λk (h:k∈m.kinds)=>aL (ae (vM (M.kinds k h)) rfl)
 have c1:=λ{m'} (hm:n=m'+1) k led (h:k∈m.kinds)=>ec (cx:=cx) (n:=m') (w:="param") (led:=led) (lv hn hm rfl) (.inl rfl) (M.kinds k h).1
 have c2:=λ{m'} (hm:n=m'+1) k led (h:k∈m.kinds)=>ec (cx:=cx) (n:=m') (w:="result") (led:=led) (lv hn hm rfl) (.inr (.inl rfl)) (M.kinds k h).2
 obtain⟨kinds,imports,funcs,tables,memories,globals,exports,start,elems,datas⟩:=m
 refine upto3 (P:=λl=>af cx n (dot "Printer" "kind_rows") [.v (prD (mdD ⟨l,imports,funcs,tables,memories,globals,exports,start,elems,datas⟩) nm b ids)] led (.v (.list (sD (l.map knS)))) led) M.kindsL ?_ (λk1 h1=>?_) (λk1 k2 h1 h2=>?_) (λk1 k2 k3 h1 h2 h3=>?_)
 · refine ax (d:=dfM 117 1) (mt:=["found"]) [] (by kernel_rfl) rfl (one_le hn) λm1 hm=>?_
   exact And.intro trivial rfl
 · refine ax (d:=dfM 117 1) (mt:=["found"]) [.p (.str (aP "param" k1.p)),.p (.str (aP "result" k1.r))] (by kernel_rfl) rfl (one_le hn) λm1 hm=>?_
   exact And.intro ⟨rfl,F k1 h1,aa (F k1 h1),c2 hm k1 _ h1,aa (aa (F k1 h1)),c1 hm k1 _ h1,trivial⟩ rfl
 · refine ax (d:=dfM 117 1) (mt:=["found"]) [.p (.str (aP "param" k1.p)),.p (.str (aP "result" k1.r)),.p (.str (aP "param" k2.p)),.p (.str (aP "result" k2.r))] (by kernel_rfl) rfl (one_le hn) λm1 hm=>?_
   exact And.intro ⟨rfl,F k2 h2,aa (F k2 h2),c2 hm k2 _ h2,aa (aa (F k2 h2)),c1 hm k2 _ h2,rfl,F k1 h1,aa (F k1 h1),c2 hm k1 _ h1,aa (aa (F k1 h1)),c1 hm k1 _ h1,trivial⟩ rfl
 · refine ax (d:=dfM 117 1) (mt:=["found"]) [.p (.str (aP "param" k1.p)),.p (.str (aP "result" k1.r)),.p (.str (aP "param" k2.p)),.p (.str (aP "result" k2.r)),.p (.str (aP "param" k3.p)),.p (.str (aP "result" k3.r))] (by kernel_rfl) rfl (one_le hn) λm1 hm=>?_
   exact And.intro ⟨rfl,F k3 h3,aa (F k3 h3),c2 hm k3 _ h3,aa (aa (F k3 h3)),c1 hm k3 _ h3,rfl,F k2 h2,aa (F k2 h2),c2 hm k2 _ h2,aa (aa (F k2 h2)),c1 hm k2 _ h2,rfl,F k1 h1,aa (F k1 h1),c2 hm k1 _ h1,aa (aa (F k1 h1)),c1 hm k1 _ h1,trivial⟩ rfl
theorem lE {s:Str} {a:Ab} (hs:s.length≤1000) (h:Dq a):(abS s a).length≤1100:=by
 cases a with
 | fn t=>
   have h2:(ao (t:Int)).length≤10:=Nat.le_of_ble_eq_true (bW (f:=λt=>Nat.ble (ao (t:Int)).length 10) (g:=λ_=>true) (by kernel_rfl) (show t<4 from h))
   exact ai (ag (ag (ag (ag (Nat.le_refl 5) (Nat.le_trans (eu s) (Nat.succ_le_succ hs))) (Nat.le_refl 7)) h2) (Nat.le_refl 2)) rfl
 | tb k x y=>exact Nat.le_of_ble_eq_true (ik (l:=vks) (m:=rg 3) (k:=rg 3) (f:=λk x y=>Nat.ble (abS s (.tb k x y)).length 1100) (g:=λ_ _ _=>true) (by kernel_rfl) (c7 k) (aO h.1) (aO h.2))
 | me x y=>exact Nat.le_of_ble_eq_true (b9 (l:=rg 3) (m:=rg 3) (f:=λx y=>Nat.ble (abS s (.me x y)).length 1100) (g:=λ_ _=>true) (by kernel_rfl) (aO h.1) (aO h.2))
 | gl k m=>exact Nat.le_of_ble_eq_true (b9 (l:=vks) (m:=rg 2) (f:=λk m=>Nat.ble (abS s (.gl k m)).length 1100) (g:=λ_ _=>true) (by kernel_rfl) (c7 k) (aO h))
theorem nZ {n i:Nat} {m nm:D} {b:Bool} {ids:List Str} {s:Str} {im:Im} {led:Led} (hn:4≤n) (hi:isFn im.a=true→ids[i]? =some s) (h1:i≤1000) (hs:s.length≤1000) (hm:pW im):
 af cx n (dot "Printer" "about_text") [.v (prD m nm b ids),.v (imD im),.v (.int i)] led (.v (.str (abS s im.a))) led:=by
 obtain⟨p,q,a⟩:=im
 obtain⟨_,_,h⟩:=hm
 have F:=ae (lE hs h) rfl
 cases a with
 | fn t=>
   have f:=aL F
   refine ax (d:=dfM 117 3) (mt:=[]) [.p (.str (ahead s))] (by kernel_rfl) rfl (one_le hn) λm1 hm=>?_
   exact And.intro ⟨f,aa f,aW (Nat.le_of_lt h) rfl,aa (aa f),aa (aa (aa f)),dR (lv hn hm rfl) (hi rfl) h1 hs,trivial⟩ rfl
 | tb k x y=>
   obtain⟨n,rfl⟩:=le_succ hn
   exact dn (m:=(n+3)) (d:=(dfM 117 3)) (mt:=[]) (by kernel_rfl) rfl (ik (l:=vks) (m:=rg 3) (k:=rg 3) (f:=λk x y=>cQ cx (n+3) [] (dfM 117 3) [(prD m nm b ids),(imD ⟨p,q,.tb k x y⟩),(.int i)] (λρ _=>tell (ρ=(.str (abS s (.tb k x y))))) [.z] True) (g:=λk x y=>(True∧((.str (abS s (.tb k x y))):D)=(.str (abS s (.tb k x y))))) (by kernel_rfl) (c7 k) (aO h.1) (aO h.2))
 | me x y=>
   obtain⟨n,rfl⟩:=le_succ hn
   exact dn (m:=(n+3)) (d:=(dfM 117 3)) (mt:=[]) (by kernel_rfl) rfl (b9 (l:=rg 3) (m:=rg 3) (f:=λx y=>cQ cx (n+3) [] (dfM 117 3) [(prD m nm b ids),(imD ⟨p,q,.me x y⟩),(.int i)] (λρ _=>tell (ρ=(.str (abS s (.me x y))))) [.z] True) (g:=λx y=>(True∧((.str (abS s (.me x y))):D)=(.str (abS s (.me x y))))) (by kernel_rfl) (aO h.1) (aO h.2))
 | gl k m'=>
   obtain⟨n,rfl⟩:=le_succ hn
   exact dn (m:=(n+3)) (d:=(dfM 117 3)) (mt:=[]) (by kernel_rfl) rfl (b9 (l:=vks) (m:=rg 2) (f:=λk x=>cQ cx (n+3) [] (dfM 117 3) [(prD m nm b ids),(imD ⟨p,q,.gl k x⟩),(.int i)] (λρ _=>tell (ρ=(.str (abS s (.gl k x))))) [.z] True) (g:=λk x=>(True∧((.str (abS s (.gl k x))):D)=(.str (abS s (.gl k x))))) (by kernel_rfl) (c7 k) (aO h))
end Mine
end
section
open PySem
namespace Mine
variable {cx:Cx}
noncomputable def iP:Nat→List Nat→List (Int×D)
 | _,[]=>[]
 | k,y::ys=>if y<7 then ((k:Int),.str (bN y).1)::iP (k+1) ys else iP (k+1) ys
noncomputable def bp (ys:List Nat):List (Int×D):=iP 0 ys
theorem pK:∀{ys:List Nat} {k i:Nat},i<k→dU (iP k ys) (i:Int)=none
 | [],k,i,h=>rfl
 | y::ys,k,i,h=>dE (p:=y<7) (λq=>(congrArg (dU · (i:Int)) (if_pos q)).trans ((if_neg λz=>Nat.ne_of_gt h (Int.ofNat.inj z)).trans (pK (Nat.lt_succ_of_lt h)))) λq=>(congrArg (dU · (i:Int)) (if_neg q)).trans (pK (Nat.lt_succ_of_lt h))
theorem rt:∀{ys:List Nat} {k i:Nat},k≤i→dU (iP k ys) (i:Int)=(if ys.getD (i - k) 8<7 then some (.str (bN (ys.getD (i - k) 8)).1)else none)
 | [],k,i,h=>(if_neg (show¬8<7 by decide)).symm
 | y::ys,k,i,h=>dE (p:=i=k)
   (λe=>by
     rw[e,Nat.sub_self]
     exact dE (p:=y<7) (λq=>(congrArg (dU · (k:Int)) (if_pos q)).trans ((if_pos rfl).trans (if_pos q).symm)) λq=>((congrArg (dU · (k:Int)) (if_neg q)).trans (pK (Nat.lt_succ_self k))).trans (if_neg q).symm)
   λe=>by
    have lt:=Nat.lt_of_le_of_ne h (Ne.symm e)
    rw[show i - k=(i - (k+1))+1 from (Nat.succ_sub_succ i k).symm.trans (Nat.succ_sub lt)]
    have ih:=rt (ys:=ys) lt
    exact dE (p:=y<7) (λq=>(congrArg (dU · (i:Int)) (if_pos q)).trans ((if_neg λz=>e (Int.ofNat.inj z).symm).trans ih)) λq=>(congrArg (dU · (i:Int)) (if_neg q)).trans ih
noncomputable def AO:Nat→Option Str
 | 0=>some "$f" | 1=>some "$a!~" | 5=>some "$9" | _=>none
noncomputable def inS (x:Str):List Str→Bool
 | []=>false
 | y::l=>eqS y x || inS x l
theorem oC {x:Str}:∀{l:List Str},ke x (sD l)=some (inS x l)
 | []=>rfl
 | y::l=>by
   show (ke x (sD l)).bind (λb=>some (eqS y x || b))=_
   rw[oC];rfl
noncomputable def nextId (acc:List Str) (y:Nat):Str:=match AO y with
 | some s=>if inS s acc then "" else s
 | none=>""
noncomputable def iV:List Nat→List Str→List Str
 | [],acc=>acc
 | y::ys,acc=>iV ys (acc++[nextId acc y])
noncomputable def yAt (ys:List Nat) (i:Nat):Nat:=ys.getD i 8
noncomputable def bD (ys:List Nat) (many:Nat):List Str:=iV ((List.range many).map (yAt ys)) []
theorem mQ:∀{a b:List Nat} {acc:List Str},iV (a++b) acc=iV b (iV a acc)
 | [],b,acc=>rfl
 | y::a,b,acc=>mQ (a:=a)
theorem ek {ys:List Nat} {i:Nat}:bD ys (i+1)=bD ys i++[nextId (bD ys i) (yAt ys i)]:=by
 unfold bD
 rw[List.range_succ,List.map_append,mQ]
 rfl
theorem cC {ys:List Nat}:∀{i:Nat},(bD ys i).length=i
 | 0=>rfl
 | i+1=>by rw[ek,List.length_append,cC];rfl
theorem tN {acc:List Str} {y:Nat}:(nextId acc y).length≤4:=by
 unfold nextId
 have k:okO (AO y) λs=>s.length≤4:=by rcases y with _ | _ | _ | _ | _ | _ | _<;>first | exact Nat.le_of_ble_eq_true rfl | exact trivial
 cases e:AO y with
 | some s=>exact xq (c:=inS s acc=true) (a:=("":Str)) (b:=s) (P:=λt=>t.length≤4) (Nat.zero_le _) (okE (P:=λs=>s.length≤4) k e)
 | none=>exact Nat.zero_le _
theorem bU {ys:List Nat}:∀{i:Nat},∀s∈bD ys i,s.length≤4
 | 0,s,h=>by cases h
 | i+1,s,h=>by
   rw[ek]at h
   rcases List.mem_append.mp h with h | h
   · exact bU s h
   · rw[List.mem_singleton]at h;subst h;exact tN
theorem je {k:Nat}:∀{n i:Nat} {it:It},((cY k n).map It.one)[i]? =some it→i<n∧it= .one (.v (.int ((k+i:Nat):Int)))
 | 0,i,it,h=>nE h
 | n+1,0,it,h=>by
   have h:some (It.one (.v (.int (k:Int))))=some it:=h
   exact⟨Nat.succ_pos _,(Option.some.inj h).symm⟩
 | n+1,i+1,it,h=>by
   have q:=je (k:=k+1) (n:=n) (i:=i) h
   exact⟨Nat.succ_lt_succ q.1,by rw[q.2,Nat.add_right_comm];rfl⟩
theorem eO {k:Nat}:∀{n:Nat},((cY k n).map It.one).length=n:=by
 intro n
 induction n generalizing k with
 | zero=>rfl
 | succ n ih=>show ((cY (k+1) n).map It.one).length+1=_;rw[ih]
theorem d8 {l:List Str} {s:Str}:sD l++[.str s]=sD (l++[s]):=by unfold sD;rw[List.map_append];rfl
theorem Ae {led:Led} {ys:List Nat} {i:Nat} {z:D}:iA led .get (.v (.dict (bp ys))) [.v (.int (i:Int)),.v z]=some (.v (if yAt ys i<7 then .str (bN (yAt ys i)).1 else z),led):=by
 show some (AV.v ((dU (bp ys) (i:Int)).getD z),led)=_
 have:=rt (ys:=ys) (k:=0) (i:=i) (Nat.zero_le _)
 rw[Nat.sub_zero]at this
 unfold bp yAt
 rw[this]
 split<;>rfl
theorem oP {x:Str} {acc:List Str} {led:Led} {n:Nat} (h:led[n]? =some (.list (sD acc)):=by rfl):kx led .NotIn (.v (.str x)) (.r n)=some (!inS x acc):=by
 unfold kx
 show Option.bind (some (D.str x)) _=_
 rw[Option.bind_some]
 have:view led (.r n)=some (.list (sD acc)):=by show led[n]?.bind yu=_;rw[h];rfl
 rw[this,Option.bind_some]
 show (ke x (sD acc)).map (!·)=_
 rw[oC];rfl
theorem fj {acc:List Str} {y:Nat} {s:Str} (hc:AO y=some s) (h:(!inS s acc)=true):nextId acc y=s:=by
 unfold nextId;rw[hc];dsimp only;rw[if_neg (by simpa using h)]
theorem fm {acc:List Str} {y:Nat} {s:Str} (hc:AO y=some s) (h:(!inS s acc)=false):nextId acc y= "":=by
 unfold nextId;rw[hc];dsimp only;rw[if_pos (by simpa using h)]
noncomputable abbrev gU (cx:Cx) (m:Nat):Eng:=g0w cx m ["found"] (dfD 102)
noncomputable abbrev CG (ys:List Nat) (many:Nat):Loc:=[("told",.v (.dict (bp ys))),("many",.v (.int (many:Int))),("found",.r 0)]
theorem zN {m i many:Nat} {ys:List Nat} (hi:i≤10) (hy:yAt ys i<9):∃f l1 led1,(led1=[.list (sD (bD ys (i+1)))]∧(f= .next∨f= .cont)∧SubL (CG ys many) l1)∧
 bA (gU cx m).c (gU cx m).n (gU cx m).sc (bF (stB (dfD 102).body 1)) (bu (stB (dfD 102).body 1)) (.one (.v (.int (i:Int)))) (CG ys many) [.list (sD (bD ys i))] f l1 led1:=by
 have g:=Ae (led:=[.list (sD (bD ys i))]) (ys:=ys) (i:=i) (z:= .str "")
 have hl:(bD ys i).length≤1000:=by rw[cC];exact ai hi rfl
 have F:=cn hl
 rw[ek,←d8]
 generalize bD ys i=acc at *
 generalize yAt ys i=y at *
 have c:=λx=>oP (x:=x) (acc:=acc) (led:=[.list (sD acc)]) (n:=0)
 rcases lt9 hy with rfl | rfl | rfl | rfl | rfl | rfl | rfl | rfl | rfl
 · cases e:inS "$f" acc with
   | true=>
     refine aH (g:=gU cx m) [.p (.str "f"),.c false] ?_
     exact And.intro ⟨F,(c _).trans (congrArg (some !·) e),rfl,g,trivial⟩ ⟨congrArg (λs=>[LO.list (sD acc++[D.str s])]) (fm (y:=0) rfl (congrArg (!·) e)).symm,.inl rfl,SubL.drop rfl⟩
   | false=>
     refine aH (g:=gU cx m) [.p (.str "f"),.c true] ?_
     exact And.intro ⟨F,rfl,(c _).trans (congrArg (some !·) e),rfl,g,trivial⟩ ⟨congrArg (λs=>[LO.list (sD acc++[D.str s])]) (fj (y:=0) rfl (congrArg (!·) e)).symm,.inl rfl,SubL.drop rfl⟩
 · cases e:inS "$a!~" acc with
   | true=>
     refine aH (g:=gU cx m) [.p (.str "a!~"),.c false] ?_
     exact And.intro ⟨F,(c _).trans (congrArg (some !·) e),rfl,g,trivial⟩ ⟨congrArg (λs=>[LO.list (sD acc++[D.str s])]) (fm (y:=1) rfl (congrArg (!·) e)).symm,.inl rfl,SubL.drop rfl⟩
   | false=>
     refine aH (g:=gU cx m) [.p (.str "a!~"),.c true] ?_
     exact And.intro ⟨F,rfl,(c _).trans (congrArg (some !·) e),rfl,g,trivial⟩ ⟨congrArg (λs=>[LO.list (sD acc++[D.str s])]) (fj (y:=1) rfl (congrArg (!·) e)).symm,.inl rfl,SubL.drop rfl⟩
 · refine aH (g:=gU cx m) [.p (.str "")] ?_
   exact And.intro ⟨F,g,trivial⟩ ⟨rfl,.inl rfl,SubL.drop rfl⟩
 · refine aH (g:=gU cx m) [.p (.str "x y")] ?_
   exact And.intro ⟨F,g,trivial⟩ ⟨rfl,.inl rfl,SubL.drop rfl⟩
 · refine aH (g:=gU cx m) [.p (.str "é")] ?_
   exact And.intro ⟨F,g,trivial⟩ ⟨rfl,.inl rfl,SubL.drop rfl⟩
 · cases e:inS "$9" acc with
   | true=>
     refine aH (g:=gU cx m) [.p (.str "9"),.c false] ?_
     exact And.intro ⟨F,(c _).trans (congrArg (some !·) e),rfl,g,trivial⟩ ⟨congrArg (λs=>[LO.list (sD acc++[D.str s])]) (fm (y:=5) rfl (congrArg (!·) e)).symm,.inl rfl,SubL.drop rfl⟩
   | false=>
     refine aH (g:=gU cx m) [.p (.str "9"),.c true] ?_
     exact And.intro ⟨F,rfl,(c _).trans (congrArg (some !·) e),rfl,g,trivial⟩ ⟨congrArg (λs=>[LO.list (sD acc++[D.str s])]) (fj (y:=5) rfl (congrArg (!·) e)).symm,.inl rfl,SubL.drop rfl⟩
 · refine aH (g:=gU cx m) [.p (.str "(")] ?_
   exact And.intro ⟨F,g,trivial⟩ ⟨rfl,.inl rfl,SubL.drop rfl⟩
 · refine aH (g:=gU cx m) [.p (.str "")] ?_
   exact And.intro ⟨F,g,trivial⟩ ⟨rfl,.inl rfl,SubL.drop rfl⟩
 · refine aH (g:=gU cx m) [.p (.str "")] ?_
   exact And.intro ⟨F,g,trivial⟩ ⟨rfl,.inl rfl,SubL.drop rfl⟩
theorem oF {n many:Nat} {ys:List Nat} {led:Led} (hn:1≤n) (hmy:many≤10) (hy:∀i,yAt ys i<9):af cx n "ids_of" [.v (.dict (bp ys)),.v (.int (many:Int))] led (.v (.list (sD (bD ys many)))) led:=by
 have T:=λm=>aV (sc:=(dfD 102).sc) (is:=(cY 0 many).map It.one) (c:=(gU cx m).c) (n:=(gU cx m).n) (t:=(bF (stB (dfD 102).body 1))) (body:=(bu (stB (dfD 102).body 1))) (λ_=>CG ys many) (λi=>[.list (sD (bD ys i))]) λi it h=>by
  obtain⟨h3,rfl⟩:=je h
  rw[Nat.zero_add]
  exact zN (Nat.le_trans (Nat.le_of_lt h3) hmy) (hy i)
 rw[eO]at T
 refine ax (d:=dfD 102) (mt:=["found"]) [.w .next (CG ys many) [.list (sD (bD ys many))]] (by kernel_rfl) rfl (one_le hn) λm1 hm=>?_
 exact And.intro ⟨T m1,ae hmy rfl,trivial⟩ rfl
end Mine
end
section
open PySem
namespace Mine
variable {cx:Cx}
noncomputable def nfn:List Im→Nat
 | []=>0
 | m::l=>(if isFn m.a then 1 else 0)+nfn l
theorem lg:∀{l k:List Im},nfn (l++k)=nfn l+nfn k
 | [],k=>by simp[nfn]
 | m::l,k=>by show _+nfn (l++k)=_+nfn l+nfn k;rw[lg];lia
noncomputable def dS (ids:List Str) (i:Nat):Str:=ids.getD i ""
noncomputable def imS (ids:List Str) (f:Nat) (m:Im):Str:="(i\x6dport "++(strN m.p).2++ " "++(strN m.q).2++ " "++abS (dS ids f) m.a++ ")"
noncomputable def az (ids:List Str):Nat→List Im→List Str
 | _,[]=>[]
 | f,m::l=>imS ids f m::az ids (f+(if isFn m.a then 1 else 0)) l
theorem iU {ids:List Str}:∀{l k:List Im} {f:Nat},az ids f (l++k)=az ids f l++az ids (f+nfn l) k
 | [],k,f=>by simp[az,nfn]
 | m::l,k,f=>by
   show _::az ids _ (l++k)=_::(az ids _ l++az ids (f+(_+nfn l)) k)
   rw[iU,Nat.add_assoc]
theorem eI {ids:List Str}:∀{l:List Im} {f:Nat},(az ids f l).length=l.length
 | [],f=>rfl
 | m::l,f=>by show _+1=_+1;rw[eI]
theorem lQ {i:Nat}:(strN i).2.length≤20:=by rcases i with _ | _ | _ | _ | _<;>exact Nat.le_of_ble_eq_true (by kernel_rfl)
theorem fD {ids:List Str} {i n:Nat} (h:∀s∈ids,s.length≤n):(dS ids i).length≤n:=by
 unfold dS
 rw[List.getD_eq_getElem?_getD]
 cases e:ids[i]? with
 | none=>exact Nat.zero_le _
 | some s=>exact h s (List.mem_of_getElem? e)
theorem jE {ids:List Str} {i:Nat} (h:i<ids.length):ids[i]? =some (dS ids i):=by
 unfold dS
 rw[List.getD_eq_getElem?_getD,List.getElem?_eq_getElem h];rfl
theorem zh {l:List Im} {i:Nat} {m:Im} (h:l[i]? =some m) (hf:isFn m.a=true):nfn (l.take i)<nfn l:=by
 have e:l=l.take i++(m::l.drop (i+1)):=by
  obtain⟨hi,rfl⟩:=List.getElem?_eq_some_iff.mp h
  rw[←List.drop_eq_getElem_cons hi,List.take_append_drop]
 have:nfn l=nfn (l.take i)+nfn (m::l.drop (i+1)):=by rw[←lg,←e]
 rw[this]
 show _<_+((if isFn m.a=true then 1 else 0)+_)
 rw[if_pos hf];lia
theorem pV {ids:List Str} {f:Nat} {m:Im} (hs:∀s∈ids,s.length≤1000) (h:pW m):(imS ids f m).length≤1200:=
 ai (ag (ag (ag (ag (ag (ag (Nat.le_refl 8) lQ) (Nat.le_refl 1)) lQ) (Nat.le_refl 1)) (lE (fD hs) h.2.2)) (Nat.le_refl 1)) rfl
theorem my:∀{l:List Im},nfn l≤l.length
 | []=>Nat.le_refl _
 | a::l=>by have:=my (l:=l);show (if isFn a.a=true then 1 else 0)+nfn l≤l.length+1;split<;>lia
theorem wY {a:Ab} {i:Nat}:((i:Nat):Int)+(if decide (nB a=0)=true then 1 else 0)=((i+(if isFn a=true then 1 else 0):Nat):Int):=by cases a<;>simp[isFn,nB]
noncomputable abbrev xx (cx:Cx) (m:Nat):Eng:=g0w cx m ["found"] (dfM 117 4)
noncomputable abbrev impB (s:D) (z:Int):Loc:=[("self",.v s),("found",.r 0),("funcs",.v (.int z))]
noncomputable abbrev CC (s:D) (i:Nat):Loc:=impB s (i:Int)
theorem rV {n m':Nat} {m:Mo} {nm:D} {b:Bool} {ids:List Str} (hn:5≤n) (hm:n=m'+1) (M:MoOk m) (hl:nfn m.imports≤ids.length) (hs:∀s∈ids,s.length≤1000) {i:Nat} {k:Im} (h:m.imports[i]? =some k):
 ∃f l1 led1,(led1=[.list (sD (az ids 0 (m.imports.take (i+1))))]∧(f= .next∨f= .cont)∧SubL (CC (prD (mdD m) nm b ids) (nfn (m.imports.take (i+1)))) l1)∧
 bA (xx cx m').c (xx cx m').n (xx cx m').sc (bF (stB (dfM 117 4).body 1)) (bu (stB (dfM 117 4).body 1)) (.one (.v (imD k))) (CC (prD (mdD m) nm b ids) (nfn (m.imports.take i))) [.list (sD (az ids 0 (m.imports.take i)))] f l1 led1:=by
 have hk:=M.imports k (List.mem_of_getElem? h)
 have h4:nfn (m.imports.take i)≤1000:=Nat.le_trans my (Nat.le_trans (by rw[List.length_take];exact Nat.min_le_right _ _) (ai M.importsL rfl))
 have hget:isFn k.a=true→ids[nfn (m.imports.take i)]? =some (dS ids (nfn (m.imports.take i))):=λhf=>jE (Nat.lt_of_lt_of_le (zh h hf) hl)
 have f:=aL (ae (pV (f:=nfn (m.imports.take i)) hs hk) rfl)
 have fl:fits (sD (az ids 0 (m.imports.take i))).length=true:=cn (by rw[eI,List.length_take];exact Nat.le_trans (Nat.min_le_right _ _) (ai M.importsL rfl))
 have f2:=aa (aa f)
 rw[cR h,iU,lg,Nat.zero_add,show∀f,az ids f [k]=[imS ids f k] from λ_=>rfl,←d8]
 generalize nfn (m.imports.take i)=fi at *
 refine aH (g:=xx cx m') [.p (.str (abS (dS ids fi) k.a)),.p (.str (strN k.p).2),.p (.str (strN k.q).2)] ?_
 exact And.intro ⟨fl,f,aa f,f2,aa f2,fS (lv hn hm rfl) hk.2.1,aa (aa f2),aa (aa (aa f2)),fS (lv hn hm rfl) hk.1,nZ (lv hn hm rfl) hget h4 (fD hs) hk,trivial⟩ ⟨rfl,.inl rfl,SubL.drop (congrArg (impB (prD (mdD m) nm b ids)) (wY (a:=k.a) (i:=fi)))⟩
theorem mM {n:Nat} {m:Mo} {nm:D} {b:Bool} {ids:List Str} {led:Led} (hn:5≤n) (M:MoOk m) (hl:nfn m.imports≤ids.length) (hs:∀s∈ids,s.length≤1000):
 af cx n (dot "Printer" "import_rows") [.v (prD (mdD m) nm b ids)] led (.v (.list (sD (az ids 0 m.imports)))) led:=by
 have T:=λm' hm=>aV (sc:=(dfM 117 4).sc) (is:=((m.imports.map imD).map AV.v).map It.one) (c:=(xx cx m').c) (n:=(xx cx m').n) (t:=(bF (stB (dfM 117 4).body 1))) (body:=(bu (stB (dfM 117 4).body 1))) (λi=>CC (prD (mdD m) nm b ids) (nfn (m.imports.take i))) (λi=>[.list (sD (az ids 0 (m.imports.take i)))]) λi it h=>by
  obtain⟨k,hki,rfl⟩:=ones h
  exact rV hn hm M hl hs hki
 rw[yA]at T
 refine ax (d:=dfM 117 4) (mt:=["found"]) [.w .next (CC (prD (mdD m) nm b ids) (nfn m.imports)) [.list (sD (az ids 0 m.imports))]] (by kernel_rfl) rfl (one_le hn) λm1 hm=>?_
 exact And.intro ⟨T _ hm,trivial⟩ rfl
structure Nn where
 mod:Option Nat
 ys:List Nat
 locs:List (Nat×List Nat)
noncomputable def eG:Option Nat→D
 | none=> .none
 | some i=> .str (bN i).1
noncomputable def dO (l:List (Nat×List Nat)):List (Int×D):=l.map λp=>((p.1:Int),.dict (bp p.2))
noncomputable def nnD:Option Nn→D
 | none=> .none
 | some n=> .obj "Names" [("module",eG n.mod),("funcs",.dict (bp n.ys)),("locals",.dict (dO n.locs)),("is_whole",.bool true)]
noncomputable def fT:List (Nat×List Nat)→Nat→List Nat
 | [],_=>[]
 | p::l,i=>if p.1=i then p.2 else fT l i
noncomputable def dP (nn:Option Nn) (i:Nat):List Nat:=match nn with
 | none=>[]
 | some n=>fT n.locs i
noncomputable def eT (nn:Option Nn):List Nat:=match nn with
 | none=>[]
 | some n=>n.ys
theorem CX {led:Led} {i:Nat}:∀{l:List (Nat×List Nat)},iA led .get (.v (.dict (dO l))) [.v (.int (i:Int)),.v (.dict [])]=some (.v (.dict (bp (fT l i))),led):=by
 have key:∀l:List (Nat×List Nat),dU (dO l) (i:Int)=some (.dict (bp (fT l i)))∨(dU (dO l) (i:Int)=none∧fT l i=[]):=by
  intro l
  induction l with
  | nil=>exact .inr ⟨rfl,rfl⟩
  | cons p l ih=>
    exact dE (p:=p.1=i) (λe=> .inl ((if_pos (congrArg Int.ofNat e)).trans (congrArg (λx=>some (D.dict (bp x))) (if_pos e).symm))) λe=>
     have e':=λz=>e (Int.ofNat.inj z)
     ih.imp (λh=>((if_neg e').trans h).trans (congrArg (λx=>some (D.dict (bp x))) (if_neg e).symm)) λh=>⟨(if_neg e').trans h.1,(if_neg e).trans h.2⟩
 intro l
 show some (AV.v ((dU (dO l) (i:Int)).getD (.dict [])),led)=_
 rcases key l with h | ⟨h,h2⟩
 · rw[h];rfl
 · rw[h,h2];rfl
theorem rX:∀{i:Nat},cZ [.str ""] i=sD (bD [] i)
 | 0=>rfl
 | i+1=>by
   have hr:∀i,cZ [D.str ""] (i+1)=cZ [D.str ""] i++[D.str ""]:=by
    intro i
    induction i with
    | zero=>rfl
    | succ i ih=>show [D.str ""]++cZ [D.str ""] (i+1)=([D.str ""]++cZ [D.str ""] i)++[D.str ""];rw[ih,List.append_assoc]
   rw[hr,rX,ek,←d8];rfl
theorem pN {n index many:Nat} {m:D} {nn:Option Nn} {b:Bool} {ids:List Str} {led:Led} (hn:2≤n) (hmy:many≤10) (hy:∀i,yAt (dP nn index) i<9):
 af cx n (dot "Printer" "local_ids") [.v (prD m (nnD nn) b ids),.v (.int index),.v (.int many)] led (.v (.list (sD (bD (dP nn index) many)))) led:=by
 cases nn with
 | none=>
   refine ax (d:=dfM 117 5) (mt:=[]) [.b (.list (cZ [.str ""] many))] (by kernel_rfl) rfl (one_le hn) λm1 hm=>?_
   refine And.intro ⟨?_,trivial⟩ (congrArg D.list rX)
   show guard (fits many&&fits (1 * many)) _=_
   rw[Nat.one_mul,ae hmy rfl];rfl
 | some nn=>
   refine ax (d:=dfM 117 5) (mt:=[]) [.p (.dict (bp (fT nn.locs index))),.p (.list (sD (bD (fT nn.locs index) many)))] (by kernel_rfl) rfl (one_le hn) λm1 hm=>?_
   exact And.intro ⟨oF (lv hn hm rfl) hmy hy,CX,trivial⟩ rfl
noncomputable def cB (m:Mo) (k:Nat):Kn:=m.kinds.getD k ⟨[],[]⟩
theorem jA {m:Mo} {k:Nat} (M:MoOk m):fU (cB m k):=by
 unfold cB
 rw[List.getD_eq_getElem?_getD]
 cases e:m.kinds[k]? with
 | none=>exact⟨Nat.zero_le _,Nat.zero_le _⟩
 | some s=>exact M.kinds s (List.mem_of_getElem? e)
theorem tX {m:Mo} {k:Nat} (h:k<m.kinds.length):(m.kinds.map knD)[k]? =some (knD (cB m k)):=by
 rw[List.getElem?_map];unfold cB;rw[List.getD_eq_getElem?_getD,List.getElem?_eq_getElem h];rfl
theorem Fy {m:Mo} {k:Nat} (h:m.kinds.length≤k):cB m k=⟨[],[]⟩:=by
 unfold cB;rw[List.getD_eq_getElem?_getD,List.getElem?_eq_none h];rfl
theorem zx {m:Mo} {k:Nat} (h:k<m.kinds.length):decide ((k:Int)<Int.ofNat (m.kinds.map knD).length)=true:=decide_eq_true (by rw[List.length_map];exact Int.ofNat_lt.mpr h)
theorem zy {m:Mo} {k:Nat} (h:m.kinds.length≤k):decide ((k:Int)<Int.ofNat (m.kinds.map knD).length)=false:=decide_eq_false (by rw[List.length_map];exact λz=>Nat.not_lt.mpr h (Int.ofNat_lt.mp z))
theorem aq {α β:Type} {f:α→β} {l:List α} {k:Nat} (h:l.length≤k) (e:Nat.ble k 1048576=true):fits (l.map f).length=true:=by rw[List.length_map];exact ae h e
theorem mG {n:Nat} {m:Mo} {nm:D} {b:Bool} {ids:List Str} {f:Fu} {led:Led} (hn:1≤n) (M:MoOk m) (hf:nV f):
 af cx n (dot "Printer" "kind_of") [.v (prD (mdD m) nm b ids),.v (fuD f)] led (.v (knD (cB m f.kind))) led:=by
 have fk:=aq (f:=knD) M.kindsL rfl
 rcases Nat.lt_or_ge f.kind m.kinds.length with q | q
 · have it:=item_list (ai (Nat.le_of_lt hf.1) rfl) (tX q)
   refine ax (d:=dfM 117 7) (mt:=[]) [.t,.i (knD (cB m f.kind))] (by kernel_rfl) rfl (one_le hn) λm1 hm=>?_
   exact And.intro ⟨it,zx q,fk,trivial⟩ rfl
 · refine ax (d:=dfM 117 7) (mt:=[]) [.f] (by kernel_rfl) rfl (one_le hn) λm1 hm=>?_
   exact And.intro ⟨zy q,fk,trivial⟩ (by rw[Fy q];rfl)
end Mine
end
section
open PySem
namespace Mine
variable {cx:Cx}
noncomputable def kU (l:List Str):Bool:=anyB (l.map λs=>!isE s)
noncomputable def gi (l:List Str):Bool:=allB (l.map isE)
noncomputable def decls (w:Str):List Str→List Vk→Str→Str
 | s::ss,k::ks,acc=>decls w ss ks (acc++declS w s k)
 | _,_,acc=>acc
noncomputable def dt (s:Str) (kind:Nat):Str:="(func"++ahead s++ " (type "++ao kind++ ")"
noncomputable def dq (s:Str) (kind:Nat) (kn:Kn) (locals:List Vk) (lids:List Str):Str:=
 let t1:=if kU (lids.take kn.p.length)=true then decls "param" lids kn.p (dt s kind)++aP "result" kn.r else dt s kind
 if gi (lids.drop kn.p.length)=true then t1++aP "local" locals else decls "local" (lids.drop kn.p.length) locals t1
theorem zS {s:Str} {kind:Nat} {kn:Kn} {locals:List Vk} {lids:List Str} (h:kU (lids.take kn.p.length)=true) (h2:gi (lids.drop kn.p.length)=true):dq s kind kn locals lids=decls "param" lids kn.p (dt s kind)++aP "result" kn.r++aP "local" locals:=by
 unfold dq;dsimp only;rw[if_pos h2,if_pos h]
theorem zT {s:Str} {kind:Nat} {kn:Kn} {locals:List Vk} {lids:List Str} (h:kU (lids.take kn.p.length)=true) (h2:gi (lids.drop kn.p.length)=false):dq s kind kn locals lids=decls "local" (lids.drop kn.p.length) locals (decls "param" lids kn.p (dt s kind)++aP "result" kn.r):=by
 unfold dq;dsimp only;rw[if_neg (show¬gi (lids.drop kn.p.length)=true by rw[h2];exact Bool.false_ne_true),if_pos h]
theorem zU {s:Str} {kind:Nat} {kn:Kn} {locals:List Vk} {lids:List Str} (h:kU (lids.take kn.p.length)=false) (h2:gi (lids.drop kn.p.length)=true):dq s kind kn locals lids=dt s kind++aP "local" locals:=by
 unfold dq;dsimp only;rw[if_pos h2,if_neg (show¬kU (lids.take kn.p.length)=true by rw[h];exact Bool.false_ne_true)]
theorem zV {s:Str} {kind:Nat} {kn:Kn} {locals:List Vk} {lids:List Str} (h:kU (lids.take kn.p.length)=false) (h2:gi (lids.drop kn.p.length)=false):dq s kind kn locals lids=decls "local" (lids.drop kn.p.length) locals (dt s kind):=by
 unfold dq;dsimp only;rw[if_neg (show¬gi (lids.drop kn.p.length)=true by rw[h2];exact Bool.false_ne_true),if_neg (show¬kU (lids.take kn.p.length)=true by rw[h];exact Bool.false_ne_true)]
theorem dA {w:Str} (hw:w.length≤10):∀{ls:List Str} {ks:List Vk} {acc:Str},(∀s∈ls,s.length≤1000)→(decls w ls ks acc).length≤acc.length+ks.length * 1024
 | [],ks,acc,h=>Nat.le_add_right _ _
 | s::ls,[],acc,h=>Nat.le_add_right _ _
 | s::ls,k::ks,acc,h=>by
   have ih:=dA hw (ls:=ls) (ks:=ks) (acc:=acc++declS w s k) (λx hx=>h x (List.mem_cons_of_mem _ hx))
   have h1:=ie (k:=k) hw (h s List.mem_cons_self)
   rw[lX]at ih
   show (decls w ls ks (acc++declS w s k)).length≤_
   rw[List.length_cons]
   lia
theorem fZ {w:Str} {s:Str} {k:Vk}:∀{ls:List Str} {ks:List Vk} {acc:Str} {i:Nat},ls[i]? =some s→ks[i]? =some k→decls w (ls.take (i+1)) (ks.take (i+1)) acc=decls w (ls.take i) (ks.take i) acc++declS w s k
 | [],ks,acc,i,h,h2=>by cases h
 | x::ls,[],acc,i,h,h2=>by cases h2
 | x::ls,y::ks,acc,0,h,h2=>Option.some.inj h▸Option.some.inj h2▸rfl
 | x::ls,y::ks,acc,i+1,h,h2=>fZ (acc:=acc++declS w x y) (i:=i) (ls:=ls) (ks:=ks) h h2
theorem Em:∀{ls:List Str} {ks:List Vk} {i:Nat} {it:It},(gC ((sD ls).map AV.v) ((kD ks).map AV.v))[i]? =some it→∃s k,ls[i]? =some s∧ks[i]? =some k∧it= .two (.v (.str s)) (.v k.D)
 | [],ks,i,it,h=>by cases h
 | x::ls,[],i,it,h=>by cases h
 | x::ls,y::ks,0,it,h=>by
   have h:some (It.two (.v (.str x)) (.v y.D))=some it:=h
   exact⟨x,y,rfl,rfl,(Option.some.inj h).symm⟩
 | x::ls,y::ks,i+1,it,h=>by
   obtain⟨s,k,a,b,c⟩:=Em (ls:=ls) (ks:=ks) (i:=i) (it:=it) h
   exact⟨s,k,a,b,c⟩
theorem o7:∀{ls:List Str} {ks:List Vk},(gC ((sD ls).map AV.v) ((kD ks).map AV.v)).length=min ls.length ks.length
 | [],ks=>(Nat.zero_min _).symm
 | x::ls,[]=>(Nat.min_zero _).symm
 | x::ls,y::ks=>(congrArg (· +1) (o7 (ls:=ls) (ks:=ks))).trans (Nat.add_min_add_right ..).symm
theorem ic {w:Str}:∀{ls:List Str} {ks:List Vk} {acc:Str},decls w (ls.take (min ls.length ks.length)) (ks.take (min ls.length ks.length)) acc=decls w ls ks acc
 | [],ks,acc=>by rw[List.take_nil];rfl
 | x::ls,[],acc=>by rw[List.length_nil,Nat.min_zero];rfl
 | x::ls,y::ks,acc=>by
   rw[show min (x::ls).length (y::ks).length=min ls.length ks.length+1 from Nat.add_min_add_right ..]
   exact ic (ls:=ls) (ks:=ks) (acc:=acc++declS w x y)
theorem Gq {l:List Str} {p:List Vk}:List.take (bound (Int.ofNat (kD p).length) (sD l).length - 0) (List.drop 0 (sD l))=sD (l.take p.length):=by
 have e:bound (Int.ofNat (kD p).length) (sD l).length=min p.length l.length:=by
  show min (kD p).length (sD l).length=_
  rw[aF];unfold kD;rw[List.length_map]
 rw[e,Nat.sub_zero,List.drop_zero]
 unfold sD;rw[←List.map_take]
 congr 1
 by_cases h:p.length≤l.length
 · rw[Nat.min_eq_left h]
 · rw[Nat.min_eq_right (by lia),List.take_length,List.take_of_length_le (by lia)]
theorem uh {l:List Str} {p:List Vk}:List.take ((sD l).length - bound (Int.ofNat (kD p).length) (sD l).length) (List.drop (bound (Int.ofNat (kD p).length) (sD l).length) (sD l))=sD (l.drop p.length):=by
 have e:bound (Int.ofNat (kD p).length) (sD l).length=min p.length l.length:=by
  show min (kD p).length (sD l).length=_
  rw[aF];unfold kD;rw[List.length_map]
 rw[e,List.take_of_length_le (by rw[List.length_drop];exact Nat.le_refl _)]
 unfold sD;rw[←List.map_drop]
 congr 1
 by_cases h:p.length≤l.length
 · rw[Nat.min_eq_left h]
 · rw[Nat.min_eq_right (by lia),List.drop_length,List.drop_of_length_le (by lia)]
noncomputable abbrev cutT (l:List Str) (p:List Vk):List D:=List.take ((sD l).length - bound (Int.ofNat (kD p).length) (sD l).length) (List.drop (bound (Int.ofNat (kD p).length) (sD l).length) (sD l))
theorem nu {f:Str→Bool}:∀{l:List Str},bools (l.map λs=>D.bool (f s))=some (l.map f)
 | []=>rfl
 | s::l=>by
   show (bools (l.map λs=>D.bool (f s))).bind (λr=>some (f s::r))=_
   rw[nu];rfl
theorem any_eq {l:List Str}:f5 .any (.list (l.map λs=>D.bool (!isE s)))=some (.bool (kU l)):=by
 show (Dn _).map D.bool=_
 unfold Dn;rw[nu (f:=λs=>!isE s)];rfl
theorem all_eq {l:List Str}:f5 .all (.list (l.map λs=>D.bool (isE s)))=some (.bool (gi l)):=by
 show (Dp _).map D.bool=_
 unfold Dp;rw[nu (f:=isE)];rfl
theorem tn {l:List Str}:List.map AV.v (sD l)=l.map λs=>AV.v (.str s):=by unfold sD;rw[List.map_map];rfl
noncomputable def hb (pr:D) (i:Nat) (fu:D) (lids:List Str) (p r:List Vk) (found:Str) (more:Loc):Loc:=
 ("self",.v pr)::("index",.v (.int i))::("func",.v fu)::("ids",.v (.list (sD lids)))::("found",.v (.str found))::("params",.v (.tup (kD p)))::("results",.v (.tup (kD r)))::more
noncomputable abbrev hdG (cx:Cx) (m:Nat):Eng:=g0w cx m [] (dfM 117 6)
noncomputable abbrev CJ:Stmt:=stB (ifB (stB (dfM 117 6).body 2)) 0
noncomputable abbrev CI:Stmt:=stB (dfM 117 6).body 5
theorem iS {ks:List Vk}:(kD ks).length=ks.length:=List.length_map _
section
variable {pr fu:D} {i:Nat} {lids:List Str} {p r:List Vk} {acc:Str}
theorem mV {m:Nat} (hm:2≤m) {ls:List Str} {ks:List Vk} (hls:∀t∈ls,t.length≤1000) (hk:ks.length≤2) (ha:acc.length≤4000):
 bf (hdG cx m).c (hdG cx m).n (hdG cx m).sc (bF CJ) (bu CJ) (gC ((sD ls).map AV.v) ((kD ks).map AV.v)) (hb pr i fu lids p r acc []) [] .next (hb pr i fu lids p r (decls "param" ls ks acc) []) []:=by
 have T:=aV (sc:=(dfM 117 6).sc) (is:=gC ((sD ls).map AV.v) ((kD ks).map AV.v)) (c:=(hdG cx m).c) (n:=(hdG cx m).n) (t:=(bF CJ)) (body:=(bu CJ)) (λj=>hb pr i fu lids p r (decls "param" (ls.take j) (ks.take j) acc) []) (λ_=>[]) λj it hj=>by
  obtain⟨s1,k1,q1,q2,rfl⟩:=Em hj
  rw[fZ q1 q2]
  have b1:=hls s1 (List.mem_of_getElem? q1)
  have F:fits ((decls "param" (ls.take j) (ks.take j) acc).length+(declS "param" s1 k1).length)=true:=ae (Nat.add_le_add (Nat.le_trans (dA (by decide) λx hx=>hls x (List.mem_of_mem_take hx)) (Nat.add_le_add ha (Nat.mul_le_mul_right 1024 (Nat.le_trans (by rw[List.length_take];exact Nat.min_le_right _ _) hk)))) (ie (by decide) b1)) rfl
  generalize decls "param" (ls.take j) (ks.take j) acc=acc at *
  refine aH (g:=hdG cx m) [.p (.str (declS "param" s1 k1))] ?_
  exact And.intro ⟨F,kN hm (by decide) b1,trivial⟩ ⟨rfl,.inl rfl,SubL.drop rfl⟩
 rw[o7,ic]at T
 exact T
theorem mU {m:Nat} (hm:2≤m) {ls:List Str} {ks:List Vk} {xs:List D} (q:xs=sD ls) (hls:∀t∈ls,t.length≤1000) (hk:ks.length≤2) (ha:acc.length≤4000) {o:AV}:
 bf (hdG cx m).c (hdG cx m).n (hdG cx m).sc (bF CI) (bu CI) (gC (xs.map AV.v) ((kD ks).map AV.v)) (hb pr i fu lids p r acc [("own",o)]) [] .next (hb pr i fu lids p r (decls "local" ls ks acc) [("own",o)]) []:=by
 subst q
 have T:=aV (sc:=(dfM 117 6).sc) (is:=gC ((sD ls).map AV.v) ((kD ks).map AV.v)) (c:=(hdG cx m).c) (n:=(hdG cx m).n) (t:=(bF CI)) (body:=(bu CI)) (λj=>hb pr i fu lids p r (decls "local" (ls.take j) (ks.take j) acc) [("own",o)]) (λ_=>[]) λj it hj=>by
  obtain⟨s1,k1,q1,q2,rfl⟩:=Em hj
  rw[fZ q1 q2]
  have b1:=hls s1 (List.mem_of_getElem? q1)
  have F:fits ((decls "local" (ls.take j) (ks.take j) acc).length+(declS "local" s1 k1).length)=true:=ae (Nat.add_le_add (Nat.le_trans (dA (by decide) λx hx=>hls x (List.mem_of_mem_take hx)) (Nat.add_le_add ha (Nat.mul_le_mul_right 1024 (Nat.le_trans (by rw[List.length_take];exact Nat.min_le_right _ _) hk)))) (ie (by decide) b1)) rfl
  generalize decls "local" (ls.take j) (ks.take j) acc=acc at *
  refine aH (g:=hdG cx m) [.p (.str (declS "local" s1 k1))] ?_
  exact And.intro ⟨F,kN hm (by decide) b1,trivial⟩ ⟨rfl,.inl rfl,SubL.drop rfl⟩
 rw[o7,ic]at T
 exact T
end
theorem pX {n i:Nat} {m:Mo} {nm:D} {b:Bool} {ids:List Str} {f:Fu} {lids:List Str} {s:Str} {led:Led} (hn:4≤n) (M:MoOk m) (hf:nV f) (hi:ids[i]? =some s) (hi2:i≤1000) (hs:s.length≤1000)
 (hl:lids.length=(cB m f.kind).p.length+f.locals.length) (hls:∀t∈lids,t.length≤1000):
 af cx n (dot "Printer" "head_text") [.v (prD (mdD m) nm b ids),.v (.int i),.v (fuD f),.v (.list (sD lids))] led (.v (.str (dq s f.kind (cB m f.kind) f.locals lids))) led:=by
 have hko:=λ{m1} (hm:n=m1+1) {led}=>mG (cx:=cx) (nm:=nm) (b:=b) (ids:=ids) (led:=led) (lv hn hm rfl) M hf
 have hkn:=jA (k:=f.kind) M
 have h2:(ao (f.kind:Int)).length≤10:=Nat.le_of_ble_eq_true (bW (f:=λt=>Nat.ble (ao (t:Int)).length 10) (g:=λ_=>true) (by kernel_rfl) hf.1)
 have hk:=aW (Nat.le_of_lt hf.1) rfl
 have hA:(dt s f.kind).length≤1024:=ai (ag (ag (ag (ag (Nat.le_refl 5) (Nat.le_trans (eu s) (Nat.succ_le_succ hs))) (Nat.le_refl 7)) h2) (Nat.le_refl 1)) rfl
 generalize cB m f.kind=kn at *
 obtain⟨kd,locals,body⟩:=f
 obtain⟨p,r⟩:=kn
 obtain⟨hp,hr⟩:p.length≤2∧r.length≤2:=hkn
 have hfl:locals.length≤2:=hf.2.1
 have f0:=aL (ae hA rfl)
 have h7:lids.length≤1000:=hl▸ai (Nat.add_le_add hp hfl) rfl
 have fl:=cn h7
 have fp:fits (kD p).length=true:=aq (ai hp rfl) (k:=2) rfl
 have c1:=(congrArg (List.map AV.v) (Gq (l:=lids) (p:=p))).trans tn
 have c2:=(congrArg (List.map AV.v) (uh (l:=lids) (p:=p))).trans tn
 have hd:=λt (ht:t∈lids.drop p.length)=>hls t (List.mem_of_mem_drop ht)
 have b1:(decls "param" lids p (dt s kd)).length≤1024+2 * 1024:=Nat.le_trans (dA (by decide) hls) (Nat.add_le_add hA (Nat.mul_le_mul_right _ hp))
 have b2:=ag b1 (bI (w:="result") (.inr (.inl rfl)) hr)
 have lr:=λ{m1} (hm:n=m1+1)=>ec (cx:=cx) (n:=m1) (led:=[]) (lv hn hm rfl) (.inr (.inl rfl)) hr
 have ll:=λ{m1} (hm:n=m1+1)=>ec (cx:=cx) (n:=m1) (led:=[]) (lv hn hm rfl) (.inr (.inr rfl)) hfl
 have t2:=bI (w:="local") (.inr (.inr rfl)) hfl
 cases e:kU (lids.take p.length)with
 | true=>
   cases e4:gi (lids.drop p.length)with
   | true=>
     refine ax (d:=dfM 117 6) (mt:=[]) [.p (.str (ahead s)),.p (knD ⟨p,r⟩),.l ((lids.take p.length).map λs=> .bool (!isE s)) [],.b (.bool true),.w .next (hb (prD (mdD m) nm b ids) i (fuD ⟨kd,locals,body⟩) lids p r (decls "param" lids p (dt s kd)) []) [],.p (.str (aP "result" r)),.l ((lids.drop p.length).map λs=> .bool (isE s)) [],.b (.bool true),.p (.str (aP "local" locals))] (by kernel_rfl) rfl (one_le hn) λm1 hm=>?_
     exact And.intro ⟨ae (Nat.add_le_add b2 t2) rfl,ll hm,all_eq.trans (congrArg (λb=>some (D.bool b)) e4),aq (k:=1000) (by rw[List.length_drop];exact Nat.le_trans (Nat.sub_le _ _) h7) rfl,cw (A:=λs=>AV.v (.str s)) (f:=λs=>D.bool (isE s)) rfl c2 (λa _=>⟨[],by exact(show True∧_∧_ from ⟨trivial,rfl,rfl⟩)⟩),fl,fp,aL (ae b2 rfl),lr hm,mV (lv hn hm rfl) hls hp (ai hA rfl),any_eq.trans (congrArg (λb=>some (D.bool b)) e),aq (k:=1000) (by rw[List.length_take];exact Nat.le_trans (Nat.min_le_right _ _) h7) rfl,cw (A:=λs=>AV.v (.str s)) (f:=λs=>D.bool (!isE s)) rfl c1 (λa _=>⟨[],by exact(show True∧_∧_ from ⟨trivial,rfl,rfl⟩)⟩),fl,fp,hko hm,f0,aa f0,hk,aa (aa f0),aa (aa (aa f0)),dR (lv hn hm rfl) hi hi2 hs,trivial⟩ (congrArg D.str (zS (s:=s) (kind:=kd) (kn:=⟨p,r⟩) (locals:=locals) (lids:=lids) e e4).symm)
   | false=>
     refine ax (d:=dfM 117 6) (mt:=[]) [.p (.str (ahead s)),.p (knD ⟨p,r⟩),.l ((lids.take p.length).map λs=> .bool (!isE s)) [],.b (.bool true),.w .next (hb (prD (mdD m) nm b ids) i (fuD ⟨kd,locals,body⟩) lids p r (decls "param" lids p (dt s kd)) []) [],.p (.str (aP "result" r)),.l ((lids.drop p.length).map λs=> .bool (isE s)) [],.b (.bool false),.w .next (hb (prD (mdD m) nm b ids) i (fuD ⟨kd,locals,body⟩) lids p r (decls "local" (lids.drop p.length) locals (decls "param" lids p (dt s kd)++aP "result" r)) [("own",.v (.list (cutT lids p)))]) []] (by kernel_rfl) rfl (one_le hn) λm1 hm=>?_
     exact And.intro ⟨mU (lv hn hm rfl) uh hd hfl (ai b2 rfl),all_eq.trans (congrArg (λb=>some (D.bool b)) e4),aq (k:=1000) (by rw[List.length_drop];exact Nat.le_trans (Nat.sub_le _ _) h7) rfl,cw (A:=λs=>AV.v (.str s)) (f:=λs=>D.bool (isE s)) rfl c2 (λa _=>⟨[],by exact(show True∧_∧_ from ⟨trivial,rfl,rfl⟩)⟩),fl,fp,aL (ae b2 rfl),lr hm,mV (lv hn hm rfl) hls hp (ai hA rfl),any_eq.trans (congrArg (λb=>some (D.bool b)) e),aq (k:=1000) (by rw[List.length_take];exact Nat.le_trans (Nat.min_le_right _ _) h7) rfl,cw (A:=λs=>AV.v (.str s)) (f:=λs=>D.bool (!isE s)) rfl c1 (λa _=>⟨[],by exact(show True∧_∧_ from ⟨trivial,rfl,rfl⟩)⟩),fl,fp,hko hm,f0,aa f0,hk,aa (aa f0),aa (aa (aa f0)),dR (lv hn hm rfl) hi hi2 hs,trivial⟩ (congrArg D.str (zT (s:=s) (kind:=kd) (kn:=⟨p,r⟩) (locals:=locals) (lids:=lids) e e4).symm)
 | false=>
   cases e4:gi (lids.drop p.length)with
   | true=>
     refine ax (d:=dfM 117 6) (mt:=[]) [.p (.str (ahead s)),.p (knD ⟨p,r⟩),.l ((lids.take p.length).map λs=> .bool (!isE s)) [],.b (.bool false),.l ((lids.drop p.length).map λs=> .bool (isE s)) [],.b (.bool true),.p (.str (aP "local" locals))] (by kernel_rfl) rfl (one_le hn) λm1 hm=>?_
     exact And.intro ⟨ae (Nat.add_le_add hA t2) rfl,ll hm,all_eq.trans (congrArg (λb=>some (D.bool b)) e4),aq (k:=1000) (by rw[List.length_drop];exact Nat.le_trans (Nat.sub_le _ _) h7) rfl,cw (A:=λs=>AV.v (.str s)) (f:=λs=>D.bool (isE s)) rfl c2 (λa _=>⟨[],by exact(show True∧_∧_ from ⟨trivial,rfl,rfl⟩)⟩),fl,fp,any_eq.trans (congrArg (λb=>some (D.bool b)) e),aq (k:=1000) (by rw[List.length_take];exact Nat.le_trans (Nat.min_le_right _ _) h7) rfl,cw (A:=λs=>AV.v (.str s)) (f:=λs=>D.bool (!isE s)) rfl c1 (λa _=>⟨[],by exact(show True∧_∧_ from ⟨trivial,rfl,rfl⟩)⟩),fl,fp,hko hm,f0,aa f0,hk,aa (aa f0),aa (aa (aa f0)),dR (lv hn hm rfl) hi hi2 hs,trivial⟩ (congrArg D.str (zU (s:=s) (kind:=kd) (kn:=⟨p,r⟩) (locals:=locals) (lids:=lids) e e4).symm)
   | false=>
     refine ax (d:=dfM 117 6) (mt:=[]) [.p (.str (ahead s)),.p (knD ⟨p,r⟩),.l ((lids.take p.length).map λs=> .bool (!isE s)) [],.b (.bool false),.l ((lids.drop p.length).map λs=> .bool (isE s)) [],.b (.bool false),.w .next (hb (prD (mdD m) nm b ids) i (fuD ⟨kd,locals,body⟩) lids p r (decls "local" (lids.drop p.length) locals (dt s kd)) [("own",.v (.list (cutT lids p)))]) []] (by kernel_rfl) rfl (one_le hn) λm1 hm=>?_
     exact And.intro ⟨mU (lv hn hm rfl) uh hd hfl (ai hA rfl),all_eq.trans (congrArg (λb=>some (D.bool b)) e4),aq (k:=1000) (by rw[List.length_drop];exact Nat.le_trans (Nat.sub_le _ _) h7) rfl,cw (A:=λs=>AV.v (.str s)) (f:=λs=>D.bool (isE s)) rfl c2 (λa _=>⟨[],by exact(show True∧_∧_ from ⟨trivial,rfl,rfl⟩)⟩),fl,fp,any_eq.trans (congrArg (λb=>some (D.bool b)) e),aq (k:=1000) (by rw[List.length_take];exact Nat.le_trans (Nat.min_le_right _ _) h7) rfl,cw (A:=λs=>AV.v (.str s)) (f:=λs=>D.bool (!isE s)) rfl c1 (λa _=>⟨[],by exact(show True∧_∧_ from ⟨trivial,rfl,rfl⟩)⟩),fl,fp,hko hm,f0,aa f0,hk,aa (aa f0),aa (aa (aa f0)),dR (lv hn hm rfl) hi hi2 hs,trivial⟩ (congrArg D.str (zV (s:=s) (kind:=kd) (kn:=⟨p,r⟩) (locals:=locals) (lids:=lids) e e4).symm)
end Mine
end
section
open PySem
namespace Mine
variable {cx:Cx}
noncomputable def eJ:Ab→Option Nat
 | .fn t=>some t
 | _=>none
noncomputable def abL (l:List Im):List Nat:=l.filterMap λm=>eJ m.a
noncomputable def iD (l:List Nat):List D:=l.map λ(n:Nat)=>D.int (n:Int)
theorem ir {l:List Im}:(abL l).length≤l.length:=List.length_filterMap_le _ _
theorem qw:∀{l:List Im},(abL l).length=nfn l
 | []=>rfl
 | m::l=>by
   have ih:=qw (l:=l)
   obtain⟨p,q,a⟩:=m
   cases a
   · show (abL l).length+1=1+nfn l;lia
   all_goals (show (abL l).length=0+nfn l;lia)
theorem kf {l:List Nat}:(iD l).length=l.length:=List.length_map _
theorem qd {l:List Nat} {k:Nat} (h:l.length≤k) (e:Nat.ble k 1048576=true):fits (iD l).length=true:=by rw[kf];exact ae h e
theorem t7 {l:List Nat} {i k:Nat} (h:l[i]? =some k):(iD l)[i]? =some (.int (k:Int)):=by unfold iD;rw[List.getElem?_map,h];rfl
theorem o4 {n:Nat} {m:Mo} {led:Led} (hn:1≤n) (M:MoOk m):af cx n (dot "Module" "abouts") [.v (mdD m),.v (.int 0)] led (.v (.list (iD (abL m.imports)))) led:=by
 have hl:=Nat.le_trans (ir (l:=m.imports)) M.importsL
 have e:(m.imports.filterMap λx=>(eJ x.a).map λ(n:Nat)=>D.int (n:Int))=iD (abL m.imports):=by
  unfold iD abL
  rw[List.map_filterMap]
 have F:=qd hl rfl
 rw[←e]at F ⊢
 refine ax (d:=dfM 80 2) (mt:=[]) [.l (m.imports.filterMap λx=>(eJ x.a).map λ(n:Nat)=>D.int (n:Int)) []] (by kernel_rfl) rfl (one_le hn) λm1 hm=>?_
 refine And.intro ⟨F,gz (A:=λx=> .v (imD x)) rfl (List.map_map ..) (λx hx=>?_),trivial⟩ rfl
 obtain⟨p,q,a⟩:=x
 cases a with
 | fn t=>exact⟨[],by exact(show True∧_∧_ from ⟨trivial,rfl,rfl⟩)⟩
 | tb _ _ _=>exact⟨[],by exact(show True∧_∧_ from ⟨trivial,rfl,rfl⟩)⟩
 | me _ _=>exact⟨[],by exact(show True∧_∧_ from ⟨trivial,rfl,rfl⟩)⟩
 | gl _ _=>exact⟨[],by exact(show True∧_∧_ from ⟨trivial,rfl,rfl⟩)⟩
theorem kK {n:Nat} {m:Mo} {led:Led} (hn:2≤n) (M:MoOk m):af cx n (dot "Module" "imported") [.v (mdD m),.v (.int 0)] led (.v (.int (nfn m.imports:Nat))) led:=by
 have hl:=Nat.le_trans (ir (l:=m.imports)) M.importsL
 refine ax (d:=dfM 80 1) (mt:=[]) [.p (.list (iD (abL m.imports)))] (by kernel_rfl) rfl (one_le hn) λm1 hm=>?_
 exact And.intro ⟨qd hl rfl,o4 (lv hn hm rfl) M,trivial⟩ (congrArg (λk:Nat=>D.int (k:Int)) (kf.trans qw))
noncomputable def fkL (m:Mo):List Nat:=abL m.imports++m.funcs.map Fu.kind
theorem eZ {n:Nat} {m:Mo} {led:Led} (hn:2≤n) (M:MoOk m):af cx n (dot "Module" "func_kinds") [.v (mdD m)] led (.v (.list (iD (fkL m)))) led:=by
 have hl:=Nat.le_trans (ir (l:=m.imports)) M.importsL
 refine ax (d:=dfM 80 3) (mt:=[]) [.p (.list (iD (abL m.imports))),.l (m.funcs.map λx=> .int (x.kind:Int)) []] (by kernel_rfl) rfl (one_le hn) λm1 hm=>?_
 refine And.intro ⟨ae (Nat.add_le_add (kf▸hl) (by rw[List.length_map];exact M.funcsL)) rfl,aq M.funcsL rfl,cw (A:=λx=> .v (fuD x)) (f:=λx=> .int (x.kind:Int)) rfl (List.map_map ..) (λx hx=>⟨[],by exact(show True∧_∧_ from ⟨trivial,rfl,rfl⟩)⟩),o4 (lv hn hm rfl) M,trivial⟩ ?_
 unfold iD fkL
 rw[List.map_append,List.map_map]
 rfl
theorem vE {n:Nat} {m:Mo} {led:Led} (hn:3≤n) (M:MoOk m):af cx n (dot "Module" "many") [.v (mdD m),.v (.int 0)] led (.v (.int (nfn m.imports+m.funcs.length:Nat))) led:=by
 refine ax (d:=dfM 80 7) (mt:=[]) [.p (.int (nfn m.imports:Nat))] (by kernel_rfl) rfl (one_le hn) λm1 hm=>?_
 exact And.intro ⟨aq M.funcsL rfl,kK (lv hn hm rfl) M,trivial⟩ (congrArg (λk:Nat=>D.int ((nfn m.imports:Int)+(k:Int))) (List.length_map _))
noncomputable def cntK (m:Mo) (k:Nat) (x:Nat):Option (Nat×Nat):=match m.kinds[k]? with
 | some kn=>some (kn.p.length+x,kn.r.length)
 | none=>none
noncomputable def cnt (m:Mo):Sp→Option (Nat×Nat)
 | .const _=>some (0,1)
 | .lget _=>some (0,1)
 | .call i=>match (fkL m)[i]? with
   | some k=>cntK m k 0
   | none=>none
 | .ind a _=>cntK m a 1
noncomputable def AL:Option (Nat×Nat)→D
 | none=> .none
 | some p=> .tup [.int (p.1:Nat),.int (p.2:Nat)]
theorem F9 {m:Mo} (M:MoOk m) {k:Nat} (h:k∈fkL m):k<4:=by
 rcases List.mem_append.mp h with h | h
 · obtain⟨im,hm,e⟩:=List.mem_filterMap.mp h
   have:=(M.imports _ hm).2.2
   obtain⟨p,q,a⟩:=im
   cases a with
   | fn t=>cases e;exact this
   | _=>cases e
 · obtain⟨f,hf,rfl⟩:=List.mem_map.mp h
   exact(M.funcs _ hf).1
theorem AK {m:Mo} {i:Nat}:cnt m (.call i)=(match (fkL m)[i]? with | some k=>cntK m k 0 | none=>none):=rfl
theorem Dh {m:Mo} {a b:Nat}:cnt m (.ind a b)=cntK m a 1:=rfl
theorem rM {m:Mo} {k:Nat} (h:k<m.kinds.length):decide ((k:Int) ≥ Int.ofNat (m.kinds.map knD).length)=false:=decide_eq_false (by rw[List.length_map];exact λz=>Nat.not_le.mpr h (Int.ofNat_le.mp z))
theorem oz {m:Mo} {k:Nat} (h:m.kinds.length≤k):decide ((k:Int) ≥ Int.ofNat (m.kinds.map knD).length)=true:=decide_eq_true (by rw[List.length_map];exact Int.ofNat_le.mpr h)
theorem zQ {l:List Nat} {k:Nat} (h:k<l.length):decide ((k:Int) ≥ Int.ofNat (iD l).length)=false:=decide_eq_false (by rw[kf];exact λz=>Nat.not_le.mpr h (Int.ofNat_le.mp z))
theorem zP {l:List Nat} {k:Nat} (h:l.length≤k):decide ((k:Int) ≥ Int.ofNat (iD l).length)=true:=decide_eq_true (by rw[kf];exact Int.ofNat_le.mpr h)
theorem wt {m:Mo} {k x:Nat} (h:k<m.kinds.length):cntK m k x=some ((cB m k).p.length+x,(cB m k).r.length):=by
 unfold cntK cB
 rw[List.getD_eq_getElem?_getD,List.getElem?_eq_getElem h];rfl
theorem sG {m:Mo} {k x:Nat} (h:m.kinds.length≤k):cntK m k x=none:=by
 unfold cntK
 rw[List.getElem?_eq_none h]
theorem nT {ks:List Vk}:Int.ofNat (kD ks).length=(ks.length:Int):=congrArg Int.ofNat iS
theorem tup2 {a b c d:Int} (h:a=c) (k:b=d):D.tup [.int a,.int b]= .tup [.int c,.int d]:=h▸k▸rfl
theorem qn {n:Nat} {m:Mo} {sp:Sp} {led:Led} (hn:4≤n) (M:MoOk m) (hs:pz sp):af cx n "counts_of" [.v (mdD m),.v (spD sp)] led (.v (AL (cnt m sp))) led:=by
 have fk:=aq (f:=knD) M.kindsL rfl
 have kp:=λk=>aq (f:=Vk.D) (jA (k:=k) M).1 rfl
 have kr:=λk=>aq (f:=Vk.D) (jA (k:=k) M).2 rfl
 cases sp with
 | const r=>
   obtain⟨n,rfl⟩:=le_succ hn
   exact dn (d:=(dfD 115)) (mt:=[]) (by kernel_rfl) rfl (by kernel_rfl)
 | lget i=>
   obtain⟨n,rfl⟩:=le_succ hn
   exact dn (d:=(dfD 115)) (mt:=[]) (by kernel_rfl) rfl (by kernel_rfl)
 | call i=>
   have hs:i<10:=hs
   have h0:(fkL m).length≤5:=by
    unfold fkL
    rw[List.length_append,List.length_map]
    exact Nat.add_le_add (Nat.le_trans ir M.importsL) M.funcsL
   have fi:=qd h0 rfl
   rw[AK]
   rcases Nat.lt_or_ge i (fkL m).length with q | q
   · obtain⟨k,hk⟩:∃k,(fkL m)[i]? =some k:=⟨_,List.getElem?_eq_getElem q⟩
     have it:=item_list (ai (Nat.le_of_lt hs) rfl) (t7 hk)
     have hk4:=F9 M (List.mem_of_getElem? hk)
     rw[hk]
     dsimp only
     rcases Nat.lt_or_ge k m.kinds.length with q2 | q2
     · rw[wt q2]
       refine ax (d:=dfD 115) (mt:=[]) [.p (.list (iD (fkL m))),.f,.i (.int (k:Int)),.f,.i (.int (k:Int)),.i (knD (cB m k))] (by kernel_rfl) rfl (one_le hn) λm1 hm=>?_
       exact And.intro ⟨kr k,kp k,item_list (ai (Nat.le_of_lt hk4) rfl) (tX q2),it,rM q2,fk,it,zQ q,fi,eZ (lv hn hm rfl) M,trivial⟩ (tup2 nT nT)
     · rw[sG q2]
       refine ax (d:=dfD 115) (mt:=[]) [.p (.list (iD (fkL m))),.f,.i (.int (k:Int)),.t] (by kernel_rfl) rfl (one_le hn) λm1 hm=>?_
       exact And.intro ⟨oz q2,fk,it,zQ q,fi,eZ (lv hn hm rfl) M,trivial⟩ rfl
   · rw[List.getElem?_eq_none q]
     refine ax (d:=dfD 115) (mt:=[]) [.p (.list (iD (fkL m))),.t] (by kernel_rfl) rfl (one_le hn) λm1 hm=>?_
     exact And.intro ⟨zP q,fi,eZ (lv hn hm rfl) M,trivial⟩ rfl
 | ind a b=>
   obtain⟨ha,hb⟩:a<4∧b<2:=hs
   rw[Dh]
   rcases Nat.lt_or_ge a m.kinds.length with q | q
   · rw[wt q]
     refine ax (d:=dfD 115) (mt:=[]) [.f,.f,.t,.f,.i (knD (cB m a))] (by kernel_rfl) rfl (one_le hn) λm1 hm=>?_
     exact And.intro ⟨kr a,kp a,item_list (ai (Nat.le_of_lt ha) rfl) (tX q),rM q,fk,rfl,rfl,rfl,trivial⟩ (tup2 (congrArg (· +1) nT) nT)
   · rw[sG q]
     refine ax (d:=dfD 115) (mt:=[]) [.f,.f,.t,.t] (by kernel_rfl) rfl (one_le hn) λm1 hm=>?_
     exact And.intro ⟨oz q,fk,rfl,rfl,rfl,trivial⟩ rfl
end Mine
end
section
open PySem
namespace Mine
variable {cx:Cx}
section
variable {led:Led}
theorem aT {o:Nat} {c x:Str} {fs:List (Str×AV)} {a:AV} (h:led[o]? =some (.obj c fs)) (e:get fs x=some a):g5 led x (.r o)=some a:=by unfold g5;dsimp only;rw[h];exact e
theorem dg {o:Nat} {c:Str} {fs:List (Str×AV)} (h:led[o]? =some (.obj c fs)):kJ led (.r o)=some (.obj c):=by show led[o]?.bind zz=_;rw[h];rfl
theorem aZ {o:Nat} {l:List D} (h:led[o]? =some (.list l)):kJ led (.r o)=some .list:=by show led[o]?.bind zz=_;rw[h];rfl
theorem e8 {a:Nat} {l:List D} (h:led[a]? =some (.list l)):view led (.r a)=some (.list l):=by show led[a]?.bind yu=_;rw[h];rfl
theorem jx {n:Nat} {o:LO} (h:led[n]? =some o):n<led.length:=(List.getElem?_eq_some_iff.mp h).1
theorem ib {n:Nat} {o:LO} (h:n<led.length):(put led n o)[n]? =some o:=by unfold put;exact List.getElem?_set_self h
theorem c6 {n k:Nat} {o:LO} (h:n≠k):(put led n o)[k]? =led[k]?:=by unfold put;exact List.getElem?_set_ne h
theorem putLen {n:Nat} {o:LO}:(put led n o).length=led.length:=by unfold put;exact List.length_set
theorem jU {n:Nat} {o:LO} {x:LO} (h:led[n]? =some x):(led++[o])[n]? =some x:=by rw[List.getElem?_append_left (jx h)];exact h
theorem gf {o:LO}:(led++[o])[led.length]? =some o:=by rw[List.getElem?_append_right (Nat.le_refl _),Nat.sub_self];rfl
end
noncomputable def foF (m t:D) (a b c:Nat):List (Str×AV):=[("module",.v m),("told",.v t),("depth",.v (.int 1)),("rows",.r a),("values",.r b),("closers",.r c)]
structure Fo (m t:D) (o a b:Nat) (rows:List Str) (led:Led):Prop where
 obj:∃c,led[o]? =some (.obj "Folder" (foF m t a b c))
 rows:led[a]? =some (.list (sD rows))
 oa:o<a
 ob:o<b
 ab:a≠b
noncomputable def Fr (o:Nat) (led led':Led):Prop:=∀n,n<o→led'[n]? =led[n]?
noncomputable def ind (s:Str):Str:="  "++s
theorem tY {led:Led} {a:Nat} {l:List D} (h:led[a]? =some (.list l)):items (.r a) led=some (l.map .v,put led a (.frz (.list l))):=by unfold items;dsimp only;rw[h];rfl
theorem aM {l:List Str} {k:Nat} (h:l.length≤k) (e:Nat.ble k 1048576=true):fits (sD l).length=true:=by rw[aF];exact ae h e
theorem tF {n:Nat} {m t:D} {o a b:Nat} {rows:List Str} {text:Str} {led:Led} (hn:1≤n) (F:Fo m t o a b rows led) (ht:text.length≤100000) (hr:rows.length≤1000):
 ∃x l2,af cx n (dot "Folder" "row") [.r o,.v (.str text)] led x l2∧x= .v .none∧Fo m t o a b (rows++[ind text]) l2∧∀k,k≠a→l2[k]? =led[k]?:=by
 obtain⟨⟨c,ho⟩,hra,oa,ob,ab⟩:=F
 refine jz (d:=dfM 116 1) (mt:=[]) [.a (.r a),.k .list,.a (.v (.int 1)),.o (.list (sD rows))] (by kernel_rfl) (one_le hn) λm1 hm=>?_
 refine And.intro ⟨aM hr rfl,hra,ae (Nat.add_le_add (Nat.le_refl 2) ht) rfl,aT ho rfl,aZ hra,aT ho rfl,trivial⟩ ⟨rfl,⟨⟨c,?_⟩,?_,oa,ob,ab⟩,λk hk=>c6 (Ne.symm hk)⟩
 · exact(c6 (Nat.ne_of_gt oa)).trans ho
 · exact(ib (jx hra)).trans (by rw[←d8];rfl)
theorem yI {l:List Str} {i:Nat} {it:It} (h:(((sD l).map AV.v).map It.one)[i]? =some it):∃s,l[i]? =some s∧it= .one (.v (.str s)):=ones (f:=D.str) h
noncomputable abbrev flG (cx:Cx) (m:Nat):Eng:=g0w cx m ["values"] (dfM 116 2)
theorem m6 {n:Nat} {m t:D} {o a b:Nat} {rows vals:List Str} {led:Led} (hn:2≤n) (F:Fo m t o a b rows led) (hv:led[b]? =some (.list (sD vals))) (ht:∀s∈vals,s.length≤100000) (hr:rows.length+vals.length≤1000):
 ∃x l2,af cx n (dot "Folder" "flush") [.r o] led x l2∧x= .v .none∧∃b',Fo m t o a b' (rows++vals.map ind) l2∧l2[b']? =some (.list (sD []))∧Fr o led l2:=by
 refine cF λGG gg=>?_
 obtain⟨⟨c,ho⟩,hra,oa,ob,ab⟩:=F
 have T:=λm1 (hm:n=m1+1)=>turns_inv (sc:=(dfM 116 2).sc) (is:=((sD vals).map AV.v).map It.one) (c:=(flG cx m1).c) (n:=(flG cx m1).n) (t:=(bF (stB (dfM 116 2).body 0))) (body:=(bu (stB (dfM 116 2).body 0))) (λ_=>[("self",.r o)])
  (λi led'=>Fo m t o a b (rows++(vals.take i).map ind) led'∧∀k,k≠a→k≠b→led'[k]? =led[k]?) (λi it led' hi ⟨F',fr⟩=>by
    obtain⟨s,hs,rfl⟩:=yI hi
    obtain⟨c',ho'⟩:=F'.obj
    obtain⟨_,l2,hk,rfl,F2,fr2⟩:=tF (n:=m1) (text:=s) (lv hn hm rfl) F' (ht s (List.mem_of_getElem? hs)) (by rw[List.length_append,List.length_map,List.length_take];exact Nat.le_trans (Nat.add_le_add_left (Nat.min_le_right _ _) _) hr)
    refine aH (g:=flG cx m1) [.k (.obj "Folder"),.r (.v .none) l2] ?_
    conv=>whnf
    exact⟨⟨hk,dg ho',trivial⟩,⟨by rw[cR hs,List.map_append,←List.append_assoc];exact F2,λk h1 h2=>(fr2 k h1).trans (fr k h1 h2)⟩,.inl rfl,SubL.drop rfl⟩)
  (put led b (.frz (.list (sD vals)))) ⟨⟨⟨c,(c6 (Nat.ne_of_gt ob)).trans ho⟩,(c6 (Ne.symm ab)).trans (by rw[List.take_zero,List.map_nil,List.append_nil];exact hra),oa,ob,ab⟩,λk h1 h2=>c6 (Ne.symm h2)⟩
 obtain⟨l3,⟨F',fr⟩,R⟩:=T (n - 1) (Nat.sub_add_cancel (one_le hn)).symm
 rw[show ((((sD vals).map AV.v).map It.one)).length=vals.length by rw[List.length_map,List.length_map,aF],List.take_length]at F'
 obtain⟨⟨c',ho'⟩,hra',_⟩:=F'
 have l1':=jx ho'
 have l2':=jx hra'
 refine gg ?_
 refine jz (d:=dfM 116 2) (mt:=["values"]) [.a (.r b),.s ((sD vals).map AV.v) (put led b (.frz (.list (sD vals)))),.w .next [("self",.r o)] l3,.o (.obj "Folder" (foF m t a b c'))] (by kernel_rfl) (one_le hn) λm1 hm=>?_
 obtain rfl:m1=n - 1:=by rw[hm];rfl
 conv=>whnf
 refine⟨⟨jU ho',R,tY hv,aT ho rfl,trivial⟩,rfl,l3.length,⟨⟨c',?_⟩,?_,oa,l1',Nat.ne_of_lt l2'⟩,?_,λk hk=>?_⟩
 · exact ib (by rw[List.length_append];exact Nat.lt_add_right _ l1')
 · exact(c6 (Nat.ne_of_lt oa)).trans (jU hra')
 · exact(c6 (Nat.ne_of_lt l1')).trans gf
 · exact(c6 (Nat.ne_of_gt hk)).trans ((List.getElem?_append_left (Nat.lt_trans hk l1')).trans (fr k (Nat.ne_of_lt (Nat.lt_trans hk oa)) (Nat.ne_of_lt (Nat.lt_trans hk ob))))
noncomputable def du (st:List Str×List Str) (text:Str) (tp:Option (Nat×Nat)):List Str×List Str:=match tp with
 | none=>(st.1++st.2++[text],[])
 | some p=>if p.1>st.2.length then (st.1++st.2++[text],[])else
    let w2:=st.2.take (st.2.length - p.1)++["("++Str.join " " (text::st.2.drop (st.2.length - p.1))++ ")"]
    if p.2=1 then (st.1,w2)else (st.1++w2,[])
noncomputable def bk:List Str→Nat
 | []=>0
 | s::l=>s.length+1+bk l
theorem zC {sep:Str} {l:List Str} (h:bk l≤500000) (hs:sep.length≤1):rR sep (sD l)=some (.str (Str.join sep l)):=by
 unfold rR
 have e:∀l:List Str,kR iG (sD l)=some l:=by
  intro l
  induction l with
  | nil=>rfl
  | cons s l ih=>exact congrArg (λo:Option (List Str)=>o.bind λr=>some (s::r)) ih
 have f:∀l:List Str,ew l+l.length=bk l:=by
  intro l
  induction l with
  | nil=>rfl
  | cons s l ih=>show s.length+ew l+(l.length+1)=s.length+1+bk l;lia
 rw[e,Option.bind_some]
 have:=f l
 have h2:sep.length * l.length≤l.length:=by
  have:=Nat.mul_le_mul_right l.length hs
  lia
 rw[dj (by lia)];rfl
theorem fC {sep:Str} (hs:sep.length≤1):∀{l:List Str},(Str.join sep l).length≤bk l
 | []=>Nat.zero_le _
 | [s]=>by show s.length≤s.length+1+0;lia
 | s::s2::l=>by
   have ih:=fC hs (l:=s2::l)
   show (s++sep++Str.join sep (s2::l)).length≤s.length+1+bk (s2::l)
   rw[lX,lX];lia
theorem cb:∀{a b:List Str},bk (a++b)=bk a+bk b
 | [],b=>by show _=0+bk b;rw[Nat.zero_add];rfl
 | s::a,b=>by show s.length+1+bk (a++b)=s.length+1+bk a+bk b;rw[cb];lia
theorem e9 {s:Str}:∀{l:List Str},s∈l→s.length+1≤bk l
 | [],h=>by cases h
 | x::l,h=>by
   rcases List.mem_cons.mp h with rfl | h
   · show s.length+1≤s.length+1+bk l;lia
   · have:=e9 h;show _≤x.length+1+bk l;lia
theorem iJ {l:List Str} {k:Nat}:bk (l.take k)+bk (l.drop k)=bk l:=by rw[←cb,List.take_append_drop]
theorem tu:∀{l:List Str},l.length≤bk l
 | []=>Nat.le_refl _
 | s::l=>by have:=tu (l:=l);show l.length+1≤s.length+1+bk l;lia
theorem jC {led:Led} {sep:Str} {l:List Str} (h:bk l≤500000) (hs:sep.length≤1):iA led .join (.v (.str sep)) [.v (.list (sD l))]=some (.v (.str (Str.join sep l)),led):=by
 show (rR sep (sD l)).map _=_
 rw[zC h hs];rfl
theorem sA {vals:List Str} {k:Nat}:List.take ((sD vals).length - bound ((vals.length - k:Nat):Int) (sD vals).length) (List.drop (bound ((vals.length - k:Nat):Int) (sD vals).length) (sD vals))=sD (vals.drop (vals.length - k)):=by
 have e:bound ((vals.length - k:Nat):Int) (sD vals).length=vals.length - k:=by
  show min (vals.length - k) (sD vals).length=_
  rw[aF];lia
 rw[e,List.take_of_length_le (by rw[List.length_drop];lia)]
 unfold sD;rw[List.map_drop]
theorem AI {vals:List Str} {k:Nat}:List.take (bound ((vals.length - k:Nat):Int) (sD vals).length - 0) (List.drop 0 (sD vals))=sD (vals.take (vals.length - k)):=by
 have e:bound ((vals.length - k:Nat):Int) (sD vals).length=vals.length - k:=by
  show min (vals.length - k) (sD vals).length=_
  rw[aF];lia
 rw[e,Nat.sub_zero,List.drop_zero]
 unfold sD;rw[List.map_take]
noncomputable abbrev fir (vals:List Str) (tk:Nat):Int:=Int.ofNat (sD vals).length - (tk:Int)
noncomputable abbrev BZ (vals:List Str) (tk:Nat):List D:=List.take ((sD vals).length - bound (fir vals tk) (sD vals).length) (List.drop (bound (fir vals tk) (sD vals).length) (sD vals))
noncomputable abbrev jq (vals:List Str) (tk:Nat):List D:=List.take (bound (fir vals tk) (sD vals).length - 0) (List.drop 0 (sD vals))
theorem Ar {vals:List Str} {tk:Nat} (h:tk≤vals.length):fir vals tk=((vals.length - tk:Nat):Int):=by
 show Int.ofNat (sD vals).length - (tk:Int)=_
 rw[aF];exact(Int.ofNat_sub h).symm
theorem vf {vals:List Str} {tk:Nat} (h:tk≤vals.length):BZ vals tk=sD (vals.drop (vals.length - tk)):=by unfold BZ;rw[Ar h];exact sA
theorem pD {vals:List Str} {tk:Nat} (h:tk≤vals.length):jq vals tk=sD (vals.take (vals.length - tk)):=by unfold jq;rw[Ar h];exact AI
theorem gt_t {vals:List Str} {tk:Nat} (h:tk>vals.length):decide ((tk:Int)>Int.ofNat (sD vals).length)=true:=decide_eq_true (by rw[aF];exact Int.ofNat_lt.mpr h)
theorem CU {vals:List Str} {tk:Nat} (h:tk≤vals.length):decide ((tk:Int)>Int.ofNat (sD vals).length)=false:=decide_eq_false (by rw[aF];exact λz=>Nat.not_lt.mpr h (Int.ofNat_lt.mp z))
theorem DZ {k:Nat} (h:k=1):decide ((k:Int)=1)=true:=by subst h;rfl
theorem D0 {k:Nat} (h:¬k=1):decide ((k:Int)=1)=false:=decide_eq_false (λz=>h (Int.ofNat.inj z))
noncomputable def Bf (m:Mo) (ids lids:List Str) (o a:Nat) (rows vals:List Str) (sp:Sp) (led l2:Led):Prop:=
 ∃b' rows' vals',Fo (mdD m) (aU ids lids) o a b' rows' l2∧l2[b']? =some (.list (sD vals'))∧Fr o led l2∧∀rw,rows=rw.map ind→∃rw',rows'=rw'.map ind∧(rw',vals')=du (rw,vals) (spS ids lids sp) (cnt m sp)
theorem w3 {n:Nat} {m:Mo} {ids lids:List Str} {o a b:Nat} {rows vals:List Str} {sp:Sp} {led:Led} (hn:5≤n) (M:MoOk m) (h1:ids.length≤1000) (h2:lids.length≤1000) (b1:∀i,i<10→(aD ids i).length≤1000) (b2:∀i,i<10→(aD lids i).length≤1000) (hs:pz sp)
 (F:Fo (mdD m) (aU ids lids) o a b rows led) (hv:led[b]? =some (.list (sD vals))) (ht:bk vals≤50000) (hx:(spS ids lids sp).length≤2000) (hr:rows.length+vals.length≤900):
 ∃x l2,af cx n (dot "Folder" "single") [.r o,.v (spD sp)] led x l2∧x= .v .none∧Bf m ids lids o a rows vals sp led l2:=by
 refine cF λGG gg=>?_
 have F0:=F
 obtain⟨⟨c,ho⟩,hra,oa,ob,ab⟩:=F
 have tl:=λs h=>ai (Nat.le_trans (Nat.le_trans (Nat.le_succ _) (e9 (s:=s) h)) ht) (m:=100000) rfl
 obtain⟨q,rfl⟩:=le_succ (one_le hn)
 have hq:4≤q:=Nat.le_of_succ_le_succ hn
 -- give up:what is kept comes out as rows,then the text
 obtain⟨_,l1,hk,rfl,b',F1,hb',fr1⟩:=m6 (n:=q) (le_trans' hq rfl) F0 hv tl (ai hr rfl)
 obtain⟨_,l2,hk2,rfl,F2,fr2⟩:=tF (n:=q) (text:=spS ids lids sp) (le_trans' hq rfl) F1 (ai hx rfl) (by rw[List.length_append,List.length_map];exact ai hr rfl)
 obtain⟨c1,ho1⟩:=F1.obj
 have up:∀rw,rows=rw.map ind→rows++vals.map ind++[ind (spS ids lids sp)]=(rw++vals++[spS ids lids sp]).map ind:=λrw e=>by rw[e,List.map_append,List.map_append];rfl
 have gave:du=du→(∀rw,du (rw,vals) (spS ids lids sp) (cnt m sp)=(rw++vals++[spS ids lids sp],[]))→Bf m ids lids o a rows vals sp led l2:=λ_ h=>
  ⟨b',_,[],F2,(fr2 _ (Ne.symm F2.ab)).trans hb',λk hk=>(fr2 k (Nat.ne_of_lt (Nat.lt_trans hk oa))).trans (fr1 k hk),λrw e=>⟨_,up rw e,(h rw).symm⟩⟩
 have k1:=aT (x:="told") (a:= .v (aU ids lids)) ho rfl
 have k2:=aT (x:="module") (a:= .v (mdD m)) ho rfl
 have k3:=aT (x:="values") (a:= .r b) ho rfl
 have vl:=e8 hv
 have hvl:vals.length≤900:=Nat.le_trans (Nat.le_add_left _ _) hr
 have fv:=aM hvl rfl
 have i1:=λled=>gS (cx:=cx) (n:=q) (led:=led) hq h1 h2 b1 b2 hs
 have i2:=λled=>qn (cx:=cx) (n:=q) (led:=led) hq M hs
 unfold Bf at gave gg
 rcases hc:cnt m sp with _ | ⟨tk,pt⟩
 · rw[hc]at gave i2 gg
   refine gg ?_
   refine rG (d:=dfM 116 6) (mt:=["values"]) [.a (.v (aU ids lids)),.p (.str (spS ids lids sp)),.a (.v (mdD m)),.p (AL none),.k (.obj "Folder"),.r (.v .none) l1,.k (.obj "Folder"),.r (.v .none) l2] (by kernel_rfl) ?_
   exact And.intro ⟨hk2,dg ho1,hk,dg ho,i2 _,k2,i1 _,k1,trivial⟩ ⟨rfl,gave rfl λrw=>rfl⟩
 · rw[hc]at gave i2 gg
   rcases Nat.lt_or_ge vals.length tk with e | e
   · refine gg ?_
     refine rG (d:=dfM 116 6) (mt:=["values"]) [.a (.v (aU ids lids)),.p (.str (spS ids lids sp)),.a (.v (mdD m)),.p (AL (some (tk,pt))),.a (.r b),.v (.list (sD vals)),.t,.k (.obj "Folder"),.r (.v .none) l1,.k (.obj "Folder"),.r (.v .none) l2] (by kernel_rfl) ?_
     exact And.intro ⟨hk2,dg ho1,hk,dg ho,gt_t e,fv,vl,k3,i2 _,k2,i1 _,k1,trivial⟩ ⟨rfl,gave rfl λrw=>if_pos e⟩
   · have hT:=iJ (l:=vals) (k:=vals.length - tk)
     have t1:bk (spS ids lids sp::vals.drop (vals.length - tk))≤52001:=Nat.add_le_add (Nat.succ_le_succ hx) (Nat.le_trans (Nat.le_trans (Nat.le_add_left _ _) (Nat.le_of_eq hT)) ht)
     have hj:=Nat.le_trans (fC (sep:=" ") (by decide)) t1
     have f1:fits (1+(BZ vals tk).length)=true:=by rw[vf e,aF,List.length_drop];exact ae (Nat.add_le_add_left (Nat.le_trans (Nat.sub_le _ _) hvl) 1) rfl
     have jm:∀led',iA led' .join (.v (.str " ")) [.v (.list (.str (spS ids lids sp)::BZ vals tk))]=some (.v (.str (Str.join " " (spS ids lids sp::vals.drop (vals.length - tk)))),led'):=λled'=>by
      rw[vf e];exact jC (ai t1 rfl) (by decide)
     have f2:=ae (Nat.add_le_add (Nat.le_refl 1) hj) rfl
     have wl:(Str.ofString "("++Str.join " " (spS ids lids sp::vals.drop (vals.length - tk))++Str.ofString ")").length≤100000:=ai (ag (ag (Nat.le_refl 1) hj) (Nat.le_refl 1)) rfl
     have f3:=aL (ae wl rfl)
     have fs:∀rw,du (rw,vals) (spS ids lids sp) (some (tk,pt))=(if pt=1 then (rw,vals.take (vals.length - tk)++[Str.ofString "("++Str.join " " (spS ids lids sp::vals.drop (vals.length - tk))++Str.ofString ")"])else (rw++(vals.take (vals.length - tk)++[Str.ofString "("++Str.join " " (spS ids lids sp::vals.drop (vals.length - tk))++Str.ofString ")"]),[])):=λrw=>if_neg (Nat.not_lt.mpr e)
     generalize Str.join " " (spS ids lids sp::vals.drop (vals.length - tk))=jn at *
     have q0:=jx ho
     have q1:=jx hra
     have ho3:(put (led++[LO.list (jq vals tk)]) o (.obj "Folder" (foF (mdD m) (aU ids lids) a led.length c)))[o]? =some (.obj "Folder" (foF (mdD m) (aU ids lids) a led.length c)):=ib (by rw[List.length_append];exact Nat.lt_add_right _ q0)
     have hra3:(put (led++[LO.list (jq vals tk)]) o (.obj "Folder" (foF (mdD m) (aU ids lids) a led.length c)))[a]? =some (.list (sD rows)):=(c6 (Nat.ne_of_lt oa)).trans (jU hra)
     have hv3:(put (led++[LO.list (jq vals tk)]) o (.obj "Folder" (foF (mdD m) (aU ids lids) a led.length c)))[led.length]? =some (.list (sD (vals.take (vals.length - tk)))):=(c6 (Nat.ne_of_lt q0)).trans (gf.trans (congrArg (λx=>some (LO.list x)) (pD e)))
     have fr3:Fr o led (put (led++[LO.list (jq vals tk)]) o (.obj "Folder" (foF (mdD m) (aU ids lids) a led.length c))):=λk hk=>(c6 (Nat.ne_of_gt hk)).trans (List.getElem?_append_left (Nat.lt_trans hk q0))
     have k4:=λc' (h:(put (led++[LO.list (jq vals tk)]) o (.obj "Folder" (foF (mdD m) (aU ids lids) a led.length c)))[o]? =some (.obj "Folder" (foF (mdD m) (aU ids lids) a led.length c')))=>aT (x:="values") (a:= .r led.length) h rfl
     have tkl:(vals.take (vals.length - tk)).length≤900:=Nat.le_trans (by rw[List.length_take];exact Nat.min_le_right _ _) hvl
     by_cases e3:pt=1
     · refine gg ?_
       refine rG (d:=dfM 116 6) (mt:=["values"]) [.a (.v (aU ids lids)),.p (.str (spS ids lids sp)),.a (.v (mdD m)),.p (AL (some (tk,pt))),.a (.r b),.v (.list (sD vals)),.f,.a (.r b),.v (.list (sD vals)),.a (.r b),.v (.list (sD vals)),.p (.str jn),.a (.r b),.v (.list (sD vals)),.o (.obj "Folder" (foF (mdD m) (aU ids lids) a b c)),.t,.a (.r led.length),.k .list,.o (.list (sD (vals.take (vals.length - tk))))] (by kernel_rfl) ?_
       refine And.intro ⟨aM tkl rfl,hv3,aZ hv3,k4 _ ho3,DZ e3,jU ho,fv,vl,k3,f3,f2,jm _,f1,fv,vl,k3,fv,vl,k3,CU e,fv,vl,k3,i2 _,k2,i1 _,k1,trivial⟩ ⟨rfl,led.length,rows,_,⟨⟨c,?_⟩,?_,oa,q0,Nat.ne_of_lt q1⟩,?_,λk hk=>?_,λrw e2=>⟨rw,e2,((fs rw).trans (if_pos e3)).symm⟩⟩
       · exact(c6 (Nat.ne_of_gt q0)).trans ho3
       · exact(c6 (Nat.ne_of_gt q1)).trans hra3
       · exact(ib (jx hv3)).trans (congrArg (λx=>some (LO.list x)) d8)
       · exact(c6 (Nat.ne_of_gt (Nat.lt_trans hk q0))).trans (fr3 k hk)
     · obtain⟨_,l4,hk4,rfl,b4,F4,hb4,fr4⟩:=m6 (n:=q) (le_trans' hq rfl) (⟨⟨c,ho3⟩,hra3,oa,q0,Nat.ne_of_lt q1⟩:Fo (mdD m) (aU ids lids) o a led.length rows _) hv3 (λs h=>tl s (List.mem_of_mem_take h)) (Nat.le_trans (Nat.add_le_add_left (by rw[List.length_take];exact Nat.min_le_right _ _) _) (ai hr rfl))
       obtain⟨_,l5,hk5,rfl,F5,fr5⟩:=tF (n:=q) (le_trans' hq rfl) F4 wl (by rw[List.length_append,List.length_map,List.length_take];exact Nat.le_trans (Nat.add_le_add_left (Nat.min_le_right _ _) _) (ai hr rfl))
       obtain⟨c4,ho4⟩:=F4.obj
       refine gg ?_
       refine rG (d:=dfM 116 6) (mt:=["values"]) [.a (.v (aU ids lids)),.p (.str (spS ids lids sp)),.a (.v (mdD m)),.p (AL (some (tk,pt))),.a (.r b),.v (.list (sD vals)),.f,.a (.r b),.v (.list (sD vals)),.a (.r b),.v (.list (sD vals)),.p (.str jn),.a (.r b),.v (.list (sD vals)),.o (.obj "Folder" (foF (mdD m) (aU ids lids) a b c)),.f,.k (.obj "Folder"),.r (.v .none) l4,.k (.obj "Folder"),.r (.v .none) l5] (by kernel_rfl) ?_
       refine And.intro ⟨hk5,dg ho4,hk4,dg ho3,D0 e3,jU ho,fv,vl,k3,f3,f2,jm _,f1,fv,vl,k3,fv,vl,k3,CU e,fv,vl,k3,i2 _,k2,i1 _,k1,trivial⟩ ⟨rfl,b4,_,[],F5,(fr5 _ (Ne.symm F5.ab)).trans hb4,λk hk=>(fr5 k (Nat.ne_of_lt (Nat.lt_trans hk oa))).trans ((fr4 k hk).trans (fr3 k hk)),λrw e2=>⟨_,?_,((fs rw).trans (if_neg e3)).symm⟩⟩
       rw[e2,List.map_append,List.map_append,List.append_assoc];rfl
theorem v3 {st:List Str×List Str} {text:Str} {tp:Option (Nat×Nat)}:bk (du st text tp).1+bk (du st text tp).2≤bk st.1+bk st.2+text.length+4:=by
 have t1:bk [text]=text.length+1:=rfl
 unfold du
 split
 · show bk (st.1++st.2++[text])+0≤_
   rw[cb,cb];lia
 · rename_i p
   split
   · show bk (st.1++st.2++[text])+0≤_
     rw[cb,cb];lia
   · have hT:=iJ (l:=st.2) (k:=st.2.length - p.1)
     have hj:=fC (sep:=" ") (by decide) (l:=text::st.2.drop (st.2.length - p.1))
     have hj2:bk (text::st.2.drop (st.2.length - p.1))=text.length+1+bk (st.2.drop (st.2.length - p.1)):=rfl
     have hw:bk [Str.ofString "("++Str.join (Str.ofString " ") (text::st.2.drop (st.2.length - p.1))++Str.ofString ")"]≤text.length+bk (st.2.drop (st.2.length - p.1))+4:=by
      show (_++_++_:Str).length+1+0≤_
      rw[lX,lX,show (Str.ofString "(").length=1 from rfl,show (Str.ofString ")").length=1 from rfl];lia
     dsimp only
     split
     · show bk st.1+bk (_++_)≤_
       rw[cb];lia
     · show bk (st.1++(_++_))+0≤_
       rw[cb,cb];lia
theorem qb {st:List Str×List Str} {text:Str} {tp:Option (Nat×Nat)}:(du st text tp).1.length+(du st text tp).2.length≤st.1.length+st.2.length+1:=by
 unfold du
 split
 · simp;lia
 · split
   · simp;lia
   · dsimp only
     split
     · simp;lia
     · simp;lia
noncomputable def d7 (m:Mo) (ids lids:List Str) (l:List Sp):List Str×List Str:=l.foldl (λst sp=>du st (spS ids lids sp) (cnt m sp)) ([],[])
theorem lW {m:Mo} {ids lids:List Str} {l:List Sp} {sp:Sp}:d7 m ids lids (l++[sp])=du (d7 m ids lids l) (spS ids lids sp) (cnt m sp):=by
 unfold d7;rw[List.foldl_append];rfl
noncomputable def gu (m:Mo) (ids lids:List Str) (l:List Sp):List Str:=(d7 m ids lids l).1++(d7 m ids lids l).2
theorem lV {m:Mo} {ids lids:List Str} {l:List Sp} (h:∀s∈l,(spS ids lids s).length≤2000):∀i,bk (d7 m ids lids (l.take i)).1+bk (d7 m ids lids (l.take i)).2≤i * 2004∧(d7 m ids lids (l.take i)).1.length+(d7 m ids lids (l.take i)).2.length≤i
 | 0=>⟨Nat.le_refl _,Nat.le_refl _⟩
 | i+1=>by
   obtain⟨a,b⟩:=lV h i (m:=m)
   cases e:l[i]? with
   | none=>
     have:l.take (i+1)=l.take i:=by rw[List.take_add_one,e];simp
     rw[this];lia
   | some s=>
     rw[cR e,lW]
     have h1:=h s (List.mem_of_getElem? e)
     have h2:=v3 (st:=d7 m ids lids (l.take i)) (text:=spS ids lids s) (tp:=cnt m s)
     have h3:=qb (st:=d7 m ids lids (l.take i)) (text:=spS ids lids s) (tp:=cnt m s)
     lia
theorem sC {l:List Sp}:List.take (bound (-1) (b8 l).length - 0) (List.drop 0 (b8 l))=l.map spD:=by
 have e:bound (-1) (b8 l).length=l.length:=by
  show (b8 l).length - (0+1)=_
  unfold b8;rw[List.length_append,List.length_map];rfl
 rw[e,Nat.sub_zero,List.drop_zero]
 unfold b8
 rw[List.take_append_of_le_length (by rw[List.length_map];exact Nat.le_refl _),←List.length_map (f:=spD),List.take_length]
noncomputable abbrev foG (cx:Cx) (m:Nat):Eng:=g0w cx m [] (dfM 116 7)
noncomputable abbrev Fc (l:List Sp):List D:=List.take (bound (-1) (b8 l).length - 0) (List.drop 0 (b8 l))
theorem C3 {n:Nat} {m:Mo} {ids lids:List Str} {o a b:Nat} {l:List Sp} {led:Led} (hn:6≤n) (M:MoOk m) (h1:ids.length≤1000) (h2:lids.length≤1000) (b1:∀i,i<10→(aD ids i).length≤1000) (b2:∀i,i<10→(aD lids i).length≤1000) (hs:∀s∈l,pz s) (hl:l.length≤5)
 (F:Fo (mdD m) (aU ids lids) o a b [] led) (hv:led[b]? =some (.list [])) (hx:∀s∈l,(spS ids lids s).length≤2000):
 ∃x l2,af cx n (dot "Folder" "fold") [.r o,.v (.list (b8 l))] led x l2∧x= .r a∧l2[a]? =some (.list (sD ((gu m ids lids l).map ind)))∧Fr o led l2:=by
 obtain⟨q,rfl⟩:=le_succ (one_le hn)
 refine cF λGG gg=>?_
 have hq:5≤q:=Nat.le_of_succ_le_succ hn
 have bd:∀i,i≤l.length→bk (d7 m ids lids (l.take i)).1+bk (d7 m ids lids (l.take i)).2≤10020∧(d7 m ids lids (l.take i)).1.length+(d7 m ids lids (l.take i)).2.length≤5:=λi hi=>⟨Nat.le_trans (lV hx i).1 (Nat.mul_le_mul_right 2004 (Nat.le_trans hi hl)),Nat.le_trans (lV hx i).2 (Nat.le_trans hi hl)⟩
 obtain⟨l3,⟨⟨b',F',hv'⟩,fr⟩,R⟩:=turns_inv (sc:=(dfM 116 7).sc) (is:=((l.map spD).map AV.v).map It.one) (c:=(foG cx q).c) (n:=(foG cx q).n) (t:=(bF (stB (dfM 116 7).body 0))) (body:=(bu (stB (dfM 116 7).body 0))) (λ_=>[("self",.r o),("body",.v (.list (b8 l)))])
  (λi led'=>(∃b',Fo (mdD m) (aU ids lids) o a b' ((d7 m ids lids (l.take i)).1.map ind) led'∧led'[b']? =some (.list (sD (d7 m ids lids (l.take i)).2)))∧Fr o led led') (λi it led' hi ⟨⟨b',F',hv'⟩,fr⟩=>by
    obtain⟨sp,hsp,rfl⟩:=ones hi
    have hmem:=List.mem_of_getElem? hsp
    obtain⟨a1,a2⟩:=bd i (Nat.le_of_lt (List.getElem?_eq_some_iff.mp hsp).1)
    obtain⟨_,l2,hk,rfl,b2',rows',vals',F2,hv2,fr2,hst⟩:=w3 (n:=q) hq M h1 h2 b1 b2 (hs sp hmem) F' hv' (ai (Nat.le_trans (Nat.le_add_left _ _) a1) rfl) (hx sp hmem) (by rw[List.length_map];exact ai a2 rfl)
    obtain⟨c',ho'⟩:=F'.obj
    obtain⟨rw',e1,e2⟩:=hst _ rfl
    have e3:(rw',vals')=d7 m ids lids (l.take (i+1)):=by rw[cR hsp,lW];exact e2
    have F2:Fo (mdD m) (aU ids lids) o a b2' ((d7 m ids lids (l.take (i+1))).1.map ind) l2:=by rw[←e3];show Fo _ _ _ _ _ (rw'.map ind) _;rw[←e1];exact F2
    have hv2:l2[b2']? =some (.list (sD (d7 m ids lids (l.take (i+1))).2)):=by rw[←e3];exact hv2
    refine aH (g:=foG cx q) [.k (.obj "Folder"),.r (.v .none) l2] ?_
    cases sp<;>exact(show (_∧_∧True)∧_∧_∧_ from ⟨⟨hk,dg ho',trivial⟩,⟨⟨b2',F2,hv2⟩,λk hk=>(fr2 k hk).trans (fr k hk)⟩,.inl rfl,SubL.drop rfl⟩))
  led ⟨⟨b,F,hv⟩,λk _=>rfl⟩
 rw[yA]at F' hv'
 obtain⟨a1,a2⟩:=bd l.length (Nat.le_refl _)
 rw[List.take_length]at a1 a2
 obtain⟨_,l2,hk,rfl,b2',F2,hv2,fr2⟩:=m6 (n:=q) (le_trans' hq rfl) F' hv' (λs h=>ai (Nat.le_trans (Nat.le_trans (Nat.le_succ _) (e9 h)) (Nat.le_trans (Nat.le_add_left _ _) a1)) rfl) (by rw[List.length_map];exact ai a2 rfl)
 obtain⟨c',ho'⟩:=F'.obj
 obtain⟨⟨c2,ho2⟩,hra2,_⟩:=F2
 have R:bf (foG cx q).c (foG cx q).n (foG cx q).sc (bF (stB (dfM 116 7).body 0)) (bu (stB (dfM 116 7).body 0)) (((Fc l).map AV.v).map It.one) [("self",.r o),("body",.v (.list (b8 l)))] led .next [("self",.r o),("body",.v (.list (b8 l)))] l3:=by rw[show Fc l=l.map spD from sC];exact R
 refine gg ?_
 refine rG (d:=dfM 116 7) (mt:=[]) [.w .next [("self",.r o),("body",.v (.list (b8 l)))] l3,.k (.obj "Folder"),.r (.v .none) l2,.a (.r a)] (by kernel_rfl) ?_
 refine And.intro ⟨aT ho2 rfl,hk,dg ho',R,ae (show (b8 l).length≤6 from by unfold b8;rw[List.length_append,List.length_map];exact Nat.succ_le_succ hl) rfl,trivial⟩ ⟨rfl,?_,λk hk=>(fr2 k hk).trans (fr k hk)⟩
 unfold gu;rw[List.map_append];exact hra2
end Mine
end
section
open PySem
namespace Mine
variable {cx:Cx}
theorem jg {n:Nat} {ids lids:List Str} {led:Led} (hn:1≤n):af cx n "Told" [.v (.list (sD ids)),.v (.list (sD lids))] led (.v (aU ids lids)) led:=by
 refine uj (y:="Told") (d:=dfM 108 0) (mt:=[]) [] (by kernel_rfl) rfl (one_le hn) λm1 hm=>?_
 exact And.intro trivial rfl
theorem xY {l:List Sp}:(b8 l).length=l.length+1:=by unfold b8;rw[List.length_append,List.length_map];rfl
noncomputable abbrev brG (cx:Cx) (m:Nat):Eng:=g0w cx m ["found"] (dfD 114)
noncomputable abbrev brA (t:D) (l:List Sp):Loc:=[("told",.v t),("body",.v (.list (b8 l))),("depth",.v (.int 1)),("found",.r 0)]
theorem qp {n:Nat} {ids lids:List Str} {l:List Sp} {led:Led} (hn:5≤n) (h1:ids.length≤1000) (h2:lids.length≤1000) (b1:∀i,i<10→(aD ids i).length≤1000) (b2:∀i,i<10→(aD lids i).length≤1000) (hs:∀s∈l,pz s) (hl:l.length≤5) (hx:∀s∈l,(spS ids lids s).length≤2000):
 af cx n "body_rows" [.v (aU ids lids),.v (.list (b8 l)),.v (.int 1)] led (.v (.list (sD (l.map λs=>ind (spS ids lids s))))) led:=by
 obtain⟨q,rfl⟩:=le_succ (one_le hn)
 have hq:4≤q:=Nat.le_of_succ_le_succ hn
 have T:=aV (sc:=(dfD 114).sc) (is:=((l.map spD).map AV.v).map It.one) (c:=(brG cx q).c) (n:=(brG cx q).n) (t:=(bF (stB (dfD 114).body 1))) (body:=(bu (stB (dfD 114).body 1))) (λ_=>brA (aU ids lids) l) (λi=>[.list (sD ((l.take i).map λs=>ind (spS ids lids s)))]) λi it hi=>by
  obtain⟨sp,hsp,rfl⟩:=ones hi
  have hmem:=List.mem_of_getElem? hsp
  have hxx:=hx sp hmem
  have hins:=λled=>gS (cx:=cx) (n:=q) (led:=led) hq h1 h2 b1 b2 (hs sp hmem)
  have fl:fits (sD ((l.take i).map λs=>ind (spS ids lids s))).length=true:=aM (k:=5) (by rw[List.length_map,List.length_take];exact Nat.le_trans (Nat.min_le_right _ _) hl) rfl
  rw[←snoc (f:=λs=>ind (spS ids lids s)) hsp]
  generalize spS ids lids sp=tx at *
  have ft:fits (2+tx.length)=true:=ae (Nat.add_le_add_left hxx 2) rfl
  refine aH (g:=brG cx q) [.p (.str tx)] ?_
  cases sp<;>exact(show (_∧_∧_∧True)∧_∧_∧_ from ⟨⟨fl,ft,hins _,trivial⟩,rfl,.inl rfl,SubL.drop rfl⟩)
 rw[yA,show l.map spD=Fc l from sC.symm]at T
 refine eD (d:=dfD 114) (mt:=["found"]) [.w .next (brA (aU ids lids) l) [.list (sD (l.map λs=>ind (spS ids lids s)))]] (by kernel_rfl) rfl ?_
 exact And.intro ⟨T,ae (Nat.le_trans (Nat.le_of_eq xY) (Nat.succ_le_succ hl)) rfl,trivial⟩ rfl
theorem ud {n:Nat} {m:Mo} {ids lids:List Str} {l:List D} (hn:1≤n):∃l2,af cx n "Folder" [.v (mdD m),.v (aU ids lids),.v (.int 1)] [.list l] (.r 1) l2∧l2=[.list l,.obj "Folder" (foF (mdD m) (aU ids lids) 2 3 4),.list [],.list [],.list []]:=by
 refine objR (y:="Folder") (d:=dfM 116 0) (mt:=["rows","values","closers"]) [] (by kernel_rfl) (one_le hn) λm1 hm=>?_
 exact And.intro trivial ⟨rfl,rfl⟩
noncomputable def aN (b:Bool) (m:Mo) (nn:Option Nn) (ids:List Str) (place:Nat) (f:Fu):List Str:=
 let kn:=cB m f.kind
 let lids:=bD (dP nn (nfn m.imports+place)) (kn.p.length+f.locals.length)
 [dq (dS ids (nfn m.imports+place)) f.kind kn f.locals lids]++(match b with | true=>(gu m ids lids f.body).map ind | false=>f.body.map λs=>ind (spS ids lids s))++[(")":Str)]
theorem bQ {n:Nat} (h:n<10):(ao (n:Int)).length≤20:=Nat.le_of_ble_eq_true (bW (f:=λn=>Nat.ble (ao (n:Int)).length 20) (g:=λ_=>true) (by kernel_rfl) h)
theorem aY {ids:List Str} {i:Nat} (h:∀s∈ids,s.length≤4) (hi:i<10):(aD ids i).length≤20:=by
 unfold aD
 cases e:ids[i]? with
 | some s=>exact xq (c:=isE s=true) (a:=ao i) (b:=s) (P:=λt=>t.length≤20) (bQ hi) (ai (h s (List.mem_of_getElem? e)) rfl)
 | none=>exact bQ hi
theorem pv {ids lids:List Str} {s:Sp} (h1:∀s∈ids,s.length≤4) (h2:∀s∈lids,s.length≤4) (hs:pz s):(spS ids lids s).length≤100:=by
 cases s with
 | const r=>exact Nat.le_of_ble_eq_true (bW (f:=λr=>Nat.ble (spS ids lids (.const r)).length 100) (g:=λ_=>true) (by kernel_rfl) hs)
 | ind a b=>exact Nat.le_of_ble_eq_true (b9 (l:=rg 4) (m:=rg 2) (f:=λa b=>Nat.ble (spS ids lids (.ind a b)).length 100) (g:=λ_ _=>true) (by kernel_rfl) (aO hs.1) (aO hs.2))
 | lget i=>exact ai (ag (Nat.le_refl 10) (aY h2 (Nat.lt_of_lt_of_le hs (by decide)))) rfl
 | call i=>exact ai (ag (Nat.le_refl 5) (aY h1 hs)) rfl
theorem p8 {n place:Nat} {m:Mo} {nn:Option Nn} {b:Bool} {ids:List Str} {f:Fu} {led:Led} (hn:8≤n) (M:MoOk m) (hf:nV f) (hp:place<2) (hil:ids.length=nfn m.imports+m.funcs.length) (hpl:place<m.funcs.length) (hids:∀s∈ids,s.length≤4) (hy:∀j i,yAt (dP nn j) i<9):
 af cx n (dot "Printer" "func_rows") [.v (prD (mdD m) (nnD nn) b ids),.v (.int place),.v (fuD f)] led (.v (.list (sD (aN b m nn ids place f)))) led:=by
 obtain⟨q,rfl⟩:=le_succ (one_le hn)
 have hq:7≤q:=Nat.le_of_succ_le_succ hn
 have hkn:=jA (k:=f.kind) M
 have himp:nfn m.imports≤3:=by rw[←qw];exact Nat.le_trans ir M.importsL
 have hi:=jE (ids:=ids) (i:=nfn m.imports+place) (hil▸Nat.add_lt_add_left hpl _)
 have hidl:=fD (ids:=ids) (i:=nfn m.imports+place) hids
 have hll:=cC (ys:=dP nn (nfn m.imports+place)) (i:=(cB m f.kind).p.length+f.locals.length)
 have hls:=bU (ys:=dP nn (nfn m.imports+place)) (i:=(cB m f.kind).p.length+f.locals.length)
 have c1:=λled=>kK (cx:=cx) (n:=q) (led:=led) (le_trans' hq rfl) M
 have c2:=λled=>mG (cx:=cx) (n:=q) (nm:=nnD nn) (b:=b) (ids:=ids) (led:=led) (le_trans' hq rfl) M hf
 have hmany:(Int.ofNat (kD (cB m f.kind).p).length+Int.ofNat (kD f.locals).length)=(((cB m f.kind).p.length+f.locals.length:Nat):Int):=by rw[iS,iS];rfl
 have c3:=λled=>pN (cx:=cx) (n:=q) (index:=nfn m.imports+place) (m:=mdD m) (nn:=nn) (b:=b) (ids:=ids) (led:=led) (many:=(cB m f.kind).p.length+f.locals.length) (le_trans' hq rfl) (ai (Nat.add_le_add hkn.1 hf.2.1) rfl) (hy _)
 rw[←hmany]at c3
 generalize hlid:bD (dP nn (nfn m.imports+place)) ((cB m f.kind).p.length+f.locals.length)=lids at *
 have h1:ids.length≤1000:=hil▸ai (Nat.add_le_add himp M.funcsL) rfl
 have h2:lids.length≤1000:=hll▸ai (Nat.add_le_add hkn.1 hf.2.1) rfl
 have b1:∀i,i<10→(aD ids i).length≤1000:=λi hi=>ai (aY hids hi) rfl
 have b2:∀i,i<10→(aD lids i).length≤1000:=λi hi=>ai (aY hls hi) rfl
 have hx:∀s∈f.body,(spS ids lids s).length≤2000:=λs hs=>ai (pv hids hls (hf.2.2.2 s hs)) rfl
 have c5:=λled=>pX (cx:=cx) (n:=q) (nm:=nnD nn) (b:=b) (led:=led) (le_trans' hq rfl) M hf hi (ai (Nat.add_le_add himp (Nat.le_of_lt hp)) rfl) (ai hidl rfl) hll (λs h=>ai (hls s h) rfl)
 have hres:∀b,aN b m nn ids place f=[dq (dS ids (nfn m.imports+place)) f.kind (cB m f.kind) f.locals lids]++(match b with | true=>(gu m ids lids f.body).map ind | false=>f.body.map λs=>ind (spS ids lids s))++[(")":Str)]:=λb=>by
  unfold aN;dsimp only;rw[hlid]
 generalize dq (dS ids (nfn m.imports+place)) f.kind (cB m f.kind) f.locals lids=head at *
 have fp:fits (kD (cB m f.kind).p).length=true:=aq (k:=2) hkn.1 rfl
 have fl:fits (kD f.locals).length=true:=aq (k:=2) hf.2.1 rfl
 have fin:∀x:List Str,D.list ([.str head]++sD x++[.str ")"])=D.list (sD ([head]++x++[(")":Str)])):=λx=>by
  unfold sD;rw[List.map_append,List.map_append];rfl
 have fx:∀x:List Str,x.length≤5→fits ([D.str head].length+(sD x).length)=true∧fits (([D.str head]++sD x).length+[D.str ")"].length)=true:=λx h=>
  ⟨ae (Nat.add_le_add_left (aF▸h) 1) rfl,ae (Nat.add_le_add_right (by rw[List.length_append,aF];exact Nat.add_le_add_left h 1) 1) rfl⟩
 cases b with
 | true=>
   obtain⟨l2,hk,hl2⟩:=ud (n:=q) (m:=m) (ids:=ids) (lids:=lids) (l:=[.str head]) (le_trans' hq rfl)
   have F2:Fo (mdD m) (aU ids lids) 1 2 3 [] l2:=by rw[hl2];exact⟨⟨4,rfl⟩,rfl,by decide,by decide,by decide⟩
   obtain⟨_,l3,hk3,rfl,hrow,fr⟩:=C3 (n:=q) (le_trans' hq rfl) M h1 h2 b1 b2 hf.2.2.2 hf.2.2.1 F2 (by rw[hl2];rfl) hx
   have h0:l3[0]? =some (.list [.str head]):=by rw[show l3[0]? =l2[0]? from fr 0 (by decide),hl2];rfl
   subst hl2
   have hN:=(lV hx f.body.length (m:=m)).2
   rw[List.take_length]at hN
   have g:=fx ((gu m ids lids f.body).map ind) (by rw[List.length_map];unfold gu;rw[List.length_append];exact Nat.le_trans hN hf.2.2.1)
   refine eD (d:=dfM 117 8) (mt:=["found"]) [.p (.int (nfn m.imports:Nat)),.p (knD (cB m f.kind)),.p (.list (sD lids)),.p (aU ids lids),.p (.str head),.r (.r 1) [.list [.str head],.obj "Folder" (foF (mdD m) (aU ids lids) 2 3 4),.list [],.list [],.list []],.r (.r 2) l3,.o (.list [.str head]),.v (.list (sD ((gu m ids lids f.body).map ind))),.v (.list ([.str head]++sD ((gu m ids lids f.body).map ind)))] (by kernel_rfl) rfl ?_
   refine And.intro ⟨g.2,e8 (ib (jx h0)),g.1,e8 hrow,h0,hk3,hk,c5 _,jg (le_trans' hq rfl),c3 _,fl,fp,c2 _,c1 _,trivial⟩ ?_
   rw[hres];exact fin _
 | false=>
   have g:=fx (f.body.map λs=>ind (spS ids lids s)) (by rw[List.length_map];exact hf.2.2.1)
   refine eD (d:=dfM 117 8) (mt:=["found"]) [.p (.int (nfn m.imports:Nat)),.p (knD (cB m f.kind)),.p (.list (sD lids)),.p (aU ids lids),.p (.str head),.p (.list (sD (f.body.map λs=>ind (spS ids lids s))))] (by kernel_rfl) rfl ?_
   refine And.intro ⟨g.2,g.1,qp (le_trans' hq rfl) h1 h2 b1 b2 hf.2.2.2 hf.2.2.1 hx,c5 _,jg (le_trans' hq rfl),c3 _,fl,fp,c2 _,c1 _,trivial⟩ ?_
   rw[hres];exact fin _
end Mine
end
section
open PySem
namespace Mine
variable {cx:Cx}
theorem nh {i:Nat}:(aC i).2.length≤40:=by rcases i with _ | _ | _ | _ | _<;>exact Nat.le_of_ble_eq_true (by kernel_rfl)
theorem xH {k:Vk} {m:Nat} (hm:m<2):(globT k m).length≤20:=Nat.le_of_ble_eq_true (b9 (l:=vks) (m:=rg 2) (f:=λk m=>Nat.ble (globT k m).length 20) (g:=λ_ _=>true) (by kernel_rfl) (c7 k) (aO hm))
theorem jy {a b:Nat} (ha:a<3) (hb:b<3):(eN a b).length≤20:=Nat.le_of_ble_eq_true (b9 (l:=rg 3) (m:=rg 3) (f:=λa b=>Nat.ble (eN a b).length 20) (g:=λ_ _=>true) (by kernel_rfl) (aO ha) (aO hb))
theorem qR {k:Vk} {a b:Nat} (ha:a<3) (hb:b<3):(tabS k a b).length≤40:=ai (ag (ag (jy ha hb) (Nat.le_refl 1)) (iI k)) rfl
noncomputable def glS (g:Gl):Str:="(global "++globT g.k g.m++ " "++(aC g.c).2++ ")"
theorem pY {g:Gl} (h:FV g):(glS g).length≤100:=ai (ag (ag (ag (ag (Nat.le_refl 8) (xH h.1)) (Nat.le_refl 1)) nh) (Nat.le_refl 1)) rfl
theorem mX {n:Nat} {m:Mo} {nm:D} {b:Bool} {ids:List Str} {led:Led} (hn:8≤n) (M:MoOk m):af cx n (dot "Printer" "global_rows") [.v (prD (mdD m) nm b ids)] led (.v (.list (sD (m.globals.map glS)))) led:=by
 have F:=λk (h:k∈m.globals)=>aL (ae (pY (M.globals k h)) rfl)
 have c1:=λ{m'} (hm:n=m'+1) k (h:k∈m.globals) {led}=>fG (cx:=cx) (n:=m') (told:=aU ids []) (led:=led) (lv hn hm rfl) (M.globals k h).2
 have c2:=λ{m'} (hm:n=m'+1) k (h:k∈m.globals) {led}=>mW (cx:=cx) (n:=m') (k:=k.k) (led:=led) (lv hn hm rfl) (M.globals k h).1
 obtain⟨kinds,imports,funcs,tables,memories,globals,exports,start,elems,datas⟩:=m
 refine DQ (P:=λl=>af cx n (dot "Printer" "global_rows") [.v (prD (mdD ⟨kinds,imports,funcs,tables,memories,l,exports,start,elems,datas⟩) nm b ids)] led (.v (.list (sD (l.map glS)))) led) M.globalsL ?_ (λk1 h1=>?_) (λk1 k2 h1 h2=>?_)
 · refine ax (d:=dfM 117 9) (mt:=["found"]) [] (by kernel_rfl) rfl (one_le hn) λm1 hm=>?_
   exact And.intro trivial rfl
 · refine ax (d:=dfM 117 9) (mt:=["found"]) [.p (.str (aC k1.c).2),.p (.str (globT k1.k k1.m))] (by kernel_rfl) rfl (one_le hn) λm1 hm=>?_
   conv=>whnf
   have f1:=F k1 h1
   exact⟨⟨rfl,f1,aa f1,aa (aa f1),aa (aa (aa f1)),c2 hm k1 h1,c1 hm k1 h1,trivial⟩,rfl⟩
 · refine ax (d:=dfM 117 9) (mt:=["found"]) [.p (.str (aC k1.c).2),.p (.str (globT k1.k k1.m)),.p (.str (aC k2.c).2),.p (.str (globT k2.k k2.m))] (by kernel_rfl) rfl (one_le hn) λm1 hm=>?_
   conv=>whnf
   have f1:=F k1 h1
   have f2:=F k2 h2
   exact⟨⟨rfl,f2,aa f2,aa (aa f2),aa (aa (aa f2)),c2 hm k2 h2,c1 hm k2 h2,rfl,f1,aa f1,aa (aa f1),aa (aa (aa f1)),c2 hm k1 h1,c1 hm k1 h1,trivial⟩,rfl⟩
noncomputable def bz (ids:List Str):Bool→Str
 | true=>"ref.func "++aD ids 1
 | false=>"global.get 0"
theorem rA {n:Nat} {led:Led} (hn:1≤n):af cx n "name_of" [.v (.int 210)] led (.v (.str "ref.func")) led:=by
 obtain⟨n,rfl⟩:=le_succ hn
 exact dn (d:=(dfD 94)) (mt:=[]) (by kernel_rfl) rfl (by kernel_rfl)
theorem se {n:Nat} {led:Led} (hn:1≤n):af cx n "form_of" [.v (.int 210)] led (.v (.str "func")) led:=by
 obtain⟨n,rfl⟩:=le_succ hn
 exact dn (d:=(dfD 64)) (mt:=[]) (by kernel_rfl) rfl (by kernel_rfl)
theorem kb {ids:List Str} {i:Bool} (b1:(aD ids 1).length≤1000):(bz ids i).length≤1020:=by
 cases i with
 | false=>exact Nat.le_of_ble_eq_true (by kernel_rfl)
 | true=>exact ai (ag (Nat.le_refl 9) b1) rfl
theorem xt {n:Nat} {ids lids:List Str} {led:Led} (hn:4≤n) (h1:ids.length≤1000) (b1:(aD ids 1).length≤1000):af cx n "instruction_text" [.v (aU ids lids),.v (opD [210,1])] led (.v (.str (bz ids true))) led:=by
 refine ax (d:=dfD 112) (mt:=[]) [.p (.str "ref.func"),.p (.str "func"),.p (.str (aD ids 1))] (by kernel_rfl) rfl (one_le hn) λm1 hm=>?_
 exact And.intro ⟨ae (Nat.add_le_add (Nat.le_refl 9) b1) rfl,d6 (i:=1) (lv hn hm rfl) h1 (by decide),rfl,se (lv hn hm rfl),rA (lv hn hm rfl),trivial⟩ rfl
theorem CA {n:Nat} {ids:List Str} {i:Bool} {led:Led} (hn:6≤n) (h1:ids.length≤1000) (b1:(aD ids 1).length≤1000):af cx n "constant_text" [.v (aU ids []),.v (gT i)] led (.v (.str (bz ids i))) led:=by
 cases i with
 | false=>exact pS hn
 | true=>
   refine ax (d:=dfD 113) (mt:=[]) [.p (.str (bz ids true)),.p (.str (bz ids true))] (by kernel_rfl) rfl (one_le hn) λm1 hm=>?_
   exact And.intro ⟨jC (sep:=Str.ofString " ") (l:=[bz ids true]) (ai (Nat.succ_le_succ (kb (i:=true) b1)) rfl) (by decide),xt (lv hn hm rfl) h1 b1,rfl,trivial⟩ rfl
noncomputable def zm (e:El):Str:=match e.mode with
 | 1=>" (table "++ao e.table++ ") (offset "++(aC e.c).2++ ")"
 | 2=>" declare"
 | _=>""
noncomputable def elS (ids:List Str) (e:El):Str:="(elem"++zm e++ " "++e.k.s++bo (" (item "++bz ids e.init++ ")") e.many++ ")"
theorem oZ {a:Str}:a++Str.empty=a:=by
 show Str.append a Str.empty=a
 unfold Str.append Str.empty
 simp
theorem wA {a:Str}:a++Str.ofString ""=a:=oZ
theorem e_app {a:Str}:Str.ofString ""++a=a:=by
 show Str.append (Str.ofString "") a=a
 show (⟨#[]++a.cps⟩:Str)=a
 simp
theorem eg {r s:Str} {k:Nat} {P:Prop} (q:r=s) (hs:s.length≤k) (e:Nat.ble k 1048576=true) (h:fits r.length=true→P):P∧D.str r=D.str s:=⟨h (ae (q▸hs) e),congrArg D.str q⟩
theorem xh {e:El} (he:AF e):(zm e).length≤100:=
 Nat.le_of_ble_eq_true (ik (l:=rg 3) (m:=rg 2) (k:=rg 5) (f:=λa b c=>Nat.ble (zm ⟨a,b,c,e.k,e.init,e.many⟩).length 100) (g:=λ_ _ _=>true) (by kernel_rfl) (aO he.1) (aO he.2.1) (aO he.2.2.1))
theorem BY {s:Str} {k:Nat} (h:s.length≤k):∀{n:Nat},n<3→(bo s n).length≤2 * k
 | 0,_=>Nat.zero_le _
 | 1,_=>Nat.le_trans (ag h (Nat.le_refl 0)) (by lia)
 | 2,_=>Nat.le_trans (ag h (ag h (Nat.le_refl 0))) (by lia)
 | n+3,h=>absurd h (Nat.not_lt.mpr (Nat.le_add_left 3 n))
theorem ql {ids:List Str} {e:El} (he:AF e) (b1:(aD ids 1).length≤1000):(elS ids e).length≤3000:=
 ai (ag (ag (ag (ag (ag (Nat.le_refl 5) (xh he)) (Nat.le_refl 1)) (iI e.k)) (BY (ag (ag (Nat.le_refl 7) (kb b1)) (Nat.le_refl 1)) he.2.2.2)) (Nat.le_refl 1)) rfl
theorem AA {X t:Str}:X++ ")"=X++bo (" (item "++t++ ")") 0++ ")":=congrArg (· ++Str.ofString ")") oZ.symm
theorem Az {X t:Str}:X++ " (item "++t++ ")"++ ")"=X++bo (" (item "++t++ ")") 1++ ")":=congrArg (· ++Str.ofString ")") (by
 show _=X++(Str.ofString " (item "++t++Str.ofString ")"++Str.empty)
 rw[oZ,dM,dM,dM])
theorem Ay {X t:Str}:X++ " (item "++t++ ")"++ " (item "++t++ ")"++ ")"=X++bo (" (item "++t++ ")") 2++ ")":=congrArg (· ++Str.ofString ")") (by
 show _=X++(Str.ofString " (item "++t++Str.ofString ")"++(Str.ofString " (item "++t++Str.ofString ")"++Str.empty))
 rw[oZ];simp only[dM])
theorem AE {ks:Str}: "(elem"++ " "++ks= "(elem"++ ""++ " "++ks:=by rw[wA]
theorem AD {ks tb o:Str}: "(elem"++ " (table "++tb++ ") (offset "++o++ ")"++ " "++ks= "(elem"++(" (table "++tb++ ") (offset "++o++ ")")++ " "++ks:=by simp only[dM]
theorem AB {ks:Str}: "(elem"++ " declare"++ " "++ks= "(elem"++ " declare"++ " "++ks:=rfl
theorem qk {n:Nat} {m nm:D} {b:Bool} {ids:List Str} {e:El} {led:Led} (hn:8≤n) (he:AF e) (h1:ids.length≤1000) (b1:(aD ids 1).length≤1000):
 af cx n (dot "Printer" "elem_text") [.v (prD m nm b ids),.v (elD e)] led (.v (.str (elS ids e))) led:=by
 have hL:=ql he b1
 obtain⟨mode,table,c,k,init,many⟩:=e
 obtain⟨hm,ht,hc,hmy⟩:mode<3∧table<2∧c<5∧many<3:=he
 have hin:=λ{m'} (hm:n=m'+1) {led}=>CA (cx:=cx) (n:=m') (i:=init) (led:=led) (lv hn hm rfl) h1 b1
 have hk:=λ{m'} (hm:n=m'+1) {led}=>fV (cx:=cx) (n:=m') (k:=k) (led:=led) (lv hn hm rfl)
 have hct:=λ{m'} (hm:n=m'+1) {led}=>fG (cx:=cx) (n:=m') (told:=aU ids []) (led:=led) (lv hn hm rfl) hc
 rcases lt3 hm with rfl | rfl | rfl<;>rcases lt3 hmy with rfl | rfl | rfl
 · refine ax (d:=dfM 117 10) (mt:=[]) [.p (.str k.s)] (by kernel_rfl) rfl (one_le hn) λm1 hm=>?_
   conv=>whnf
   refine eg (AA.trans (congrArg (λX=>X++bo (" (item "++bz ids init++ ")") 0++ ")") AE)) hL rfl λF=>?_
   replace F:=aL F
   exact⟨F,aa F,hk hm,aa (aa F),trivial⟩
 · refine ax (d:=dfM 117 10) (mt:=[]) [.p (.str k.s),.p (.str (bz ids init))] (by kernel_rfl) rfl (one_le hn) λm1 hm=>?_
   conv=>whnf
   refine eg (Az.trans (congrArg (λX=>X++bo (" (item "++bz ids init++ ")") 1++ ")") AE)) hL rfl λF=>?_
   replace F:=aL F
   exact⟨F,aa F,aa (aa F),hin hm,aa (aa (aa F)),aa (aa (aa (aa F))),hk hm,aa (aa (aa (aa (aa F)))),trivial⟩
 · refine ax (d:=dfM 117 10) (mt:=[]) [.p (.str k.s),.p (.str (bz ids init)),.p (.str (bz ids init))] (by kernel_rfl) rfl (one_le hn) λm1 hm=>?_
   conv=>whnf
   refine eg (Ay.trans (congrArg (λX=>X++bo (" (item "++bz ids init++ ")") 2++ ")") AE)) hL rfl λF=>?_
   replace F:=aL F
   exact⟨F,aa F,aa (aa F),hin hm,aa (aa (aa F)),aa (aa (aa (aa F))),aa (aa (aa (aa (aa F)))),hin hm,aa (aa (aa (aa (aa (aa F))))),aa (aa (aa (aa (aa (aa (aa F)))))),hk hm,aa (aa (aa (aa (aa (aa (aa (aa F))))))),trivial⟩
 · refine ax (d:=dfM 117 10) (mt:=[]) [.p (.str (aC c).2),.p (.str k.s)] (by kernel_rfl) rfl (one_le hn) λm1 hm=>?_
   conv=>whnf
   refine eg (AA.trans (congrArg (λX=>X++bo (" (item "++bz ids init++ ")") 0++ ")") AD)) hL rfl λF=>?_
   replace F:=aL F
   exact⟨F,aa F,hk hm,aa (aa F),aa (aa (aa F)),aa (aa (aa (aa F))),aa (aa (aa (aa (aa F)))),aa (aa (aa (aa (aa (aa F))))),aW (Nat.le_of_lt ht) rfl,aa (aa (aa (aa (aa (aa (aa F)))))),hct hm,trivial⟩
 · refine ax (d:=dfM 117 10) (mt:=[]) [.p (.str (aC c).2),.p (.str k.s),.p (.str (bz ids init))] (by kernel_rfl) rfl (one_le hn) λm1 hm=>?_
   conv=>whnf
   refine eg (Az.trans (congrArg (λX=>X++bo (" (item "++bz ids init++ ")") 1++ ")") AD)) hL rfl λF=>?_
   replace F:=aL F
   exact⟨F,aa F,aa (aa F),hin hm,aa (aa (aa F)),aa (aa (aa (aa F))),hk hm,aa (aa (aa (aa (aa F)))),aa (aa (aa (aa (aa (aa F))))),aa (aa (aa (aa (aa (aa (aa F)))))),aa (aa (aa (aa (aa (aa (aa (aa F))))))),aa (aa (aa (aa (aa (aa (aa (aa (aa F)))))))),aW (Nat.le_of_lt ht) rfl,aa (aa (aa (aa (aa (aa (aa (aa (aa (aa F))))))))),hct hm,trivial⟩
 · refine ax (d:=dfM 117 10) (mt:=[]) [.p (.str (aC c).2),.p (.str k.s),.p (.str (bz ids init)),.p (.str (bz ids init))] (by kernel_rfl) rfl (one_le hn) λm1 hm=>?_
   conv=>whnf
   refine eg (Ay.trans (congrArg (λX=>X++bo (" (item "++bz ids init++ ")") 2++ ")") AD)) hL rfl λF=>?_
   replace F:=aL F
   exact⟨F,aa F,aa (aa F),hin hm,aa (aa (aa F)),aa (aa (aa (aa F))),aa (aa (aa (aa (aa F)))),hin hm,aa (aa (aa (aa (aa (aa F))))),aa (aa (aa (aa (aa (aa (aa F)))))),hk hm,aa (aa (aa (aa (aa (aa (aa (aa F))))))),aa (aa (aa (aa (aa (aa (aa (aa (aa F)))))))),aa (aa (aa (aa (aa (aa (aa (aa (aa (aa F))))))))),aa (aa (aa (aa (aa (aa (aa (aa (aa (aa (aa F)))))))))),aa (aa (aa (aa (aa (aa (aa (aa (aa (aa (aa (aa F))))))))))),aW (Nat.le_of_lt ht) rfl,aa (aa (aa (aa (aa (aa (aa (aa (aa (aa (aa (aa (aa F)))))))))))),hct hm,trivial⟩
 · refine ax (d:=dfM 117 10) (mt:=[]) [.p (.str k.s)] (by kernel_rfl) rfl (one_le hn) λm1 hm=>?_
   conv=>whnf
   refine eg (AA.trans (congrArg (λX=>X++bo (" (item "++bz ids init++ ")") 0++ ")") AB)) hL rfl λF=>?_
   replace F:=aL F
   exact⟨F,aa F,hk hm,aa (aa F),aa (aa (aa F)),trivial⟩
 · refine ax (d:=dfM 117 10) (mt:=[]) [.p (.str k.s),.p (.str (bz ids init))] (by kernel_rfl) rfl (one_le hn) λm1 hm=>?_
   conv=>whnf
   refine eg (Az.trans (congrArg (λX=>X++bo (" (item "++bz ids init++ ")") 1++ ")") AB)) hL rfl λF=>?_
   replace F:=aL F
   exact⟨F,aa F,aa (aa F),hin hm,aa (aa (aa F)),aa (aa (aa (aa F))),hk hm,aa (aa (aa (aa (aa F)))),aa (aa (aa (aa (aa (aa F))))),trivial⟩
 · refine ax (d:=dfM 117 10) (mt:=[]) [.p (.str k.s),.p (.str (bz ids init)),.p (.str (bz ids init))] (by kernel_rfl) rfl (one_le hn) λm1 hm=>?_
   conv=>whnf
   refine eg (Ay.trans (congrArg (λX=>X++bo (" (item "++bz ids init++ ")") 2++ ")") AB)) hL rfl λF=>?_
   replace F:=aL F
   exact⟨F,aa F,aa (aa F),hin hm,aa (aa (aa F)),aa (aa (aa (aa F))),aa (aa (aa (aa (aa F)))),hin hm,aa (aa (aa (aa (aa (aa F))))),aa (aa (aa (aa (aa (aa (aa F)))))),hk hm,aa (aa (aa (aa (aa (aa (aa (aa F))))))),aa (aa (aa (aa (aa (aa (aa (aa (aa F)))))))),trivial⟩
end Mine
end
section
open PySem
namespace Mine
variable {cx:Cx}
theorem octN_len {i:Nat}:(gD i).2.length≤20:=by rcases i with _ | _ | _<;>exact Nat.le_of_ble_eq_true (by kernel_rfl)
noncomputable def Gj (d:Da):Str:=match d.mode with
 | 1=>"(memory "++ao 0++ ") (offset "++(aC d.c).2++ ") "
 | _=>""
noncomputable def daS (d:Da):Str:="(data "++Gj d++(gD d.o).2++ ")"
theorem qm {n:Nat} {m nm:D} {b:Bool} {ids:List Str} {d:Da} {led:Led} (hn:8≤n) (hd:C9 d):
 af cx n (dot "Printer" "data_text") [.v (prD m nm b ids),.v (daD d)] led (.v (.str (daS d))) led:=by
 obtain⟨n,rfl⟩:=le_succ hn
 obtain⟨mode,c,o⟩:=d
 exact dn (m:=(n+7)) (d:=(dfM 117 11)) (mt:=[]) (by kernel_rfl) rfl (ik (l:=rg 2) (m:=rg 5) (k:=rg 3) (f:=λa c o=>cQ cx (n+7) [] (dfM 117 11) [(prD m nm b ids),(daD ⟨a,c,o⟩)] (λρ _=>tell (ρ=(.str (daS ⟨a,c,o⟩)))) [.z] True) (g:=λa c o=>(True∧((.str (daS ⟨a,c,o⟩)):D)=(.str (daS ⟨a,c,o⟩)))) (by kernel_rfl) (aO hd.1) (aO hd.2.1) (aO hd.2.2))
noncomputable def gK (m:Mo):List Str:=m.tables.map (λp=>"(table "++tabS .c p.1 p.2++ ")")++m.memories.map (λp=>"(memory "++eN p.1 p.2++ ")")
theorem nO {n:Nat} {m:Mo} {nm:D} {b:Bool} {ids:List Str} {led:Led} (hn:8≤n) (M:MoOk m):af cx n (dot "Printer" "small_rows") [.v (prD (mdD m) nm b ids)] led (.v (.list (sD (gK m)))) led:=by
 obtain⟨q,rfl⟩:=le_succ (one_le hn)
 have hq:7≤q:=Nat.le_of_succ_le_succ hn
 have r1:=M.tablesL
 have r2:=M.memoriesL
 refine eD (d:=dfM 117 12) (mt:=[]) [.l (m.tables.map λp=> .str ("(table "++tabS .c p.1 p.2++ ")")) [],.l (m.memories.map λp=> .str ("(memory "++eN p.1 p.2++ ")")) []] (by kernel_rfl) rfl ?_
 refine And.intro ⟨ae (Nat.add_le_add (by rw[List.length_map];exact r1) (by rw[List.length_map];exact r2)) rfl,aq r2 rfl,cw (A:=λp=> .v (meD p)) (f:=λp=> .str ("(memory "++eN p.1 p.2++ ")")) rfl (List.map_map ..) (λp hp=>?_),aq r1 rfl,cw (A:=λp=> .v (tbD p)) (f:=λp=> .str ("(table "++tabS .c p.1 p.2++ ")")) rfl (List.map_map ..) (λp hp=>?_),trivial⟩ ?_
 · obtain⟨q1,q2⟩:=M.memories p hp
   have g:=aL (a:="(memory "++eN p.1 p.2) (b:=")") (ae (ag (ag (Nat.le_refl 8) (jy q1 q2)) (Nat.le_refl 1)) rfl)
   exact⟨[.p (.str (eN p.1 p.2))],by exact(show (_∧_∧_∧True)∧_∧_ from ⟨⟨g,aa g,mB (le_trans' hq rfl) q1 q2,trivial⟩,rfl,rfl⟩)⟩
 · obtain⟨q1,q2⟩:=M.tables p hp
   have g:=aL (a:="(table "++tabS .c p.1 p.2) (b:=")") (ae (ag (ag (Nat.le_refl 7) (qR (k:= .c) q1 q2)) (Nat.le_refl 1)) rfl)
   exact⟨[.p (.str (tabS .c p.1 p.2))],by exact(show (_∧_∧_∧True)∧_∧_ from ⟨⟨g,aa g,nM (k:= .c) (le_trans' hq rfl) q1 q2,trivial⟩,rfl,rfl⟩)⟩
 · unfold gK sD
   rw[List.map_append,List.map_map,List.map_map]
   rfl
end Mine
end
section
open PySem
namespace Mine
variable {cx:Cx}
noncomputable def gq:Nat→Str
 | 0=>"func" | 1=>"table" | 2=>"memory" | _=>"global"
noncomputable def qg (ids:List Str) (e:Xp):Str:=match e.sort with
 | 0=>aD ids e.i
 | _=>ao e.i
noncomputable def exS (ids:List Str) (e:Xp):Str:="(export "++(strN e.s).2++ " ("++gq e.sort++ " "++qg ids e++ "))"
noncomputable def stS (ids:List Str):Option Nat→List Str
 | none=>[]
 | some i=>["(start "++aD ids i++ ")"]
theorem sj {ids:List Str} {e:Xp} (hids:∀s∈ids,s.length≤4) (h:e.i<10):(qg ids e).length≤20:=by
 unfold qg
 cases e.sort with
 | zero=>exact aY hids h
 | succ _=>exact bQ h
theorem qf {ids:List Str} {e:Xp} (he:Ge e) (hids:∀s∈ids,s.length≤4):(exS ids e).length≤100:=
 ai (ag (ag (ag (ag (ag (ag (Nat.le_refl 8) lQ) (Nat.le_refl 2)) (show (gq e.sort).length≤6 from Nat.le_of_ble_eq_true (bW (f:=λi=>Nat.ble (gq i).length 6) (g:=λ_=>true) (by kernel_rfl) he.2.1))) (Nat.le_refl 1)) (sj hids (Nat.lt_of_lt_of_le he.2.2 (by decide)))) (Nat.le_refl 2)) rfl
noncomputable abbrev exG (cx:Cx) (m:Nat):Eng:=g0w cx m ["found"] (dfM 117 13)
noncomputable abbrev exA (s:D):Loc:=[("self",.v s),("found",.r 0)]
theorem si {q:Nat} {m:Mo} {nm:D} {b:Bool} {ids:List Str} (hq:7≤q) (M:MoOk m) (h1:ids.length≤1000) (hids:∀s∈ids,s.length≤4) {i:Nat} {e:Xp} (h:m.exports[i]? =some e):
 ∃f l1 led1,(led1=[.list (sD ((m.exports.take (i+1)).map (exS ids)))]∧(f= .next∨f= .cont)∧SubL (exA (prD (mdD m) nm b ids)) l1)∧
 bA (exG cx q).c (exG cx q).n (exG cx q).sc (bF (stB (dfM 117 13).body 1)) (bu (stB (dfM 117 13).body 1)) (.one (.v (exD e))) (exA (prD (mdD m) nm b ids)) [.list (sD ((m.exports.take i).map (exS ids)))] f l1 led1:=by
 have he:=M.exports _ (List.mem_of_getElem? h)
 have F:=aL (ae (qf he hids) rfl)
 have fl:fits (sD ((m.exports.take i).map (exS ids))).length=true:=aM (k:=2) (by rw[List.length_map,List.length_take];exact Nat.le_trans (Nat.min_le_right _ _) M.exportsL) rfl
 rw[←snoc (f:=exS ids) h]
 obtain⟨es,so,ei⟩:=e
 have it:item (.list [.str "func",.str "table",.str "memory",.str "global"]) (.int (so:Int))=some (.str (gq so)):=bW (f:=λso=>item (.list [.str "func",.str "table",.str "memory",.str "global"]) (.int (so:Int))) (g:=λso=>some (.str (gq so))) (by kernel_rfl) he.2.1
 have nt:=λled=>fS (cx:=cx) (n:=q) (led:=led) (le_trans' hq rfl) he.1
 have hi:ei≤1000:=ai (Nat.le_of_lt he.2.2) rfl
 cases so with
 | zero=>
   refine aH (g:=exG cx q) [.t,.p (.str (aD ids ei)),.p (.str (strN es).2),.i (.str (gq 0))] ?_
   exact And.intro ⟨fl,F,aa F,aa (aa F),aa (aa (aa F)),it,aa (aa (aa (aa F))),aa (aa (aa (aa (aa F)))),nt _,d6 (le_trans' hq rfl) h1 hi,rfl,trivial⟩ ⟨rfl,.inl rfl,SubL.drop rfl⟩
 | succ so=>
   refine aH (g:=exG cx q) [.f,.p (.str (strN es).2),.i (.str (gq (so+1)))] ?_
   exact And.intro ⟨fl,F,aa F,aa (aa F),aa (aa (aa F)),it,aa (aa (aa (aa F))),aa (aa (aa (aa (aa F)))),nt _,aW hi rfl,decide_eq_false (λz=>by cases z),trivial⟩ ⟨rfl,.inl rfl,SubL.drop rfl⟩
theorem m7 {n:Nat} {m:Mo} {nm:D} {b:Bool} {ids:List Str} {led:Led} (hn:8≤n) (M:MoOk m) (h1:ids.length≤1000) (hids:∀s∈ids,s.length≤4):af cx n (dot "Printer" "export_rows") [.v (prD (mdD m) nm b ids)] led (.v (.list (sD (m.exports.map (exS ids)++stS ids m.start)))) led:=by
 obtain⟨q,rfl⟩:=le_succ (one_le hn)
 have hq:7≤q:=Nat.le_of_succ_le_succ hn
 have T:=aV (sc:=(dfM 117 13).sc) (is:=((m.exports.map exD).map AV.v).map It.one) (c:=(exG cx q).c) (n:=(exG cx q).n) (t:=(bF (stB (dfM 117 13).body 1))) (body:=(bu (stB (dfM 117 13).body 1))) (λ_=>exA (prD (mdD m) nm b ids)) (λi=>[.list (sD ((m.exports.take i).map (exS ids)))]) λi it hi=>by
  obtain⟨e,he,rfl⟩:=ones hi
  exact si hq M h1 hids he
 rw[yA]at T
 have fl:fits (sD (m.exports.map (exS ids))).length=true:=aM (k:=2) (by rw[List.length_map];exact M.exportsL) rfl
 have hst:=M.start
 obtain⟨kinds,imports,funcs,tables,memories,globals,exports,start,elems,datas⟩:=m
 cases start with
 | none=>
   refine eD (d:=dfM 117 13) (mt:=["found"]) [.w .next (exA (prD (mdD ⟨kinds,imports,funcs,tables,memories,globals,exports,none,elems,datas⟩) nm b ids)) [.list (sD (exports.map (exS ids)))]] (by kernel_rfl) rfl ?_
   exact And.intro ⟨T,trivial⟩ (congrArg (λx=>D.list (sD x)) (List.append_nil _).symm)
 | some i=>
   have hi:i<4:=hst i rfl
   have F:=aL (a:="(start "++aD ids i) (b:=")") (ae (ag (ag (Nat.le_refl 7) (aY hids (Nat.lt_of_lt_of_le hi (by decide)))) (Nat.le_refl 1)) rfl)
   refine eD (d:=dfM 117 13) (mt:=["found"]) [.w .next (exA (prD (mdD ⟨kinds,imports,funcs,tables,memories,globals,exports,some i,elems,datas⟩) nm b ids)) [.list (sD (exports.map (exS ids)))],.p (.str (aD ids i))] (by kernel_rfl) rfl ?_
   exact And.intro ⟨fl,F,aa F,d6 (le_trans' hq rfl) h1 (ai (Nat.le_of_lt hi) rfl),T,trivial⟩ (congrArg D.list (d8 (s:="(start "++aD ids i++ ")")))
end Mine
end
section
open PySem
namespace Mine
variable {cx:Cx}
noncomputable def frL (b:Bool) (m:Mo) (nn:Option Nn) (ids:List Str):Nat→List Fu→List Str
 | _,[]=>[]
 | k,f::l=>aN b m nn ids k f++frL b m nn ids (k+1) l
theorem v9 {b:Bool} {m:Mo} {nn:Option Nn} {ids:List Str} {f:Fu}:∀{l:List Fu} {k:Nat},frL b m nn ids k (l++[f])=frL b m nn ids k l++aN b m nn ids (k+l.length) f
 | [],k=>List.append_nil _
 | x::l,k=>by
   show _++frL b m nn ids (k+1) (l++[f])=(_++frL b m nn ids (k+1) l)++_
   rw[v9,List.append_assoc,List.length_cons]
   congr 3;lia
theorem enums {α:Type} {g:α→D}:∀{l:List α} {k i:Nat} {it:It},(gw k ((l.map g).map AV.v))[i]? =some it→∃f,l[i]? =some f∧it= .two (.v (.int ((k+i:Nat):Int))) (.v (g f))
 | [],k,i,it,h=>by cases h
 | x::l,k,0,it,h=>by
   have h:some (It.two (.v (.int (k:Int))) (.v (g x)))=some it:=h
   exact⟨x,rfl,(Option.some.inj h).symm⟩
 | x::l,k,i+1,it,h=>by
   have h:(gw (k+1) ((l.map g).map AV.v))[i]? =some it:=h
   obtain⟨f,a,b⟩:=enums h
   refine⟨f,a,?_⟩
   rw[b];congr 3;lia
theorem sq {α:Type} {g:α→D}:∀{l:List α} {k:Nat},(gw k ((l.map g).map AV.v)).length=l.length
 | [],k=>rfl
 | x::l,k=>by show (gw (k+1) ((l.map g).map AV.v)).length+1=_;rw[sq];rfl
theorem mN {ids:List Str} {s:Str}:∀{l:List Im} {f:Nat},s∈az ids f l→∃f m,m∈l∧s=imS ids f m
 | [],f,h=>by cases h
 | m::l,f,h=>by
   rcases List.mem_cons.mp h with rfl | h
   · exact⟨f,m,List.mem_cons_self,rfl⟩
   · obtain⟨f2,m2,a,b⟩:=mN h;exact⟨f2,m2,List.mem_cons_of_mem _ a,b⟩
theorem xC {s:Str} {kind:Nat} {kn:Kn} {locals:List Vk} {lids:List Str} (hs:s.length≤4) (hk:kind<4) (hkn:fU kn) (hl:locals.length≤2) (hls:∀t∈lids,t.length≤4):(dq s kind kn locals lids).length≤6000:=by
 have hls:∀t∈lids,t.length≤1000:=λt h=>ai (hls t h) rfl
 have hA:(dt s kind).length≤60:=ai (ag (ag (ag (ag (Nat.le_refl 5) (Nat.le_trans (eu s) (Nat.succ_le_succ hs))) (Nat.le_refl 7)) (bQ (Nat.lt_of_lt_of_le hk (by decide)))) (Nat.le_refl 1)) rfl
 have d1:(decls "param" lids kn.p (dt s kind)).length≤60+2 * 1024:=Nat.le_trans (dA (by decide) hls) (Nat.add_le_add hA (Nat.mul_le_mul_right _ hkn.1))
 have T:(if kU (lids.take kn.p.length)=true then decls "param" lids kn.p (dt s kind)++aP "result" kn.r else dt s kind).length≤2400:=by
  split
  · exact ai (ag d1 (bI (.inr (.inl rfl)) hkn.2)) rfl
  · exact ai hA rfl
 unfold dq
 dsimp only
 split
 · exact ai (ag T (bI (.inr (.inr rfl)) hl)) rfl
 · exact ai (Nat.le_trans (dA (by decide) λx hx=>hls x (List.mem_of_mem_drop hx)) (Nat.add_le_add T (Nat.mul_le_mul_right _ hl))) rfl
theorem CB {s:Str}:(ind s).length=s.length+2:=lX.trans (Nat.add_comm 2 _)
theorem tZ {s:Str} {k:Nat} (h:s.length≤k):(ind s).length≤k+2:=Nat.le_trans (Nat.le_of_eq CB) (Nat.add_le_add_right h 2)
theorem p9 {b:Bool} {m:Mo} {nn:Option Nn} {ids:List Str} {place:Nat} {f:Fu} {s:Str} (M:MoOk m) (hf:nV f) (hids:∀s∈ids,s.length≤4) (h:s∈aN b m nn ids place f):s.length≤11000:=by
 have hls:=bU (ys:=dP nn (nfn m.imports+place)) (i:=(cB m f.kind).p.length+f.locals.length)
 unfold aN at h
 dsimp only at h
 generalize bD (dP nn (nfn m.imports+place)) ((cB m f.kind).p.length+f.locals.length)=lids at hls h
 have hx:∀s∈f.body,(spS ids lids s).length≤2000:=λs hs=>ai (pv hids hls (hf.2.2.2 s hs)) rfl
 rcases List.mem_append.mp h with h | h
 · rcases List.mem_append.mp h with h | h
   · rw[List.mem_singleton]at h
     subst h
     exact ai (xC (fD hids) hf.1 (jA M) hf.2.1 hls) rfl
   · cases b with
     | true=>
       obtain⟨t,ht,rfl⟩:=List.mem_map.mp h
       have a1:=(lV hx f.body.length (m:=m)).1
       rw[List.take_length]at a1
       have a2:bk (gu m ids lids f.body)≤5 * 2004:=by unfold gu;rw[cb];exact Nat.le_trans a1 (Nat.mul_le_mul_right _ hf.2.2.1)
       exact ai (tZ (Nat.le_trans (Nat.le_of_succ_le (e9 ht)) a2)) rfl
     | false=>
       obtain⟨t,ht,rfl⟩:=List.mem_map.mp h
       exact ai (tZ (hx t ht)) rfl
 · rw[List.mem_singleton]at h
   subst h
   exact Nat.le_of_ble_eq_true (by kernel_rfl)
theorem v8 {b:Bool} {m:Mo} {nn:Option Nn} {ids:List Str} {s:Str}:∀{l:List Fu} {k:Nat},s∈frL b m nn ids k l→∃k f,f∈l∧s∈aN b m nn ids k f
 | [],k,h=>by cases h
 | f::l,k,h=>by
   rcases List.mem_append.mp h with h | h
   · exact⟨k,f,List.mem_cons_self,h⟩
   · obtain⟨k2,f2,a,c⟩:=v8 h;exact⟨k2,f2,List.mem_cons_of_mem _ a,c⟩
theorem wm {d:Da} (h:C9 d):(daS d).length≤200:=
 Nat.le_of_ble_eq_true (ik (l:=rg 2) (m:=rg 5) (k:=rg 3) (f:=λa c o=>Nat.ble (daS ⟨a,c,o⟩).length 200) (g:=λ_ _ _=>true) (by kernel_rfl) (aO h.1) (aO h.2.1) (aO h.2.2))
end Mine
end
section
open PySem
namespace Mine
variable {cx:Cx}
noncomputable def modS:Option Nn→Str
 | some ⟨some 0,_,_⟩=>"(module $f"
 | some ⟨some 1,_,_⟩=>"(module $a!~"
 | some ⟨some 5,_,_⟩=>"(module $9"
 | _=>"(module"
theorem Cm {n:Nat} {m:D} {nn:Option Nn} {b:Bool} {ids:List Str} {led:Led} (hn:3≤n) (hm:∀x i,nn=some x→x.mod=some i→i<7):af cx n (dot "Printer" "mark") [.v (prD m (nnD nn) b ids)] led (.v (.str (modS nn))) led:=by
 obtain⟨n,rfl⟩:=le_succ hn
 cases nn with
 | none=>exact dn (d:=(dfM 117 15)) (mt:=[]) (by kernel_rfl) rfl (by kernel_rfl)
 | some x=>
   obtain⟨mod,ys,locs⟩:=x
   cases mod with
   | none=>exact dn (d:=(dfM 117 15)) (mt:=[]) (by kernel_rfl) rfl (by kernel_rfl)
   | some i=>
     have hi:=hm _ i rfl rfl
     exact dn (m:=(n+2)) (d:=(dfM 117 15)) (mt:=[]) (by kernel_rfl) rfl (bW (f:=λi=>cQ cx (n+2) [] (dfM 117 15) [(prD m (nnD (some ⟨some i,ys,locs⟩)) b ids)] (λρ _=>tell (ρ=(.str (modS (some ⟨some i,ys,locs⟩))))) [.z] True) (g:=λi=>(True∧((.str (modS (some ⟨some i,ys,locs⟩))):D)=(.str (modS (some ⟨some i,ys,locs⟩))))) (by kernel_rfl) hi)
theorem kG {n:Nat} {m:Mo} {nn:Option Nn} {b:Bool} {led:Led} (hn:4≤n) (M:MoOk m) (hy:∀i,yAt (eT nn) i<9):
 af cx n "Printer" [.v (mdD m),.v (nnD nn),.v (.bool b)] led (.v (prD (mdD m) (nnD nn) b (bD (eT nn) (nfn m.imports+m.funcs.length)))) led:=by
 have himp:nfn m.imports≤3:=Nat.le_trans my M.importsL
 have io:=λ{q} (hm:n=q+1) led=>oF (cx:=cx) (n:=q) (led:=led) (many:=nfn m.imports+m.funcs.length) (lv hn hm rfl) (ai (Nat.add_le_add himp M.funcsL) rfl) hy
 cases nn with
 | none=>
   refine uj (y:="Printer") (d:=dfM 117 0) (mt:=[]) [.p (.int (nfn m.imports+m.funcs.length:Nat)),.p (.list (sD (bD [] (nfn m.imports+m.funcs.length)))),.p (aU (bD [] (nfn m.imports+m.funcs.length)) [])] (by kernel_rfl) rfl (one_le hn) λm1 hm=>?_
   exact And.intro ⟨jg (lids:=[]) (lv hn hm rfl),io hm _,vE (lv hn hm rfl) M,trivial⟩ rfl
 | some x=>
   refine uj (y:="Printer") (d:=dfM 117 0) (mt:=[]) [.p (.int (nfn m.imports+m.funcs.length:Nat)),.p (.list (sD (bD x.ys (nfn m.imports+m.funcs.length)))),.p (aU (bD x.ys (nfn m.imports+m.funcs.length)) [])] (by kernel_rfl) rfl (one_le hn) λm1 hm=>?_
   exact And.intro ⟨jg (lids:=[]) (lv hn hm rfl),io hm _,vE (lv hn hm rfl) M,trivial⟩ rfl
noncomputable def kF (b:Bool) (m:Mo) (nn:Option Nn) (ids:List Str):List Str:=
 m.kinds.map knS++az ids 0 m.imports++frL b m nn ids 0 m.funcs++(gK m++m.globals.map glS++(m.exports.map (exS ids)++stS ids m.start))++m.elems.map (elS ids)++m.datas.map daS
theorem cN {α:Type} {f:α→Str} {l:List α} {k:Nat} (h:∀a∈l,(f a).length≤k):∀s∈l.map f,s.length≤k:=λs hs=>by
 obtain⟨a,ha,rfl⟩:=List.mem_map.mp hs;exact h a ha
theorem bS {l k:List Str} {n:Nat} (h1:∀s∈l,s.length≤n) (h2:∀s∈k,s.length≤n):∀s∈l++k,s.length≤n:=λs hs=>(List.mem_append.mp hs).elim (h1 s) (h2 s)
theorem j3 {b:Bool} {m:Mo} {nn:Option Nn} {ids:List Str} (M:MoOk m) (hids:∀s∈ids,s.length≤4):∀s∈kF b m nn ids,s.length≤11000:=by
 have h3:∀s∈ids,s.length≤1000:=λs h=>ai (hids s h) rfl
 refine bS (bS (bS (bS (bS ?_ ?_) ?_) (bS (bS (bS ?_ ?_) ?_) (bS ?_ ?_))) ?_) ?_
 · exact cN λk hk=>ai (vM (M.kinds k hk)) rfl
 · intro s h;obtain⟨f,k,hk,rfl⟩:=mN h;exact ai (pV h3 (M.imports k hk)) rfl
 · intro s h;obtain⟨k,f,hf,h⟩:=v8 h;exact p9 M (M.funcs f hf) hids h
 · exact cN λk hk=>ai (ag (ag (Nat.le_refl 7) (qR (M.tables k hk).1 (M.tables k hk).2)) (Nat.le_refl 1)) rfl
 · exact cN λk hk=>ai (ag (ag (Nat.le_refl 8) (jy (M.memories k hk).1 (M.memories k hk).2)) (Nat.le_refl 1)) rfl
 · exact cN λk hk=>ai (pY (M.globals k hk)) rfl
 · exact cN λk hk=>ai (qf (M.exports k hk) hids) rfl
 · intro s h
   cases hs:m.start with
   | none=>rw[hs]at h;cases h
   | some i=>
     rw[hs]at h
     have h:s∈[Str.ofString "(start "++aD ids i++Str.ofString ")"]:=h
     rw[List.mem_singleton]at h
     subst h
     exact ai (ag (ag (Nat.le_refl 7) (aY hids (Nat.lt_of_lt_of_le (M.start i hs) (by decide)))) (Nat.le_refl 1)) rfl
 · exact cN λk hk=>ai (ql (M.elems k hk) (ai (aY hids (by decide)) rfl)) rfl
 · exact cN λk hk=>ai (wm (M.datas k hk)) rfl
noncomputable def rowsOf (b:Bool) (m:Mo) (nn:Option Nn):List Str:=kF b m nn (bD (eT nn) (nfn m.imports+m.funcs.length))
theorem pn {B:Nat}:∀{l:List Str},(∀s∈l,s.length≤B)→bk l≤l.length * (B+1)
 | [],h=>Nat.zero_le _
 | s::l,h=>by
   have h1:=h s List.mem_cons_self
   have ih:=pn (l:=l) λx hx=>h x (List.mem_cons_of_mem _ hx)
   show s.length+1+bk l≤(l.length+1) * (B+1)
   rw[Nat.succ_mul];lia
theorem rD {nn:Option Nn}:(modS nn).length≤20:=by rcases nn with _ | ⟨_ | i,_,_⟩<;>first | exact Nat.le_of_ble_eq_true rfl | (rcases i with _ | _ | _ | _ | _ | _ | _<;>exact Nat.le_of_ble_eq_true rfl)
theorem wQ {nn:Option Nn} {rows:List Str} (h:∀s∈rows,s.length≤11000) (hc:rows.length≤40):bk (modS nn::rows.map ind++[(")":Str)])≤500000:=by
 have h1:=pn (B:=11002) (l:=rows.map ind) (λs hs=>by obtain⟨t,ht,rfl⟩:=List.mem_map.mp hs;exact tZ (h t ht))
 rw[List.length_map]at h1
 have h2:rows.length * (11002+1)≤40 * (11002+1):=Nat.mul_le_mul_right _ hc
 have h3:=rD (nn:=nn)
 show (modS nn).length+1+bk (rows.map ind++[(")":Str)])≤_
 rw[cb]
 have h4:bk [(")":Str)]=2:=by kernel_rfl
 lia
theorem hJ {nn:Option Nn} (rows:List Str):[D.str (modS nn)]++rows.map (λs=>D.str (ind s))++[D.str (Str.ofString ")")]=sD (modS nn::rows.map ind++[(")":Str)]):=by
 unfold sD
 simp only[List.map_cons,List.map_append,List.map_map,List.cons_append,List.nil_append,List.map_nil]
 rfl
noncomputable def textOf (b:Bool) (m:Mo) (nn:Option Nn):Str:=Str.join "\n" (modS nn::(rowsOf b m nn).map ind++[(")":Str)])++ "\n"
theorem yS {m:Mo} {ids lids:List Str}:∀(k:Nat) {l:List Sp},l.length=k→(d7 m ids lids l).1.length+(d7 m ids lids l).2.length≤k
 | 0,l,hl=>by cases l with | nil=>exact Nat.le_refl _ | cons a l=>cases hl
 | k+1,l,hl=>by
   obtain⟨l',s,rfl⟩:∃l' s,l=l'++[s]:=⟨l.dropLast,l.getLast (by intro h;subst h;cases hl),(List.dropLast_concat_getLast _).symm⟩
   rw[lW]
   exact Nat.le_trans qb (Nat.succ_le_succ (yS k (by rw[List.length_append]at hl;simpa using hl)))
theorem gW {b:Bool} {m:Mo} {nn:Option Nn} {ids:List Str} {place:Nat} {f:Fu} (hf:nV f):(aN b m nn ids place f).length≤7:=by
 unfold aN
 dsimp only
 rw[List.length_append,List.length_append]
 refine Nat.add_le_add_right (Nat.add_le_add_left (m:=5) ?_ 1) 1
 cases b with
 | true=>dsimp only;rw[List.length_map];unfold gu;rw[List.length_append];exact Nat.le_trans (yS _ rfl) hf.2.2.1
 | false=>dsimp only;rw[List.length_map];exact hf.2.2.1
theorem oK {b:Bool} {m:Mo} {nn:Option Nn} {ids:List Str}:∀{l:List Fu} {k:Nat},(∀f∈l,nV f)→(frL b m nn ids k l).length≤l.length * 7
 | [],k,h=>Nat.le_refl _
 | f::l,k,h=>by
   show (aN b m nn ids k f++frL b m nn ids (k+1) l).length≤(l.length+1) * 7
   rw[List.length_append,Nat.succ_mul,Nat.add_comm]
   exact Nat.add_le_add (oK λx hx=>h x (List.mem_cons_of_mem _ hx)) (gW (h f List.mem_cons_self))
noncomputable abbrev rows0 (b:Bool) (m:Mo) (nn:Option Nn) (ids:List Str) (i:Nat):List D:=sD (m.kinds.map knS++az ids 0 m.imports++frL b m nn ids 0 (m.funcs.take i))
noncomputable abbrev txG (cx:Cx) (m:Nat):Eng:=g0w cx m ["rows"] (dfM 117 14)
noncomputable abbrev txA (s:D):Loc:=[("self",.v s),("rows",.r 0)]
theorem uZ {n:Nat} {m:Mo} {nn:Option Nn} {b:Bool} {led:Led} (hn:12≤n) (M:MoOk m) (hm':∀x i,nn=some x→x.mod=some i→i<7) (hy:∀j i,yAt (dP nn j) i<9):
 af cx n (dot "Printer" "text") [.v (prD (mdD m) (nnD nn) b (bD (eT nn) (nfn m.imports+m.funcs.length)))] led (.v (.str (textOf b m nn))) led:=by
 obtain⟨q,rfl⟩:=le_succ (one_le hn)
 have hq:11≤q:=Nat.le_of_succ_le_succ hn
 have himp:nfn m.imports≤3:=Nat.le_trans my M.importsL
 have hll:=cC (ys:=eT nn) (i:=nfn m.imports+m.funcs.length)
 have hls:=bU (ys:=eT nn) (i:=nfn m.imports+m.funcs.length)
 unfold textOf rowsOf
 generalize bD (eT nn) (nfn m.imports+m.funcs.length)=ids at hll hls ⊢
 have hl3:ids.length≤1000:=hll▸ai (Nat.add_le_add himp M.funcsL) rfl
 have hs3:∀s∈ids,s.length≤1000:=λs h=>ai (hls s h) rfl
 have t1:(aD ids 1).length≤1000:=ai (aY hls (by decide)) rfl
 have kl:(m.kinds.map knS).length≤3:=by rw[List.length_map];exact M.kindsL
 have il:(az ids 0 m.imports).length≤3:=eI▸M.importsL
 have fl:∀i,(frL b m nn ids 0 (m.funcs.take i)).length≤14:=λi=>Nat.le_trans (oK λf hf=>M.funcs f (List.mem_of_mem_take hf)) (Nat.mul_le_mul_right 7 (Nat.le_trans (by rw[List.length_take];exact Nat.min_le_right _ _) M.funcsL))
 have T:=aV (sc:=(dfM 117 14).sc) (is:=gw 0 ((m.funcs.map fuD).map AV.v)) (c:=(txG cx q).c) (n:=(txG cx q).n) (t:=(bF (stB (dfM 117 14).body 1))) (body:=(bu (stB (dfM 117 14).body 1))) (λ_=>txA (prD (mdD m) (nnD nn) b ids)) (λi=>[.list (rows0 b m nn ids i)]) λi it hi=>by
  obtain⟨f,hfi,rfl⟩:=enums hi
  rw[Nat.zero_add]
  have hmem:=List.mem_of_getElem? hfi
  have hlt:=(List.getElem?_eq_some_iff.mp hfi).1
  have hfr:=λled=>p8 (cx:=cx) (n:=q) (place:=i) (b:=b) (led:=led) (le_trans' hq rfl) M (M.funcs f hmem) (Nat.lt_of_lt_of_le hlt M.funcsL) hll hlt hls hy
  have h7:=gW (b:=b) (m:=m) (nn:=nn) (ids:=ids) (place:=i) (M.funcs f hmem)
  have hsn:rows0 b m nn ids i++sD (aN b m nn ids i f)=rows0 b m nn ids (i+1):=by
   unfold rows0
   rw[cR hfi,v9,List.length_take,Nat.min_eq_left (Nat.le_of_lt hlt),Nat.zero_add]
   unfold sD;rw[←List.map_append,List.append_assoc]
  have F:fits ((rows0 b m nn ids i).length+(sD (aN b m nn ids i f)).length)=true:=ae (Nat.add_le_add (by rw[aF,List.length_append,List.length_append];exact Nat.add_le_add (Nat.add_le_add kl il) (fl i)) (by rw[aF];exact h7)) rfl
  rw[←hsn]
  generalize rows0 b m nn ids i=r0 at *
  generalize aN b m nn ids i f=fr at *
  refine aH (g:=txG cx q) [.p (.list (sD fr))] ?_
  exact And.intro ⟨F,hfr _,trivial⟩ ⟨rfl,.inl rfl,SubL.drop rfl⟩
 rw[sq]at T
 have h0:sD (m.kinds.map knS)++sD (az ids 0 m.imports)=rows0 b m nn ids 0:=by
  show _=sD (_++[]);rw[List.append_nil];unfold sD;rw[List.map_append]
 rw[←h0]at T
 have hX:rows0 b m nn ids m.funcs.length++(sD (gK m)++sD (m.globals.map glS)++sD (m.exports.map (exS ids)++stS ids m.start))++m.elems.map (λe=>D.str (elS ids e))++m.datas.map (λe=>D.str (daS e))=sD (kF b m nn ids):=by
  unfold rows0;rw[List.take_length];unfold kF sD;simp only[List.map_append,List.map_map];rfl
 have hRl:=j3 (b:=b) (nn:=nn) M hls
 have hRc:(kF b m nn ids).length≤40:=by
  have h8:=fl m.funcs.length
  rw[List.take_length]at h8
  have g7:(gK m).length≤2:=by unfold gK;rw[List.length_append,List.length_map,List.length_map];exact Nat.add_le_add M.tablesL M.memoriesL
  have g8:(stS ids m.start).length≤1:=by cases m.start<;>simp[stS]
  unfold kF
  simp only[List.length_append]
  exact ai (Nat.add_le_add (Nat.add_le_add (Nat.add_le_add (Nat.add_le_add (Nat.add_le_add kl il) h8) (Nat.add_le_add (Nat.add_le_add g7 (by rw[List.length_map];exact M.globalsL)) (Nat.add_le_add (by rw[List.length_map];exact M.exportsL) g8))) (by rw[List.length_map];exact M.elemsL)) (by rw[List.length_map];exact M.datasL)) rfl
 have F:=fitsL (hX▸cn (ai hRc rfl):fits (_++m.datas.map (λe=>D.str (daS e))).length=true)
 have hcl:=(congrArg (List.map AV.v) hX).trans tn
 have hT:=wQ (nn:=nn) hRl hRc
 have hj:=Nat.le_trans (fC (sep:="\n") (by decide)) hT
 generalize kF b m nn ids=rows at *
 have jm:∀led,iA led .join (.v (.str "\n")) [.v (.list ([.str (modS nn)]++rows.map (λs=>D.str (ind s))++[.str ")"]))]=some (.v (.str (Str.join "\n" (modS nn::rows.map ind++[(")":Str)]))),led):=λled=>by
  rw[hJ rows];exact jC hT (by decide)
 refine eD (d:=dfM 117 14) (mt:=["rows"]) [.p (.list (sD (m.kinds.map knS))),.p (.list (sD (az ids 0 m.imports))),.w .next (txA (prD (mdD m) (nnD nn) b ids)) [.list (rows0 b m nn ids m.funcs.length)],.p (.list (sD (gK m))),.p (.list (sD (m.globals.map glS))),.p (.list (sD (m.exports.map (exS ids)++stS ids m.start))),.q (m.elems.map λe=> .str (elS ids e)),.q (m.datas.map λe=> .str (daS e)),.p (.str (modS nn)),.q (rows.map λs=> .str (ind s)),.p (.str (Str.join "\n" (modS nn::rows.map ind++[(")":Str)])))] (by kernel_rfl) rfl ?_
 conv=>whnf
 have rl:(rows.map λs=>D.str (ind s)).length≤40:=by rw[List.length_map];exact hRc
 have f4:fits ([D.str (modS nn)].length+(rows.map λs=>D.str (ind s)).length)=true:=ae (Nat.add_le_add_left rl 1) rfl
 have f3:fits (([D.str (modS nn)]++rows.map λs=>D.str (ind s)).length+[D.str ")"].length)=true:=ae (Nat.add_le_add_right (by rw[List.length_append];exact Nat.add_le_add_left rl 1) 1) rfl
 have f21:fits ((sD (m.kinds.map knS)).length+(sD (az ids 0 m.imports)).length)=true:=by rw[aF,aF];exact ae (Nat.add_le_add kl il) rfl
 have f15:=midL (w9 (w9 F))
 exact⟨⟨ae (Nat.add_le_add hj (Nat.le_refl 1)) rfl,jm _,f3,f4,aq hRc rfl,cw (A:=λs=> .v (.str s)) (f:=λs=> .str (ind s)) rfl hcl (λs hs=>⟨[],by exact(show (_∧True)∧_∧_ from ⟨⟨ae (Nat.add_le_add_left (hRl s hs) 2) rfl,trivial⟩,rfl,rfl⟩)⟩),Cm (le_trans' hq rfl) hm',
  F,aq M.datasL rfl,cw (A:=λx=> .v (daD x)) (f:=λx=> .str (daS x)) rfl (List.map_map ..) (λx hx=>⟨[.p (.str (daS x))],by exact(show (_∧True)∧_∧_ from ⟨⟨qm (le_trans' hq rfl) (M.datas x hx),trivial⟩,rfl,rfl⟩)⟩),
  w9 F,aq M.elemsL rfl,cw (A:=λx=> .v (elD x)) (f:=λx=> .str (elS ids x)) rfl (List.map_map ..) (λx hx=>⟨[.p (.str (elS ids x))],by exact(show (_∧True)∧_∧_ from ⟨⟨qk (le_trans' hq rfl) (M.elems x hx) hl3 t1,trivial⟩,rfl,rfl⟩)⟩),
  w9 (w9 F),f15,m7 (le_trans' hq rfl) M hl3 hls,w9 f15,mX (le_trans' hq rfl) M,nO (le_trans' hq rfl) M,T,f21,mM (le_trans' hq rfl) M (hll▸Nat.le_add_right _ _) hs3,pR (le_trans' hq rfl) M,trivial⟩,rfl⟩
theorem frz_args {m nn:D} {led:Led}:bH [.v m,.v nn] led=some ([m,nn],led):=rfl
theorem y8 {n:Nat} {m:Mo} {nn:Option Nn} {args:List AV} {led led1:Led} (hn:13≤n) (ha:bH args led=some ([mdD m,nnD nn],led1)) (M:MoOk m) (hm':∀x i,nn=some x→x.mod=some i→i<7) (hy:∀j i,yAt (dP nn j) i<9) (hz:∀i,yAt (eT nn) i<9):
 af cx n "print_module" args led (.v (.str (textOf false m nn))) led1:=by
 refine ax (d:=dfD 119) (mt:=[]) [.p (prD (mdD m) (nnD nn) false (bD (eT nn) (nfn m.imports+m.funcs.length))),.p (.str (textOf false m nn))] (by kernel_rfl) ha (one_le hn) λm1 hm=>?_
 exact And.intro ⟨uZ (lv hn hm rfl) M hm' hy,kG (lv hn hm rfl) M hz,trivial⟩ rfl
theorem sf {n:Nat} {m:Mo} {nn:Option Nn} {args:List AV} {led led1:Led} (hn:13≤n) (ha:bH args led=some ([mdD m,nnD nn],led1)) (M:MoOk m) (hm':∀x i,nn=some x→x.mod=some i→i<7) (hy:∀j i,yAt (dP nn j) i<9) (hz:∀i,yAt (eT nn) i<9):
 af cx n "fold_module" args led (.v (.str (textOf true m nn))) led1:=by
 refine ax (d:=dfD 120) (mt:=[]) [.p (prD (mdD m) (nnD nn) true (bD (eT nn) (nfn m.imports+m.funcs.length))),.p (.str (textOf true m nn))] (by kernel_rfl) ha (one_le hn) λm1 hm=>?_
 exact And.intro ⟨uZ (lv hn hm rfl) M hm' hy,kG (lv hn hm rfl) M hz,trivial⟩ rfl
end Mine
end
section
open PySem
namespace Mine
variable {cx:Cx}
noncomputable def kS (ks:List Vk):List Str:=ks.map Vk.s
theorem eQ {n:Nat} {w:Str} {ks:List Vk} {led:Led} (hn:1≤n) (hw:w= "param"∨w= "result"∨w= "local") (hk:ks.length≤2):af cx n "_law_list" [.v (.str w),.v (.list (sD (kS ks)))] led (.v (.str (aP w ks))) led:=by
 obtain⟨m,rfl⟩:=le_succ hn
 exact dn (m:=m) (d:=(dfD 127)) (mt:=[]) (by kernel_rfl) rfl (b9 (l:=[("param":Str),"result","local"]) (m:=kss) (f:=λw ks=>cQ cx m [] (dfD 127) [(.str w),(.list (sD (kS ks)))] (λρ _=>tell (ρ=(.str (aP w ks)))) [.z] True) (g:=λw ks=>(True∧((.str (aP w ks)):D)=(.str (aP w ks)))) (by kernel_rfl) (by rcases hw with rfl | rfl | rfl<;>simp) (pL hk))
noncomputable def pk (x:Int):Vk:=vk4 (md x 4)
noncomputable def kz (x:Int) (many:Nat):List Vk:=(List.range many).map λk=>pk (x.fdiv (4 ^ k))
noncomputable abbrev vkT (x:Int):D:= .tup [(pk x).D,.str (pk x).s]
theorem ef {n:Nat} {x:Int} {many:Nat} {led:Led} (hn:2≤n) (hmy:many<3):af cx n "_law_kinds" [.v (.int x),.v (.int many)] led (.v (.tup [.tup (kD (kz x many)),.list (sD (kS (kz x many)))])) led:=by
 rcases lt3 hmy with rfl | rfl | rfl
 · refine ax (d:=dfD 126) (mt:=[]) [] (by kernel_rfl) rfl (one_le hn) λm1 hm=>?_
   exact And.intro ⟨rfl,trivial⟩ rfl
 · refine ax (d:=dfD 126) (mt:=[]) [.p (vkT (x.fdiv 1))] (by kernel_rfl) rfl (one_le hn) λm1 hm=>?_
   exact And.intro ⟨bP (lv hn hm rfl),rfl,trivial⟩ rfl
 · refine ax (d:=dfD 126) (mt:=[]) [.p (vkT (x.fdiv 1)),.p (vkT (x.fdiv 4))] (by kernel_rfl) rfl (one_le hn) λm1 hm=>?_
   exact And.intro ⟨bP (lv hn hm rfl),bP (lv hn hm rfl),rfl,trivial⟩ rfl
end Mine
end
section
open PySem
namespace Mine
variable {cx:Cx}
noncomputable def yF (x:Int) (k:Nat):Nat:=md (x.fdiv (9 ^ k)) 9
noncomputable def aR (x:Int) (many:Nat):List Nat:=(List.range many).map (yF x)
theorem gG {x:Int} {n:Nat}:(aR x n).length=n:=by unfold aR;rw[List.length_map,List.length_range]
theorem n5 {x:Int} {n:Nat}:aR x (n+1)=aR x n++[yF x n]:=by unfold aR;rw[List.range_succ,List.map_append];rfl
theorem qD {x:Int} {n i:Nat} (h:i<n):yAt (aR x n) i=yF x i:=by
 unfold yAt aR
 rw[List.getD_eq_getElem?_getD,List.getElem?_map,List.getElem?_range h];rfl
theorem sZ {x:Int} {n i:Nat}:yAt (aR x n) i<9:=by
 by_cases h:i<n
 · rw[qD h];exact aj (by decide)
 · unfold yAt
   rw[List.getD_eq_getElem?_getD,List.getElem?_eq_none (by rw[gG];lia)]
   decide
theorem oG {x:Int} {n:Nat}:∀{i:Nat},i≤n→bD (aR x n) i=iV (aR x i) []:=by
 intro i hi
 unfold bD
 congr 1
 unfold aR
 apply List.map_congr_left
 intro k hk
 exact qD (Nat.lt_of_lt_of_le (List.mem_range.mp hk) hi)
theorem ov {y:Nat}:∀{l:List Nat} {k:Nat},iP k (l++[y])=iP k l++(if y<7 then [(((k+l.length:Nat):Int),D.str (bN y).1)]else [])
 | [],k=>dE (p:=y<7) (λq=>(if_pos q).trans (if_pos q).symm) λq=>(if_neg q).trans (if_neg q).symm
 | z::l,k=>by
   have ih:=ov (y:=y) (l:=l) (k:=k+1)
   rw[show k+1+l.length=k+(z::l).length from Nat.add_right_comm ..]at ih
   exact dE (p:=z<7) (λq=>(if_pos q).trans ((congrArg (_:: ·) ih).trans (congrArg (λm=>m++(if y<7 then [(((k+(z::l).length:Nat):Int),D.str (bN y).1)]else [])) (show iP k (z::l)=_ from if_pos q).symm))) λq=>(if_neg q).trans (ih.trans (congrArg (λm=>m++(if y<7 then [(((k+(z::l).length:Nat):Int),D.str (bN y).1)]else [])) (show iP k (z::l)=_ from if_neg q).symm))
theorem ox {d:D}:∀{l:List Nat} {k i:Nat},k+l.length≤i→dz (iP k l) (i:Int) d=iP k l++[((i:Int),d)]
 | [],k,i,h=>rfl
 | z::l,k,i,h=>by
   have lt:k+1+l.length≤i:=Nat.le_trans (Nat.le_of_eq (Nat.add_right_comm ..)) h
   have ih:=ox (d:=d) lt
   exact dE (p:=z<7) (λq=>(congrArg (dz · (i:Int) d) (if_pos q)).trans (((if_neg λe=>Nat.ne_of_lt (Nat.lt_of_lt_of_le (Nat.lt_succ_self k) (Nat.le_trans (Nat.le_add_right ..) lt)) (Int.ofNat.inj e)).trans (congrArg (_:: ·) ih)).trans (congrArg (λm=>m++[((i:Int),d)]) (show iP k (z::l)=_ from if_pos q).symm)))
    λq=>(congrArg (dz · (i:Int) d) (if_neg q)).trans (ih.trans (congrArg (λm=>m++[((i:Int),d)]) (show iP k (z::l)=_ from if_neg q).symm))
theorem oN {d:D}:∀{l:List Nat} {k i:Nat},k+l.length≤i→dU (iP k l++[((i:Int),d)]) (i:Int)=some d
 | [],k,i,h=>if_pos rfl
 | z::l,k,i,h=>by
   have lt:k+1+l.length≤i:=Nat.le_trans (Nat.le_of_eq (Nat.add_right_comm ..)) h
   have ih:=oN (d:=d) lt
   exact dE (p:=z<7) (λq=>(congrArg (λm=>dU (m++[((i:Int),d)]) (i:Int)) (if_pos q)).trans ((if_neg λe=>Nat.ne_of_lt (Nat.lt_of_lt_of_le (Nat.lt_succ_self k) (Nat.le_trans (Nat.le_add_right ..) lt)) (Int.ofNat.inj e)).trans ih))
    λq=>(congrArg (λm=>dU (m++[((i:Int),d)]) (i:Int)) (if_neg q)).trans ih
theorem kQ {i:Nat} (h:i<5):binop .Pow (.int 9) (.int (i:Int))=some (.int (9 ^ i)):=bW (f:=λi=>binop .Pow (.int 9) (.int (i:Int))) (g:=λi=>some (.int (9 ^ i))) (by kernel_rfl) h
theorem kT {i:Nat} {x:Int} (h:i<5):binop .FloorDiv (.int x) (.int (9 ^ i))=some (.int (x.fdiv (9 ^ i))):=bW (f:=λi=>binop .FloorDiv (.int x) (.int (9 ^ i))) (g:=λi=>some (.int (x.fdiv (9 ^ i)))) (by kernel_rfl) h
theorem zf {x:Int} {i:Nat}:(bp (aR x i)).length≤i:=by
 have:∀(l:List Nat) (k:Nat),(iP k l).length≤l.length:=by
  intro l
  induction l with
  | nil=>intro k;exact Nat.le_refl _
  | cons y l ih=>
    intro k
    exact dE (p:=y<7) (λq=>Nat.le_trans (Nat.le_of_eq (congrArg List.length (if_pos q))) (Nat.succ_le_succ (ih _))) λq=>Nat.le_trans (Nat.le_of_eq (congrArg List.length (if_neg q))) (Nat.le_succ_of_le (ih _))
 have h:=this (aR x i) 0
 rw[gG]at h
 exact h
theorem hln {n:Nat} {led:Led} (y:Nat) (hy:y<7) (hn:1≤n):af cx n "_law_name" [.v (.int (y:Int))] led (.v (.tup [.str (bN y).1,.bool (bN y).2])) led:=by
 obtain⟨m,rfl⟩:=le_succ hn
 exact dn (m:=m) (d:=(dfD 130)) (mt:=[]) (by kernel_rfl) rfl (bW (f:=λy:Nat=>cQ cx m [] (dfD 130) [(.int (y:Int))] (λρ _=>tell (ρ=(.tup [.str (bN y).1,.bool (bN y).2]))) [.z] True) (g:=λy:Nat=>(True∧((.tup [.str (bN y).1,.bool (bN y).2]):D)=(.tup [.str (bN y).1,.bool (bN y).2]))) (by kernel_rfl) hy)
theorem bT {a b:List (Int×D)} {l:List D} {s t:Str} (h:a=b) (k:s=t):[LO.dict a,.list (l++[.str s])]=[LO.dict b,.list (l++[.str t])]:=by rw[h,k]
noncomputable abbrev liG (cx:Cx) (m:Nat):Eng:=g0w cx m ["names","ids"] (dfD 131)
noncomputable abbrev liA (x:Int) (many:Nat):Loc:=[("x",.v (.int x)),("many",.v (.int (many:Int))),("names",.r 0),("ids",.r 1)]
theorem xl {m i many:Nat} {x:Int} (hm1:1≤m) (hi:i<5):∃f l1 led1,(led1=[.dict (bp (aR x (i+1))),.list (sD (iV (aR x (i+1)) []))]∧(f= .next∨f= .cont)∧SubL (liA x many) l1)∧
 bA (liG cx m).c (liG cx m).n (liG cx m).sc (bF (stB (dfD 131).body 2)) (bu (stB (dfD 131).body 2)) (.one (.v (.int (i:Int)))) (liA x many) [.dict (bp (aR x i)),.list (sD (iV (aR x i) []))] f l1 led1:=by
 have hy:=aj (x:=x.fdiv (9 ^ i)) (m:=9) (by decide)
 have hye:binop .Mod (.int (x.fdiv (9 ^ i))) (.int 9)=some (.int ((md (x.fdiv (9 ^ i)) 9:Nat):Int)):=congrArg (λz=>some (D.int z)) (vD (x:=x.fdiv (9 ^ i)) (m:=9) (by decide))
 have hs:iV (aR x (i+1)) []=iV (aR x i) []++[nextId (iV (aR x i) []) (yF x i)]:=by rw[n5,mQ];rfl
 have hd:bp (aR x (i+1))=bp (aR x i)++(if yF x i<7 then [((i:Int),D.str (bN (yF x i)).1)]else []):=by
  unfold bp;rw[n5,ov,gG,Nat.zero_add]
 have hset:∀d,dz (bp (aR x i)) (i:Int) d=bp (aR x i)++[((i:Int),d)]:=λd=>ox (by rw[gG];lia)
 have hget:∀d,dU (bp (aR x i)++[((i:Int),d)]) (i:Int)=some d:=λd=>oN (by rw[gG];lia)
 have hgi:∀d,item (.dict (dz (bp (aR x i)) (i:Int) d)) (.int (i:Int))=some d:=λd=>by rw[hset];exact hget d
 have hl:(iV (aR x i) []).length=i:=by
  have:=cC (ys:=aR x i) (i:=i)
  rw[oG (Nat.le_refl _)]at this;exact this
 have fd:fits (bp (aR x i)).length=true:=ae zf (Nat.ble_eq_true_of_le (Nat.le_trans (Nat.le_of_lt hi) (by decide)))
 have F:=cn (l:=iV (aR x i) []) (by rw[hl];exact ai (Nat.le_of_lt hi) rfl)
 rw[hs,hd,←d8]
 unfold yF
 generalize iV (aR x i) []=acc at *
 generalize bp (aR x i)=dd at *
 generalize md (x.fdiv (9 ^ i)) 9=y at *
 have c:=λs {a:LO}=>oP (x:=s) (acc:=acc) (led:=[a,.list (sD acc)]) (n:=1)
 rcases lt9 hy with rfl | rfl | rfl | rfl | rfl | rfl | rfl | rfl | rfl
 · cases e:inS "$f" acc with
   | true=>
     refine aH (g:=liG cx m) [.b (.int (9 ^ i)),.b (.int (x.fdiv (9 ^ i))),.b (.int ((0:Nat):Int)),.p (.tup [.str "f",.bool true]),.p (.tup [.str "f",.bool true]),.i (.str "f"),.c false] ?_
     exact And.intro ⟨F,(c _).trans (congrArg (some !·) e),rfl,hgi _,hln 0 (by decide) hm1,fd,hln 0 (by decide) hm1,hye,kT hi,kQ hi,trivial⟩ ⟨bT (hset _) (fm (y:=0) rfl (congrArg (!·) e)).symm,.inl rfl,SubL.drop rfl⟩
   | false=>
     refine aH (g:=liG cx m) [.b (.int (9 ^ i)),.b (.int (x.fdiv (9 ^ i))),.b (.int ((0:Nat):Int)),.p (.tup [.str "f",.bool true]),.p (.tup [.str "f",.bool true]),.i (.str "f"),.c true,.i (.str "f")] ?_
     exact And.intro ⟨F,rfl,hgi _,(c _).trans (congrArg (some !·) e),rfl,hgi _,hln 0 (by decide) hm1,fd,hln 0 (by decide) hm1,hye,kT hi,kQ hi,trivial⟩ ⟨bT (hset _) (fj (y:=0) rfl (congrArg (!·) e)).symm,.inl rfl,SubL.drop rfl⟩
 · cases e:inS "$a!~" acc with
   | true=>
     refine aH (g:=liG cx m) [.b (.int (9 ^ i)),.b (.int (x.fdiv (9 ^ i))),.b (.int ((1:Nat):Int)),.p (.tup [.str "a!~",.bool true]),.p (.tup [.str "a!~",.bool true]),.i (.str "a!~"),.c false] ?_
     exact And.intro ⟨F,(c _).trans (congrArg (some !·) e),rfl,hgi _,hln 1 (by decide) hm1,fd,hln 1 (by decide) hm1,hye,kT hi,kQ hi,trivial⟩ ⟨bT (hset _) (fm (y:=1) rfl (congrArg (!·) e)).symm,.inl rfl,SubL.drop rfl⟩
   | false=>
     refine aH (g:=liG cx m) [.b (.int (9 ^ i)),.b (.int (x.fdiv (9 ^ i))),.b (.int ((1:Nat):Int)),.p (.tup [.str "a!~",.bool true]),.p (.tup [.str "a!~",.bool true]),.i (.str "a!~"),.c true,.i (.str "a!~")] ?_
     exact And.intro ⟨F,rfl,hgi _,(c _).trans (congrArg (some !·) e),rfl,hgi _,hln 1 (by decide) hm1,fd,hln 1 (by decide) hm1,hye,kT hi,kQ hi,trivial⟩ ⟨bT (hset _) (fj (y:=1) rfl (congrArg (!·) e)).symm,.inl rfl,SubL.drop rfl⟩
 · refine aH (g:=liG cx m) [.b (.int (9 ^ i)),.b (.int (x.fdiv (9 ^ i))),.b (.int ((2:Nat):Int)),.p (.tup [.str "",.bool false]),.p (.tup [.str "",.bool false])] ?_
   exact And.intro ⟨F,hln 2 (by decide) hm1,fd,hln 2 (by decide) hm1,hye,kT hi,kQ hi,trivial⟩ ⟨bT (hset _) rfl,.inl rfl,SubL.drop rfl⟩
 · refine aH (g:=liG cx m) [.b (.int (9 ^ i)),.b (.int (x.fdiv (9 ^ i))),.b (.int ((3:Nat):Int)),.p (.tup [.str "x y",.bool false]),.p (.tup [.str "x y",.bool false])] ?_
   exact And.intro ⟨F,hln 3 (by decide) hm1,fd,hln 3 (by decide) hm1,hye,kT hi,kQ hi,trivial⟩ ⟨bT (hset _) rfl,.inl rfl,SubL.drop rfl⟩
 · refine aH (g:=liG cx m) [.b (.int (9 ^ i)),.b (.int (x.fdiv (9 ^ i))),.b (.int ((4:Nat):Int)),.p (.tup [.str "é",.bool false]),.p (.tup [.str "é",.bool false])] ?_
   exact And.intro ⟨F,hln 4 (by decide) hm1,fd,hln 4 (by decide) hm1,hye,kT hi,kQ hi,trivial⟩ ⟨bT (hset _) rfl,.inl rfl,SubL.drop rfl⟩
 · cases e:inS "$9" acc with
   | true=>
     refine aH (g:=liG cx m) [.b (.int (9 ^ i)),.b (.int (x.fdiv (9 ^ i))),.b (.int ((5:Nat):Int)),.p (.tup [.str "9",.bool true]),.p (.tup [.str "9",.bool true]),.i (.str "9"),.c false] ?_
     exact And.intro ⟨F,(c _).trans (congrArg (some !·) e),rfl,hgi _,hln 5 (by decide) hm1,fd,hln 5 (by decide) hm1,hye,kT hi,kQ hi,trivial⟩ ⟨bT (hset _) (fm (y:=5) rfl (congrArg (!·) e)).symm,.inl rfl,SubL.drop rfl⟩
   | false=>
     refine aH (g:=liG cx m) [.b (.int (9 ^ i)),.b (.int (x.fdiv (9 ^ i))),.b (.int ((5:Nat):Int)),.p (.tup [.str "9",.bool true]),.p (.tup [.str "9",.bool true]),.i (.str "9"),.c true,.i (.str "9")] ?_
     exact And.intro ⟨F,rfl,hgi _,(c _).trans (congrArg (some !·) e),rfl,hgi _,hln 5 (by decide) hm1,fd,hln 5 (by decide) hm1,hye,kT hi,kQ hi,trivial⟩ ⟨bT (hset _) (fj (y:=5) rfl (congrArg (!·) e)).symm,.inl rfl,SubL.drop rfl⟩
 · refine aH (g:=liG cx m) [.b (.int (9 ^ i)),.b (.int (x.fdiv (9 ^ i))),.b (.int ((6:Nat):Int)),.p (.tup [.str "(",.bool false]),.p (.tup [.str "(",.bool false])] ?_
   exact And.intro ⟨F,hln 6 (by decide) hm1,fd,hln 6 (by decide) hm1,hye,kT hi,kQ hi,trivial⟩ ⟨bT (hset _) rfl,.inl rfl,SubL.drop rfl⟩
 · refine aH (g:=liG cx m) [.b (.int (9 ^ i)),.b (.int (x.fdiv (9 ^ i))),.b (.int ((7:Nat):Int))] ?_
   exact And.intro ⟨F,hye,kT hi,kQ hi,trivial⟩ ⟨bT (List.append_nil _).symm rfl,.inl rfl,SubL.drop rfl⟩
 · refine aH (g:=liG cx m) [.b (.int (9 ^ i)),.b (.int (x.fdiv (9 ^ i))),.b (.int ((8:Nat):Int))] ?_
   exact And.intro ⟨F,hye,kT hi,kQ hi,trivial⟩ ⟨bT (List.append_nil _).symm rfl,.inl rfl,SubL.drop rfl⟩
theorem mF {n:Nat} {x:Int} {many:Nat} {led:Led} (hn:2≤n) (hmy:many≤5):af cx n "_law_ids" [.v (.int x),.v (.int many)] led (.v (.tup [.dict (bp (aR x many)),.list (sD (bD (aR x many) many))])) led:=by
 obtain⟨q,rfl⟩:=le_succ (one_le hn)
 have T:=aV (sc:=(dfD 131).sc) (is:=(cY 0 many).map It.one) (c:=(liG cx q).c) (n:=(liG cx q).n) (t:=(bF (stB (dfD 131).body 2))) (body:=(bu (stB (dfD 131).body 2))) (λ_=>liA x many) (λi=>[.dict (bp (aR x i)),.list (sD (iV (aR x i) []))]) λi it h=>by
  obtain⟨h3,rfl⟩:=je h
  rw[Nat.zero_add]
  exact xl (Nat.le_of_succ_le_succ hn) (Nat.lt_of_lt_of_le h3 hmy)
 rw[eO,←oG (Nat.le_refl many)]at T
 refine eD (d:=dfD 131) (mt:=["names","ids"]) [.w .next (liA x many) [.dict (bp (aR x many)),.list (sD (bD (aR x many) many))]] (by kernel_rfl) rfl ?_
 exact And.intro ⟨T,ae hmy rfl,trivial⟩ rfl
end Mine
end
section
open PySem
namespace Mine
variable {cx:Cx}
noncomputable def cd2:Nat→Vk
 | 0=> .c | _=> .d
noncomputable def kW (x:Int):Ab:=match md x 3 with
 | 0=> .tb (cd2 (md (x.fdiv 3) 2)) (md ((x.fdiv 3).fdiv 2) 3) (md (((x.fdiv 3).fdiv 2).fdiv 3) 3)
 | 1=> .me (md (x.fdiv 3) 3) (md ((x.fdiv 3).fdiv 3) 3)
 | _=> .gl (pk (x.fdiv 3)) (md ((x.fdiv 3).fdiv 4) 2)
theorem wF {x:Int}:Dq (kW x):=by
 unfold kW
 rcases md x 3 with _ | _ | _
 · exact⟨aj (by decide),aj (by decide)⟩
 · exact⟨aj (by decide),aj (by decide)⟩
 · exact aj (by decide)
theorem s4 {a b c d e:Str}:a++b++c++d++e=a++(b++c++d)++e:=by simp only[dM]
theorem cz {x:Int} {m:Nat} (h:0<m):binop .Mod (.int x) (.int (m:Int))=some (.int ((md x m:Nat):Int)):=by
 show (if (m:Int)=0 then none else some (D.int (x.fmod m)))=_
 rw[if_neg (show¬(m:Int)=0 from λz=>Nat.ne_of_gt h (Int.ofNat.inj z)),vD h]
theorem d3 {x:Int} {m k:Nat} (h:0<m) (e:md x m=k):binop .Mod (.int x) (.int (m:Int))=some (.int (k:Int)):=e▸cz h
noncomputable abbrev Cq (x:Int):D:= .tup [.tup (rF (md x 3) (md (x.fdiv 3) 3)),.str (eN (md x 3) (md (x.fdiv 3) 3))]
theorem Cr {x:Int}:(eN (md x 3) (md (x.fdiv 3) 3)).length≤20:=jy (aj (by decide)) (aj (by decide))
theorem nR {n:Nat} {x:Int} {led:Led} (hn:2≤n):af cx n "_law_import" [.v (.int x)] led (.v (.tup [.int (nB (kW x)),abD (kW x),.str (abS "" (kW x))])) led:=by
 have hL:=lE (s:="") (Nat.zero_le _) (wF (x:=x))
 unfold kW at hL ⊢
 rcases lt3 (aj (x:=x) (m:=3) (by decide))with q | q | q<;>rw[q]at hL ⊢
 · have it:=eH (x:=x.fdiv 3) (m:=2) (f:=λi=> .tup [(cd2 i).D,.str (cd2 i).s]) (l:=[.tup [.int (-16),.str "funcref"],.tup [.int (-17),.str "externref"]]) (by kernel_rfl) (by decide) (by decide)
   refine ax (d:=dfD 134) (mt:=[]) [.b (.int ((0:Nat):Int)),.i (.tup [(cd2 (md (x.fdiv 3) 2)).D,.str (cd2 (md (x.fdiv 3) 2)).s]),.p (Cq ((x.fdiv 3).fdiv 2))] (by kernel_rfl) rfl (one_le hn) λm1 hm=>?_
   conv=>whnf
   have F:=aL (a:="(table "++eN (md ((x.fdiv 3).fdiv 2) 3) (md (((x.fdiv 3).fdiv 2).fdiv 3) 3)++ " "++(cd2 (md (x.fdiv 3) 2)).s) (b:=")") (ae (ag (ag (ag (ag (Nat.le_refl 7) Cr) (Nat.le_refl 1)) (iI _)) (Nat.le_refl 1)) rfl)
   exact⟨⟨F,aa F,aa (aa F),aa (aa (aa F)),dF (lv hn hm rfl),it,d3 (m:=3) (by decide) q,trivial⟩,congrArg (λz=>D.tup [.int 1,abD (.tb (cd2 (md (x.fdiv 3) 2)) (md ((x.fdiv 3).fdiv 2) 3) (md (((x.fdiv 3).fdiv 2).fdiv 3) 3)),.str z]) s4⟩
 · refine ax (d:=dfD 134) (mt:=[]) [.b (.int ((1:Nat):Int)),.p (Cq (x.fdiv 3))] (by kernel_rfl) rfl (one_le hn) λm1 hm=>?_
   conv=>whnf
   have F:=aL (a:="(memory "++eN (md (x.fdiv 3) 3) (md ((x.fdiv 3).fdiv 3) 3)) (b:=")") (ae (ag (ag (Nat.le_refl 8) Cr) (Nat.le_refl 1)) rfl)
   exact⟨⟨F,aa F,dF (lv hn hm rfl),d3 (m:=3) (by decide) q,trivial⟩,rfl⟩
 · have h2:=aj (x:=(x.fdiv 3).fdiv 4) (m:=2) (by decide)
   have mb:=cz (x:=(x.fdiv 3).fdiv 4) (m:=2) (by decide)
   generalize md ((x.fdiv 3).fdiv 4) 2=y at *
   rcases lt2 h2 with rfl | rfl
   · refine ax (d:=dfD 134) (mt:=[]) [.b (.int ((2:Nat):Int)),.p (vkT (x.fdiv 3)),.b (.int ((x.fdiv 3).fdiv 4)),.b (.int ((0:Nat):Int)),.b (.int ((x.fdiv 3).fdiv 4)),.b (.int ((0:Nat):Int))] (by kernel_rfl) rfl (one_le hn) λm1 hm=>?_
     conv=>whnf
     have F:=aL (a:="(global "++(pk (x.fdiv 3)).s) (b:=")") (ae (ag (ag (Nat.le_refl 8) (iI _)) (Nat.le_refl 1)) rfl)
     exact⟨⟨F,aa F,mb,rfl,mb,rfl,bP (lv hn hm rfl),d3 (m:=3) (by decide) q,trivial⟩,rfl⟩
   · refine ax (d:=dfD 134) (mt:=[]) [.b (.int ((2:Nat):Int)),.p (vkT (x.fdiv 3)),.b (.int ((x.fdiv 3).fdiv 4)),.b (.int ((1:Nat):Int)),.b (.int ((x.fdiv 3).fdiv 4)),.b (.int ((1:Nat):Int))] (by kernel_rfl) rfl (one_le hn) λm1 hm=>?_
     conv=>whnf
     have F:=aL (a:="(global "++("(mut "++(pk (x.fdiv 3)).s++ ")")) (b:=")") (ae (ag (ag (Nat.le_refl 8) (ag (ag (Nat.le_refl 5) (iI _)) (Nat.le_refl 1))) (Nat.le_refl 1)) rfl)
     have G:=zo (aa F)
     exact⟨⟨F,aa F,G,aa G,mb,rfl,mb,rfl,bP (lv hn hm rfl),d3 (m:=3) (by decide) q,trivial⟩,rfl⟩
end Mine
end
section
open PySem
namespace Mine
variable {cx:Cx}
noncomputable def nx (s:List Int) (i:Nat):Int:=s.getD i 0+41 * (i:Int)
noncomputable def cg (s:List Int) (i:Nat):LO:= .list [.list (s.map D.int),.int (i:Int)]
theorem fB {n:Nat} {x:Str} {args:List AV} {led:Led} {r:AV} {l':Led} (h:∃a l,af cx n x args led a l∧a=r∧l=l'):af cx n x args led r l':=by
 obtain⟨_,_,h,rfl,rfl⟩:=h;exact h
theorem mul41 {i:Nat} (h:i≤1000000):binop .Mult (.int 41) (.int (i:Int))=some (.int (41 * (i:Int))):=by
 show guard (small 41&&small (i:Int)) _=_
 rw[aW h rfl];rfl
theorem B8 {n p i:Nat} {s:List Int} {led:Led} (hn:1≤n) (hs:s.length≤63) (hi:i≤1000) (hp:led[p]? =some (cg s i)):af cx n "_law_next" [.r p] led (.v (.int (nx s i))) (put led p (cg s (i+1))):=by
 have v1:=e8 hp
 have v2:view (put led p (cg s (i+1))) (.r p)=some (.list [.list (s.map .int),.int ((i:Int)+1)]):=e8 (ib (o:=cg s (i+1)) (jx hp))
 have fs:fits (s.map D.int).length=true:=aq hs rfl
 have m4:=mul41 (ai hi (m:=1000000) rfl)
 refine fB ?_
 rcases Nat.lt_or_ge i s.length with e | e
 · have hd:item (.list (s.map .int)) (.int (i:Int))=some (.int (s.getD i 0)):=item_list (ai hi rfl) (by rw[List.getElem?_map,List.getD_eq_getElem?_getD,List.getElem?_eq_getElem e];rfl)
   refine jz (d:=dfD 124) (mt:=["pen"]) [.v (.list [.list (s.map .int),.int (i:Int)]),.o (cg s i),.v (.list [.list (s.map .int),.int ((i:Int)+1)]),.t,.v (.list [.list (s.map .int),.int ((i:Int)+1)]),.i (.list (s.map .int)),.i (.int (s.getD i 0)),.b (.int (41 * (i:Int)))] (by kernel_rfl) (one_le hn) λm1 hm=>?_
   exact And.intro ⟨m4,hd,rfl,v2,decide_eq_true (by rw[List.length_map];exact Int.ofNat_lt.mpr e),fs,v2,rfl,hp,v1,trivial⟩ ⟨rfl,rfl⟩
 · refine jz (d:=dfD 124) (mt:=["pen"]) [.v (.list [.list (s.map .int),.int (i:Int)]),.o (cg s i),.v (.list [.list (s.map .int),.int ((i:Int)+1)]),.f,.b (.int (41 * (i:Int)))] (by kernel_rfl) (one_le hn) λm1 hm=>?_
   refine And.intro ⟨m4,decide_eq_false (by rw[List.length_map];exact λz=>Nat.not_lt.mpr e (Int.ofNat_lt.mp z)),fs,v2,rfl,hp,v1,trivial⟩ ⟨?_,rfl⟩
   unfold nx
   rw[List.getD_eq_getElem?_getD,List.getElem?_eq_none e]
   simp
end Mine
end
section
open PySem
namespace Mine
variable {cx:Cx}
theorem fq {n i:Nat} {s:List Int} {l:Led} (hn:1≤n) (hs:s.length≤63) (hi:i≤1000):af cx n "_law_next" [.r 0] (cg s i::l) (.v (.int (nx s i))) (cg s (i+1)::l):=B8 hn hs hi rfl
theorem iT {n:Nat} {p q so ab:D} {led:Led} (hn:1≤n):af cx n "Import" [.v p,.v q,.v so,.v ab] led (.v (.obj "Import" [("place",p),("name",q),("sort",so),("about",ab)])) led:=by
 refine uj (y:="Import") (d:=dfM 74 0) (mt:=[]) [] (by kernel_rfl) rfl (one_le hn) λm1 hm=>?_
 exact And.intro trivial rfl
noncomputable def xy (x:Int):Ab:=match md x 2 with | 0=> .fn (md (x.fdiv 50) 4) | _=>kW (x.fdiv 50)
noncomputable def rW (x:Int):Im:=⟨md (x.fdiv 2) 5,md (x.fdiv 10) 5,xy x⟩
theorem vU {x:Int}:pW (rW x):=by
 refine⟨aj (by decide),aj (by decide),?_⟩
 show Dq (match md x 2 with | 0=> .fn (md (x.fdiv 50) 4) | _=>kW (x.fdiv 50))
 rcases md x 2 with _ | _
 · exact aj (m:=4) (by decide)
 · exact wF
theorem Dr {x:Int}:isFn (kW x)=false:=by unfold kW;rcases md x 3 with _ | _ | _<;>rfl
theorem uw {s:Str} {a:Ab} (h:isFn a=false):abS s a=abS "" a:=by
 cases a with
 | fn t=>cases h
 | _=>rfl
noncomputable def moF (st:AV):List (Str×AV):=[("kinds",.r 2),("imports",.r 3),("funcs",.r 4),("tables",.r 5),("memories",.r 6),("globals",.r 7),("exports",.r 8),("start",st),("elems",.r 9),("datas",.r 10),("customs",.r 11)]
noncomputable def moL (st:AV):LO:= .obj "Module" (moF st)
noncomputable def bZ (s:List Int) (i j:Nat):List Im:=(List.range j).map λt=>rW (nx s (i+t))
theorem t6 {s:List Int} {i j:Nat}:bZ s i (j+1)=bZ s i j++[rW (nx s (i+j))]:=by unfold bZ;rw[List.range_succ,List.map_append];rfl
theorem xw {s:List Int} {i j:Nat}:(bZ s i j).length=j:=by unfold bZ;rw[List.length_map,List.length_range]
theorem BO {a b c d o:LO} {l:Led}:(a::b::c::d::(l++[o]))[l.length+4]? =some o:=gf
theorem mc {a b c d o o2:LO} {l:Led}:put (a::b::c::d::(l++[o])) (l.length+4) o2=a::b::c::d::(l++[o2]):=by
 have:∀l:Led,List.set (l++[o]) l.length o2=l++[o2]:=λl=>by
  induction l with
  | nil=>rfl
  | cons x l ih=>show x::List.set (l++[o]) l.length o2=_;rw[ih];rfl
 show a::b::c::d::List.set (l++[o]) l.length o2=_
 rw[this]
theorem put3 {a b c d o:LO} {l:Led}:put (a::b::c::d::l) 3 o=a::b::c::o::l:=rfl
theorem fO {l k:List Str}:sD l++sD k=sD (l++k):=by unfold sD;rw[List.map_append]
noncomputable abbrev imG (cx:Cx) (m:Nat):Eng:=g0w cx m ["rows"] (dfD 135)
noncomputable abbrev imZ (ids:List Str) (r:Nat) (z:Int):Loc:=[("pen",.r 0),("module",.r 1),("ids",.v (.list (sD ids))),("rows",.r (r+4)),("funcs",.v (.int z))]
noncomputable abbrev imL (s:List Int) (i:Nat) (st:AV) (ko:LO) (rest:Led) (ids:List Str) (l:List Im):Led:=cg s i::moL st::ko:: .list (l.map imD)::(rest++[.list (sD (az ids 0 l))])
set_option maxHeartbeats 2000000 in
theorem pU {m i j:Nat} {s:List Int} {ids:List Str} {st:AV} {ko:LO} {rest:Led} (hm:3≤m) (hs:s.length≤63) (hi:i+1+j≤1000) (hj:j<3) (hil:ids.length=5) (hids:∀s∈ids,s.length≤4):
 ∃f l1 led1,(led1=imL s (i+1+(j+1)) st ko rest ids (bZ s (i+1) (j+1))∧(f= .next∨f= .cont)∧SubL (imZ ids rest.length (nfn (bZ s (i+1) (j+1)):Nat)) l1)∧
 bA (imG cx m).c (imG cx m).n (imG cx m).sc (bF (stB (dfD 135).body 2)) (bu (stB (dfD 135).body 2)) (.one (.v (.int (j:Int)))) (imZ ids rest.length (nfn (bZ s (i+1) j):Nat)) (imL s (i+1+j) st ko rest ids (bZ s (i+1) j)) f l1 led1:=by
 have hl:=xw (s:=s) (i:=i+1) (j:=j)
 have hf:nfn (bZ s (i+1) j)<5:=Nat.lt_of_le_of_lt my (by rw[hl];exact Nat.lt_of_lt_of_le hj (by decide))
 have hg:=item_at (jE (by rw[hil];exact hf)) (ai (Nat.le_of_lt hf) rfl)
 have hnext:=fq (cx:=cx) (n:=m) (i:=i+1+j) (s:=s) (l:=moL st::ko:: .list ((bZ s (i+1) j).map imD)::(rest++[.list (sD (az ids 0 (bZ s (i+1) j)))])) (le_trans' hm rfl) hs hi
 have hok:pW (rW (nx s (i+1+j))):=vU
 have hia:=fD (i:=nfn (bZ s (i+1) j)) hids
 have F:=aL (ae (pV (f:=nfn (bZ s (i+1) j)) (λs h=>ai (hids s h) rfl) hok) rfl)
 have fi:fits ((bZ s (i+1) j).map imD).length=true:=aq (k:=3) (by rw[hl];exact Nat.le_of_lt hj) rfl
 have fr:fits (sD (az ids 0 (bZ s (i+1) j))).length=true:=aM (k:=3) (by rw[eI,hl];exact Nat.le_of_lt hj) rfl
 have fa:=lE (s:=dS ids (nfn (bZ s (i+1) j))) (ai hia rfl) hok.2.2
 rw[t6,lg]
 unfold imL
 rw[List.map_append,iU,Nat.zero_add,←fO,show nfn [rW (nx s (i+1+j))]=if isFn (xy (nx s (i+1+j)))=true then 1 else 0 from rfl,show∀f,az ids f [rW (nx s (i+1+j))]=[imS ids f (rW (nx s (i+1+j)))] from λ_=>rfl]
 generalize bZ s (i+1) j=im at *
 generalize nx s (i+1+j)=x at *
 generalize nfn im=nf at *
 unfold imS
 unfold rW at F fa ⊢
 dsimp only at F fa ⊢
 have s1:=λled=>eY (cx:=cx) (n:=m) (x:=x.fdiv 2) (led:=led) (le_trans' hm rfl)
 have s2:=λled=>eY (cx:=cx) (n:=m) (x:=x.fdiv 10) (led:=led) (le_trans' hm rfl)
 have at4:=λa b c d o=>BO (a:=a) (b:=b) (c:=c) (d:=d) (o:=o) (l:=rest)
 have F2:=aa F
 have F3:=aa F2
 have F4:=aa F3
 have F5:=aa F4
 have F6:=aa F5
 rcases lt2 (aj (x:=x) (m:=2) (by decide))with q | q
 · have qa:xy x= .fn (md (x.fdiv 50) 4):=by unfold xy;rw[q];rfl
   rw[qa]at F F2 fa ⊢
   have hw:=aj (x:=x.fdiv 50) (m:=4) (by decide)
   have mb:=cz (x:=x.fdiv 50) (m:=4) (by decide)
   generalize md (x.fdiv 50) 4=w at *
   cases e:isE (dS ids nf)with
   | true=>
     have qs:abS (dS ids nf) (.fn w)= "(func"++ ""++ " (type "++ao w++ "))":=congrArg (λa=>Str.ofString "(func"++a++Str.ofString " (type "++ao w++Str.ofString "))") (iq (congrArg (!·) e))
     rw[qs]at F F2 fa ⊢
     have G:=aL (ae fa rfl)
     refine aH (g:=imG cx m) [.r (.v (.int x)) (cg s (i+1+j+1)::moL st::ko:: .list (im.map imD)::(rest++[.list (sD (az ids 0 im))])),.p (.tup [.str (strN (md (x.fdiv 2) 5)).1,.str (strN (md (x.fdiv 2) 5)).2]),.p (.tup [.str (strN (md (x.fdiv 10) 5)).1,.str (strN (md (x.fdiv 10) 5)).2]),.b (.int ((0:Nat):Int)),.b (.int (x.fdiv 50)),.b (.int (w:Int)),.i (.str (dS ids nf)),.f,.p (imD ⟨md (x.fdiv 2) 5,md (x.fdiv 10) 5,.fn w⟩),.k .list,.o (.list (sD (az ids 0 im)))] ?_
     exact And.intro ⟨fr,at4 _ _ _ _ _,F,F2,F3,F4,F5,F6,aZ (at4 _ _ _ _ _),fi,iT (le_trans' hm rfl),G,aa G,aW (Nat.le_of_lt hw) rfl,aa (aa G),aa (aa (aa G)),congrArg (!·) e,hg,mb,rfl,d3 (m:=2) (by decide) q,s2 _,s1 _,hnext,trivial⟩ ⟨mc,.inl rfl,SubL.drop rfl⟩
   | false=>
     have qs:abS (dS ids nf) (.fn w)= "(func"++(" "++dS ids nf)++ " (type "++ao w++ "))":=congrArg (λa=>Str.ofString "(func"++a++Str.ofString " (type "++ao w++Str.ofString "))") (ip (congrArg (!·) e))
     rw[qs]at F F2 fa ⊢
     have G:=aL (ae fa rfl)
     refine aH (g:=imG cx m) [.r (.v (.int x)) (cg s (i+1+j+1)::moL st::ko:: .list (im.map imD)::(rest++[.list (sD (az ids 0 im))])),.p (.tup [.str (strN (md (x.fdiv 2) 5)).1,.str (strN (md (x.fdiv 2) 5)).2]),.p (.tup [.str (strN (md (x.fdiv 10) 5)).1,.str (strN (md (x.fdiv 10) 5)).2]),.b (.int ((0:Nat):Int)),.b (.int (x.fdiv 50)),.b (.int (w:Int)),.i (.str (dS ids nf)),.t,.i (.str (dS ids nf)),.p (imD ⟨md (x.fdiv 2) 5,md (x.fdiv 10) 5,.fn w⟩),.k .list,.o (.list (sD (az ids 0 im)))] ?_
     exact And.intro ⟨fr,at4 _ _ _ _ _,F,F2,F3,F4,F5,F6,aZ (at4 _ _ _ _ _),fi,iT (le_trans' hm rfl),G,aa G,aW (Nat.le_of_lt hw) rfl,aa (aa G),aa (aa (aa G)),zo (aa (aa (aa G))),hg,congrArg (!·) e,hg,mb,rfl,d3 (m:=2) (by decide) q,s2 _,s1 _,hnext,trivial⟩ ⟨mc,.inl rfl,SubL.drop rfl⟩
 · have qa:xy x=kW (x.fdiv 50):=by unfold xy;rw[q];rfl
   have hno:=Dr (x:=x.fdiv 50)
   have hli:=λled=>nR (cx:=cx) (n:=m) (x:=x.fdiv 50) (led:=led) (le_trans' hm rfl)
   rw[←uw (s:=dS ids nf) hno]at hli
   rw[qa]at F F2 fa ⊢
   rw[if_neg (by rw[hno];exact Bool.false_ne_true)]
   generalize kW (x.fdiv 50)=ab at *
   refine aH (g:=imG cx m) [.r (.v (.int x)) (cg s (i+1+j+1)::moL st::ko:: .list (im.map imD)::(rest++[.list (sD (az ids 0 im))])),.p (.tup [.str (strN (md (x.fdiv 2) 5)).1,.str (strN (md (x.fdiv 2) 5)).2]),.p (.tup [.str (strN (md (x.fdiv 10) 5)).1,.str (strN (md (x.fdiv 10) 5)).2]),.b (.int ((1:Nat):Int)),.p (.tup [.int (nB ab),abD ab,.str (abS (dS ids nf) ab)]),.p (imD ⟨md (x.fdiv 2) 5,md (x.fdiv 10) 5,ab⟩),.k .list,.o (.list (sD (az ids 0 im)))] ?_
   exact And.intro ⟨fr,at4 _ _ _ _ _,F,F2,F3,F4,F5,F6,aZ (at4 _ _ _ _ _),fi,iT (le_trans' hm rfl),hli _,d3 (m:=2) (by decide) q,s2 _,s1 _,hnext,trivial⟩ ⟨mc,.inl rfl,SubL.drop rfl⟩
theorem mC {n i:Nat} {s:List Int} {ids:List Str} {st:AV} {ko:LO} {rest:Led} (hn:4≤n) (hs:s.length≤63) (hi:i≤500) (hil:ids.length=5) (hids:∀s∈ids,s.length≤4):
 af cx n "_law_imports" [.r 0,.r 1,.v (.list (sD ids))] (cg s i::moL st::ko:: .list []::rest) (.r (rest.length+4)) (imL s (i+1+md (nx s i) 4) st ko rest ids (bZ s (i+1) (md (nx s i) 4))):=by
 obtain⟨q,rfl⟩:=le_succ (one_le hn)
 have hq:3≤q:=Nat.le_of_succ_le_succ hn
 have hc:=aj (x:=nx s i) (m:=4) (by decide)
 have mb:=cz (x:=nx s i) (m:=4) (by decide)
 have hnext:=fq (cx:=cx) (n:=q) (i:=i) (s:=s) (l:=moL st::ko:: .list []::(rest++[.list []])) (le_trans' hq rfl) hs (ai hi rfl)
 generalize md (nx s i) 4=cnt at *
 have T:=aV (sc:=(dfD 135).sc) (is:=(cY 0 cnt).map It.one) (c:=(imG cx q).c) (n:=(imG cx q).n) (t:=(bF (stB (dfD 135).body 2))) (body:=(bu (stB (dfD 135).body 2))) (λj=>imZ ids rest.length (nfn (bZ s (i+1) j):Nat)) (λj=>imL s (i+1+j) st ko rest ids (bZ s (i+1) j)) λj it h=>by
  obtain⟨h3,rfl⟩:=je h
  rw[Nat.zero_add]
  have h4:j<3:=Nat.lt_of_lt_of_le h3 (Nat.le_of_lt_succ hc)
  exact pU hq hs (ai (Nat.add_le_add (Nat.succ_le_succ hi) (Nat.le_of_lt h4)) rfl) h4 hil hids
 rw[eO]at T
 refine fB ?_
 refine rG (d:=dfD 135) (mt:=["rows"]) [.r (.v (.int (nx s i))) (cg s (i+1)::moL st::ko:: .list []::(rest++[.list []])),.b (.int (cnt:Int)),.w .next (imZ ids rest.length (nfn (bZ s (i+1) cnt):Nat)) (imL s (i+1+cnt) st ko rest ids (bZ s (i+1) cnt))] (by kernel_rfl) ?_
 exact And.intro ⟨T,ae (Nat.le_of_lt hc) rfl,mb,hnext,trivial⟩ ⟨rfl,rfl⟩
end Mine
end
section
open PySem
namespace Mine
variable {cx:Cx}
noncomputable def dY (x:Int):Sp:=match md x 4 with
 | 0=> .const (md (x.fdiv 4) 9)
 | 1=> .lget (md (x.fdiv 4) 5)
 | 2=> .call (if md (x.fdiv 4) 6<5 then md (x.fdiv 4) 6 else 9)
 | _=> .ind (md (x.fdiv 4) 4) (md ((x.fdiv 4).fdiv 4) 2)
theorem BJ {x:Int}:pz (dY x):=by
 unfold dY
 rcases md x 4 with _ | _ | _ | _
 · exact aj (m:=9) (by decide)
 · exact aj (m:=5) (by decide)
 · show (if md (x.fdiv 4) 6<5 then md (x.fdiv 4) 6 else 9)<10
   exact xq (c:=md (x.fdiv 4) 6<5) (a:=md (x.fdiv 4) 6) (P:=(· <10)) (Nat.lt_of_lt_of_le (aj (by decide)) (by decide)) (by decide)
 · exact⟨aj (m:=4) (by decide),aj (m:=2) (by decide)⟩
noncomputable def jO (ks:List Kn) (k x:Nat):Option (Nat×Nat):=match ks[k]? with
 | some kn=>some (kn.p.length+x,kn.r.length)
 | none=>none
noncomputable def ku (ks:List Kn) (fk:List Nat):Sp→Option (Nat×Nat)
 | .const _=>some (0,1)
 | .lget _=>some (0,1)
 | .call i=>match fk[i]? with
   | some k=>jO ks k 0
   | none=>none
 | .ind a _=>jO ks a 1
theorem cnt_eq {m:Mo} {sp:Sp}:cnt m sp=ku m.kinds (fkL m) sp:=by cases sp<;>rfl
noncomputable def tkD:Option (Nat×Nat)→D
 | none=> .none
 | some p=> .int (p.1:Nat)
noncomputable def ptD:Option (Nat×Nat)→D
 | none=> .int 0
 | some p=> .int (p.2:Nat)
noncomputable def dI (ids lids:List Str) (c:Option (Nat×Nat)) (sp:Sp):D:= .tup [spD sp,.str (spS ids lids sp),tkD c,ptD c]
structure LawAt (ks:List Kn) (ims:List Im) (k1 k2 f1 f2:Nat) (st:AV) (led:Led):Prop where
 mo:led[1]? =some (moL st)
 kinds:view led (.r 2)=some (.list (ks.map knD))
 imports:led[3]? =some (.frz (.list (ims.map imD)))
 funcs:led[4]? =some (.lrefs [f1,f2])
 f1:g5 led "kind" (.r f1)=some (.v (.int (k1:Nat)))
 f2:g5 led "kind" (.r f2)=some (.v (.int (k2:Nat)))
theorem ej {led:Led} {a:Nat} {l:List D} (h:led[a]? =some (.frz (.list l))):items (.r a) led=some (l.map .v,led):=by unfold items;dsimp only;rw[h];rfl
theorem cV {led:Led} {a:Nat} {l:List Nat} (h:led[a]? =some (.lrefs l)):items (.r a) led=some (l.map .r,led):=by unfold items;dsimp only;rw[h];rfl
theorem ni {ks:List Kn} {k x:Nat} {kn:Kn} (h:ks[k]? =some kn):jO ks k x=some (kn.p.length+x,kn.r.length):=by unfold jO;rw[h]
theorem kq {ks:List Kn} {k x:Nat} (h:ks.length≤k):jO ks k x=none:=by unfold jO;rw[List.getElem?_eq_none h]
theorem oO {ks:List Kn} {fk:List Nat} {i k:Nat} (h:fk[i]? =some k):ku ks fk (.call i)=jO ks k 0:=by show (match fk[i]? with | some k=>jO ks k 0 | none=>none)=_;rw[h]
theorem sH {ks:List Kn} {fk:List Nat} {i:Nat} (h:fk.length≤i):ku ks fk (.call i)=none:=by show (match fk[i]? with | some k=>jO ks k 0 | none=>none)=_;rw[List.getElem?_eq_none h]
theorem zu {α:Type} {f:α→D} {l:List α} {k:Nat} (h:k<l.length):decide ((k:Int) ≥ Int.ofNat (l.map f).length)=false:=decide_eq_false (by rw[List.length_map];exact λz=>Nat.not_le.mpr h (Int.ofNat_le.mp z))
theorem tW {α:Type} {f:α→D} {l:List α} {k:Nat} (h:l.length≤k):decide ((k:Int) ≥ Int.ofNat (l.map f).length)=true:=decide_eq_true (by rw[List.length_map];exact Int.ofNat_le.mpr h)
theorem lT {a b:D} {x y:Int} {x' y':Nat} (h:x=x') (k:y=y'):AV.v (.tup [a,b,.int x,.int y])=AV.v (.tup [a,b,.int (x':Nat),.int (y':Nat)]):=by rw[h,k]
set_option maxHeartbeats 2000000 in
theorem rH {n k1 k2 f1 f2:Nat} {x:Int} {ids lids:List Str} {led:Led} {st:AV} {ks:List Kn} {ims:List Im} (hn:2≤n) (L:LawAt ks ims k1 k2 f1 f2 st led) (hks:ks.length≤3) (hko:∀k∈ks,fU k) (him:ims.length≤3) (hfk:∀k∈abL ims++[k1,k2],k<4)
 (h1:ids.length≤1000) (b1:∀i,i<10→(aD ids i).length≤1000) (h2:lids.length≤1000) (b2:∀i,i<10→(aD lids i).length≤1000):
 af cx n "_law_step" [.v (.int x),.r 1,.v (.list (sD ids)),.v (.list (sD lids))] led (.v (dI ids lids (ku ks (abL ims++[k1,k2]) (dY x)) (dY x))) led:=by
 have fk:=aq (f:=knD) hks rfl
 have ka:=aT (x:="kinds") (a:= .r 2) L.mo rfl
 refine fB ?_
 rcases lt4 (aj (x:=x) (m:=4) (by decide))with q | q | q | q
 · rw[show dY x= .const (md (x.fdiv 4) 9)by unfold dY;rw[q];rfl]
   have g:=aj (x:=x.fdiv 4) (m:=9) (by decide)
   have mb:=cz (x:=x.fdiv 4) (m:=9) (by decide)
   generalize md (x.fdiv 4) 9=r at *
   have hb:small ((r:Int) - 4)=true:=bW (f:=λr:Nat=>small ((r:Int) - 4)) (g:=λ_=>true) (by kernel_rfl) g
   have hl:(ao ((r:Int) - 4)).length≤20:=Nat.le_of_ble_eq_true (bW (f:=λr:Nat=>Nat.ble (ao ((r:Int) - 4)).length 20) (g:=λ_=>true) (by kernel_rfl) g)
   refine jz (d:=dfD 136) (mt:=[]) [.b (.int ((0:Nat):Int)),.b (.int (x.fdiv 4)),.b (.int (r:Int)),.b (.int ((r:Int) - 4)),.b (.int (r:Int)),.b (.int ((r:Int) - 4))] (by kernel_rfl) (one_le hn) λm1 hm=>?_
   exact And.intro ⟨ae (Nat.add_le_add_left hl 10) rfl,hb,rfl,mb,rfl,mb,rfl,d3 (m:=4) (by decide) q,trivial⟩ ⟨rfl,rfl⟩
 · rw[show dY x= .lget (md (x.fdiv 4) 5)by unfold dY;rw[q];rfl]
   have g:=aj (x:=x.fdiv 4) (m:=5) (by decide)
   have mb:=cz (x:=x.fdiv 4) (m:=5) (by decide)
   generalize md (x.fdiv 4) 5=r at *
   refine jz (d:=dfD 136) (mt:=[]) [.b (.int ((1:Nat):Int)),.b (.int (x.fdiv 4)),.b (.int (r:Int)),.b (.int (r:Int)),.p (.str (aD lids r))] (by kernel_rfl) (one_le hn) λm1 hm=>?_
   exact And.intro ⟨ae (Nat.add_le_add_left (b2 r (Nat.lt_of_lt_of_le g (by decide))) 10) rfl,bx (lv hn hm rfl) h2 (ai (Nat.le_of_lt g) rfl),mb,mb,rfl,d3 (m:=4) (by decide) q,trivial⟩ ⟨rfl,rfl⟩
 · have e:(ims.filterMap λ(x:Im)=>(eJ x.a).map λ(n:Nat)=>D.int (n:Int))=iD (abL ims):=by
    unfold iD abL
    rw[List.map_filterMap]
   have eab:(ims.filterMap λ(x:Im)=>(eJ x.a).map λ(n:Nat)=>D.int (n:Int))++[D.int (k1:Nat),D.int (k2:Nat)]=iD (abL ims++[k1,k2]):=by rw[e];unfold iD;rw[List.map_append];rfl
   have rl:(ims.filterMap λ(x:Im)=>(eJ x.a).map λ(n:Nat)=>D.int (n:Int)).length≤3:=by rw[e,kf];exact Nat.le_trans ir him
   have fraw:=ae rl rfl
   have fab:=ae (Nat.add_le_add_right rl 2) rfl
   have fab2:fits ((ims.filterMap λ(x:Im)=>(eJ x.a).map λ(n:Nat)=>D.int (n:Int))++[D.int (k1:Nat),D.int (k2:Nat)]).length=true:=ae (k:=5) (by rw[List.length_append];exact Nat.add_le_add_right rl 2) rfl
   have ain:∀{i},i<(abL ims++[k1,k2]).length→decide ((i:Int) ≥ Int.ofNat ((ims.filterMap λ(x:Im)=>(eJ x.a).map λ(n:Nat)=>D.int (n:Int))++[D.int (k1:Nat),D.int (k2:Nat)]).length)=false:=λh=>by rw[eab];exact zQ h
   have aout:∀{i},(abL ims++[k1,k2]).length≤i→decide ((i:Int) ≥ Int.ofNat ((ims.filterMap λ(x:Im)=>(eJ x.a).map λ(n:Nat)=>D.int (n:Int))++[D.int (k1:Nat),D.int (k2:Nat)]).length)=true:=λh=>by rw[eab];exact zP h
   have ft:∀i,i<10→fits (5+(aD ids i).length)=true:=λi h=>ae (Nat.add_le_add_left (b1 i h) 5) rfl
   have g:=aj (x:=x.fdiv 4) (m:=6) (by decide)
   have mb:=cz (x:=x.fdiv 4) (m:=6) (by decide)
   rw[show dY x= .call (if md (x.fdiv 4) 6<5 then md (x.fdiv 4) 6 else 9)by unfold dY;rw[q];rfl]
   generalize md (x.fdiv 4) 6=a at *
   by_cases ha:a<5
   · rw[if_pos ha]
     have hi2:a≤1000:=ai (Nat.le_of_lt ha) rfl
     have hi10:a<10:=Nat.lt_of_lt_of_le ha (by decide)
     rcases Nat.lt_or_ge a (abL ims++[k1,k2]).length with r | r
     · obtain⟨k,hk⟩:∃k,(abL ims++[k1,k2])[a]? =some k:=⟨_,List.getElem?_eq_getElem r⟩
       have it:item (.list ((ims.filterMap λ(x:Im)=>(eJ x.a).map λ(n:Nat)=>D.int (n:Int))++[D.int (k1:Nat),D.int (k2:Nat)])) (.int ((a:Nat):Int))=some (.int (k:Int)):=by rw[eab];exact item_list (ai hi2 rfl) (t7 hk)
       have hk4:=hfk k (List.mem_of_getElem? hk)
       rw[oO hk]
       rcases Nat.lt_or_ge k ks.length with r2 | r2
       · obtain⟨kn,hkn⟩:∃kn,ks[k]? =some kn:=⟨_,List.getElem?_eq_getElem r2⟩
         have hd2:(ks.map knD)[k]? =some (knD kn):=by rw[List.getElem?_map,hkn];rfl
         obtain⟨q1,q2⟩:=hko kn (List.mem_of_getElem? hkn)
         rw[ni hkn]
         refine jz (d:=dfD 136) (mt:=[]) [.b (.int ((2:Nat):Int)),.b (.int (x.fdiv 4)),.b (.int (a:Int)),.t,.b (.int (a:Int)),.a (.r 3),.s ((ims.map imD).map .v) led,.q (ims.filterMap λ(x:Im)=>(eJ x.a).map λ(n:Nat)=>D.int (n:Int)),.a (.r 4),.s [.r f1,.r f2] led,.a (.v (.int (k1:Nat))),.a (.v (.int (k2:Nat))),.p (.str (aD ids a)),.f,.i (.int (k:Int)),.a (.r 2),.v (.list (ks.map knD)),.f,.a (.r 2),.i (.int (k:Int)),.v (.list (ks.map knD)),.i (knD kn)] (by kernel_rfl) (one_le hn) λm1 hm=>?_
         exact And.intro ⟨aq (k:=2) q2 rfl,aq (k:=2) q1 rfl,item_list (ai (Nat.le_of_lt hk4) rfl) hd2,L.kinds,it,ka,zu r2,fk,L.kinds,ka,it,ain r,fab2,ft a hi10,bx (lv hn hm rfl) h1 hi2,fab,L.f2,L.f1,cV L.funcs,aT L.mo rfl,fraw,gz (A:=λx=> .v (imD x)) (f:=λ(x:Im)=>(eJ x.a).map λ(n:Nat)=>D.int (n:Int)) rfl (List.map_map ..) (λx hx=>by obtain⟨p,q,a⟩:=x;cases a<;>exact⟨[],show True∧_∧_ from ⟨trivial,rfl,rfl⟩⟩),ej L.imports,aT L.mo rfl,mb,decide_eq_true (Int.ofNat_lt.mpr ha),mb,rfl,d3 (m:=4) (by decide) q,trivial⟩ ⟨lT nT nT,rfl⟩
       · rw[kq r2]
         refine jz (d:=dfD 136) (mt:=[]) [.b (.int ((2:Nat):Int)),.b (.int (x.fdiv 4)),.b (.int (a:Int)),.t,.b (.int (a:Int)),.a (.r 3),.s ((ims.map imD).map .v) led,.q (ims.filterMap λ(x:Im)=>(eJ x.a).map λ(n:Nat)=>D.int (n:Int)),.a (.r 4),.s [.r f1,.r f2] led,.a (.v (.int (k1:Nat))),.a (.v (.int (k2:Nat))),.p (.str (aD ids a)),.f,.i (.int (k:Int)),.a (.r 2),.v (.list (ks.map knD)),.t] (by kernel_rfl) (one_le hn) λm1 hm=>?_
         exact And.intro ⟨tW r2,fk,L.kinds,ka,it,ain r,fab2,ft a hi10,bx (lv hn hm rfl) h1 hi2,fab,L.f2,L.f1,cV L.funcs,aT L.mo rfl,fraw,gz (A:=λx=> .v (imD x)) (f:=λ(x:Im)=>(eJ x.a).map λ(n:Nat)=>D.int (n:Int)) rfl (List.map_map ..) (λx hx=>by obtain⟨p,q,a⟩:=x;cases a<;>exact⟨[],show True∧_∧_ from ⟨trivial,rfl,rfl⟩⟩),ej L.imports,aT L.mo rfl,mb,decide_eq_true (Int.ofNat_lt.mpr ha),mb,rfl,d3 (m:=4) (by decide) q,trivial⟩ ⟨rfl,rfl⟩
     · rw[sH r]
       refine jz (d:=dfD 136) (mt:=[]) [.b (.int ((2:Nat):Int)),.b (.int (x.fdiv 4)),.b (.int (a:Int)),.t,.b (.int (a:Int)),.a (.r 3),.s ((ims.map imD).map .v) led,.q (ims.filterMap λ(x:Im)=>(eJ x.a).map λ(n:Nat)=>D.int (n:Int)),.a (.r 4),.s [.r f1,.r f2] led,.a (.v (.int (k1:Nat))),.a (.v (.int (k2:Nat))),.p (.str (aD ids a)),.t] (by kernel_rfl) (one_le hn) λm1 hm=>?_
       exact And.intro ⟨aout r,fab2,ft a hi10,bx (lv hn hm rfl) h1 hi2,fab,L.f2,L.f1,cV L.funcs,aT L.mo rfl,fraw,gz (A:=λx=> .v (imD x)) (f:=λ(x:Im)=>(eJ x.a).map λ(n:Nat)=>D.int (n:Int)) rfl (List.map_map ..) (λx hx=>by obtain⟨p,q,a⟩:=x;cases a<;>exact⟨[],show True∧_∧_ from ⟨trivial,rfl,rfl⟩⟩),ej L.imports,aT L.mo rfl,mb,decide_eq_true (Int.ofNat_lt.mpr ha),mb,rfl,d3 (m:=4) (by decide) q,trivial⟩ ⟨rfl,rfl⟩
   · rw[if_neg ha]
     have hi2:9≤1000:=by decide
     have hi10:9<10:=by decide
     rcases Nat.lt_or_ge 9 (abL ims++[k1,k2]).length with r | r
     · obtain⟨k,hk⟩:∃k,(abL ims++[k1,k2])[9]? =some k:=⟨_,List.getElem?_eq_getElem r⟩
       have it:item (.list ((ims.filterMap λ(x:Im)=>(eJ x.a).map λ(n:Nat)=>D.int (n:Int))++[D.int (k1:Nat),D.int (k2:Nat)])) (.int ((9:Nat):Int))=some (.int (k:Int)):=by rw[eab];exact item_list (ai hi2 rfl) (t7 hk)
       have hk4:=hfk k (List.mem_of_getElem? hk)
       rw[oO hk]
       rcases Nat.lt_or_ge k ks.length with r2 | r2
       · obtain⟨kn,hkn⟩:∃kn,ks[k]? =some kn:=⟨_,List.getElem?_eq_getElem r2⟩
         have hd2:(ks.map knD)[k]? =some (knD kn):=by rw[List.getElem?_map,hkn];rfl
         obtain⟨q1,q2⟩:=hko kn (List.mem_of_getElem? hkn)
         rw[ni hkn]
         refine jz (d:=dfD 136) (mt:=[]) [.b (.int ((2:Nat):Int)),.b (.int (x.fdiv 4)),.b (.int (a:Int)),.f,.a (.r 3),.s ((ims.map imD).map .v) led,.q (ims.filterMap λ(x:Im)=>(eJ x.a).map λ(n:Nat)=>D.int (n:Int)),.a (.r 4),.s [.r f1,.r f2] led,.a (.v (.int (k1:Nat))),.a (.v (.int (k2:Nat))),.p (.str (aD ids 9)),.f,.i (.int (k:Int)),.a (.r 2),.v (.list (ks.map knD)),.f,.a (.r 2),.i (.int (k:Int)),.v (.list (ks.map knD)),.i (knD kn)] (by kernel_rfl) (one_le hn) λm1 hm=>?_
         exact And.intro ⟨aq (k:=2) q2 rfl,aq (k:=2) q1 rfl,item_list (ai (Nat.le_of_lt hk4) rfl) hd2,L.kinds,it,ka,zu r2,fk,L.kinds,ka,it,ain r,fab2,ft 9 hi10,bx (lv hn hm rfl) h1 hi2,fab,L.f2,L.f1,cV L.funcs,aT L.mo rfl,fraw,gz (A:=λx=> .v (imD x)) (f:=λ(x:Im)=>(eJ x.a).map λ(n:Nat)=>D.int (n:Int)) rfl (List.map_map ..) (λx hx=>by obtain⟨p,q,a⟩:=x;cases a<;>exact⟨[],show True∧_∧_ from ⟨trivial,rfl,rfl⟩⟩),ej L.imports,aT L.mo rfl,decide_eq_false (λz=>ha (Int.ofNat_lt.mp z)),mb,rfl,d3 (m:=4) (by decide) q,trivial⟩ ⟨lT nT nT,rfl⟩
       · rw[kq r2]
         refine jz (d:=dfD 136) (mt:=[]) [.b (.int ((2:Nat):Int)),.b (.int (x.fdiv 4)),.b (.int (a:Int)),.f,.a (.r 3),.s ((ims.map imD).map .v) led,.q (ims.filterMap λ(x:Im)=>(eJ x.a).map λ(n:Nat)=>D.int (n:Int)),.a (.r 4),.s [.r f1,.r f2] led,.a (.v (.int (k1:Nat))),.a (.v (.int (k2:Nat))),.p (.str (aD ids 9)),.f,.i (.int (k:Int)),.a (.r 2),.v (.list (ks.map knD)),.t] (by kernel_rfl) (one_le hn) λm1 hm=>?_
         exact And.intro ⟨tW r2,fk,L.kinds,ka,it,ain r,fab2,ft 9 hi10,bx (lv hn hm rfl) h1 hi2,fab,L.f2,L.f1,cV L.funcs,aT L.mo rfl,fraw,gz (A:=λx=> .v (imD x)) (f:=λ(x:Im)=>(eJ x.a).map λ(n:Nat)=>D.int (n:Int)) rfl (List.map_map ..) (λx hx=>by obtain⟨p,q,a⟩:=x;cases a<;>exact⟨[],show True∧_∧_ from ⟨trivial,rfl,rfl⟩⟩),ej L.imports,aT L.mo rfl,decide_eq_false (λz=>ha (Int.ofNat_lt.mp z)),mb,rfl,d3 (m:=4) (by decide) q,trivial⟩ ⟨rfl,rfl⟩
     · rw[sH r]
       refine jz (d:=dfD 136) (mt:=[]) [.b (.int ((2:Nat):Int)),.b (.int (x.fdiv 4)),.b (.int (a:Int)),.f,.a (.r 3),.s ((ims.map imD).map .v) led,.q (ims.filterMap λ(x:Im)=>(eJ x.a).map λ(n:Nat)=>D.int (n:Int)),.a (.r 4),.s [.r f1,.r f2] led,.a (.v (.int (k1:Nat))),.a (.v (.int (k2:Nat))),.p (.str (aD ids 9)),.t] (by kernel_rfl) (one_le hn) λm1 hm=>?_
       exact And.intro ⟨aout r,fab2,ft 9 hi10,bx (lv hn hm rfl) h1 hi2,fab,L.f2,L.f1,cV L.funcs,aT L.mo rfl,fraw,gz (A:=λx=> .v (imD x)) (f:=λ(x:Im)=>(eJ x.a).map λ(n:Nat)=>D.int (n:Int)) rfl (List.map_map ..) (λx hx=>by obtain⟨p,q,a⟩:=x;cases a<;>exact⟨[],show True∧_∧_ from ⟨trivial,rfl,rfl⟩⟩),ej L.imports,aT L.mo rfl,decide_eq_false (λz=>ha (Int.ofNat_lt.mp z)),mb,rfl,d3 (m:=4) (by decide) q,trivial⟩ ⟨rfl,rfl⟩
 · rw[show dY x= .ind (md (x.fdiv 4) 4) (md ((x.fdiv 4).fdiv 4) 2)by unfold dY;rw[q];rfl]
   have g:=aj (x:=x.fdiv 4) (m:=4) (by decide)
   have mb:=cz (x:=x.fdiv 4) (m:=4) (by decide)
   have g':=aj (x:=(x.fdiv 4).fdiv 4) (m:=2) (by decide)
   have mb':=cz (x:=(x.fdiv 4).fdiv 4) (m:=2) (by decide)
   generalize md (x.fdiv 4) 4=a at *
   generalize md ((x.fdiv 4).fdiv 4) 2=b at *
   have G:=aL (a:="call_indirect "++ao b++ " (type "++ao a) (b:=")") (ae (ag (ag (ag (ag (Nat.le_refl 14) (bQ (Nat.lt_of_lt_of_le g' (by decide)))) (Nat.le_refl 7)) (bQ (Nat.lt_of_lt_of_le g (by decide)))) (Nat.le_refl 1)) rfl)
   have sa:=aW (Nat.le_of_lt g) rfl
   have sb:=aW (Nat.le_of_lt g') rfl
   rcases Nat.lt_or_ge a ks.length with r | r
   · obtain⟨kn,hkn⟩:∃kn,ks[a]? =some kn:=⟨_,List.getElem?_eq_getElem r⟩
     have hd2:(ks.map knD)[a]? =some (knD kn):=by rw[List.getElem?_map,hkn];rfl
     obtain⟨q1,q2⟩:=hko kn (List.mem_of_getElem? hkn)
     rw[show ku ks (abL ims++[k1,k2]) (.ind a b)=_ from ni hkn]
     refine jz (d:=dfD 136) (mt:=[]) [.b (.int ((3:Nat):Int)),.b (.int (x.fdiv 4)),.b (.int (a:Int)),.b (.int ((x.fdiv 4).fdiv 4)),.b (.int (b:Int)),.b (.int ((x.fdiv 4).fdiv 4)),.b (.int (b:Int)),.b (.int (a:Int)),.b (.int (a:Int)),.a (.r 2),.v (.list (ks.map knD)),.f,.a (.r 2),.b (.int (a:Int)),.v (.list (ks.map knD)),.i (knD kn)] (by kernel_rfl) (one_le hn) λm1 hm=>?_
     exact And.intro ⟨aq (k:=2) q2 rfl,aq (k:=2) q1 rfl,item_list (ai (Nat.le_of_lt g) rfl) hd2,L.kinds,mb,ka,zu r,fk,L.kinds,ka,mb,G,aa G,sa,mb,aa (aa G),aa (aa (aa G)),sb,mb',rfl,mb',rfl,mb,rfl,d3 (m:=4) (by decide) q,trivial⟩ ⟨lT (congrArg (· +1) nT) nT,rfl⟩
   · rw[show ku ks (abL ims++[k1,k2]) (.ind a b)=_ from kq r]
     refine jz (d:=dfD 136) (mt:=[]) [.b (.int ((3:Nat):Int)),.b (.int (x.fdiv 4)),.b (.int (a:Int)),.b (.int ((x.fdiv 4).fdiv 4)),.b (.int (b:Int)),.b (.int ((x.fdiv 4).fdiv 4)),.b (.int (b:Int)),.b (.int (a:Int)),.b (.int (a:Int)),.a (.r 2),.v (.list (ks.map knD)),.t] (by kernel_rfl) (one_le hn) λm1 hm=>?_
     exact And.intro ⟨tW r,fk,L.kinds,ka,mb,G,aa G,sa,mb,aa (aa G),aa (aa (aa G)),sb,mb',rfl,mb',rfl,mb,rfl,d3 (m:=4) (by decide) q,trivial⟩ ⟨rfl,rfl⟩
end Mine
end
section
open PySem
namespace Mine
variable {cx:Cx}
noncomputable def bJ (ids lids:List Str) (c:Sp→Option (Nat×Nat)) (l:List Sp):List Str×List Str:=l.foldl (λst sp=>du st (spS ids lids sp) (c sp)) ([],[])
theorem lU {ids lids:List Str} {c:Sp→Option (Nat×Nat)} {l:List Sp} {sp:Sp}:bJ ids lids c (l++[sp])=du (bJ ids lids c l) (spS ids lids sp) (c sp):=by
 unfold bJ;rw[List.foldl_append];rfl
theorem gJ {ids lids:List Str} {c:Sp→Option (Nat×Nat)} {l:List Sp} (h:∀s∈l,(spS ids lids s).length≤2000):∀i,bk (bJ ids lids c (l.take i)).1+bk (bJ ids lids c (l.take i)).2≤i * 2004∧(bJ ids lids c (l.take i)).1.length+(bJ ids lids c (l.take i)).2.length≤i
 | 0=>⟨Nat.le_refl _,Nat.le_refl _⟩
 | i+1=>by
   obtain⟨a,b⟩:=gJ h i (c:=c)
   cases e:l[i]? with
   | none=>
     have:l.take (i+1)=l.take i:=by rw[List.take_add_one,e];simp
     rw[this];lia
   | some s=>
     rw[cR e,lU]
     have h1:=h s (List.mem_of_getElem? e)
     have h2:=v3 (st:=bJ ids lids c (l.take i)) (text:=spS ids lids s) (tp:=c s)
     have h3:=qb (st:=bJ ids lids c (l.take i)) (text:=spS ids lids s) (tp:=c s)
     lia
theorem wX {ids lids:List Str} {m:Mo} {l:List Sp}:d7 m ids lids l=bJ ids lids (ku m.kinds (fkL m)) l:=by
 unfold d7 bJ
 congr 1
noncomputable abbrev lfG (cx:Cx) (m:Nat):Eng:=g0w cx m [] (dfD 137)
noncomputable abbrev lfZ (steps:D) (r w:List D):Loc:=[("steps",.v steps),("rows",.v (.list r)),("waiting",.v (.list w))]
noncomputable abbrev lfA (steps:D) (st:List Str×List Str):Loc:=lfZ steps (sD st.1) (sD st.2)
noncomputable abbrev B0 (wait:List Str) (tk:Nat):List D:=List.take ((sD wait).length - bound (Int.ofNat (jq wait tk).length) (sD wait).length) (List.drop (bound (Int.ofNat (jq wait tk).length) (sD wait).length) (sD wait))
theorem q9 {wait:List Str} {tk:Nat} (h:tk≤wait.length):(jq wait tk).length=wait.length - tk:=by
 rw[pD h,aF,List.length_take,Nat.min_eq_left (Nat.sub_le _ _)]
theorem vg {wait:List Str} {tk:Nat} (h:tk≤wait.length):B0 wait tk=sD (wait.drop (wait.length - tk)):=by
 unfold B0
 rw[q9 h];exact sA
theorem ne1_t {k:Nat} (h:¬k=1):(!decide ((k:Int)=1))=true:=congrArg (!·) (D0 h)
theorem ne1_f {k:Nat} (h:k=1):(!decide ((k:Int)=1))=false:=congrArg (!·) (DZ h)
theorem Aq {m:Nat} {steps:D} {rows wait:List Str} {tx:Str} {sd:D} {tp:Option (Nat×Nat)} (hr:rows.length+wait.length≤5) (hT:bk wait≤50000) (hx:tx.length≤2000):
 ∃f l1 led1,(led1=[]∧(f= .next∨f= .cont)∧SubL (lfA steps (du (rows,wait) tx tp)) l1)∧
 bA (lfG cx m).c (lfG cx m).n (lfG cx m).sc (bF (stB (dfD 137).body 2)) (bu (stB (dfD 137).body 2)) (.one (.v (.tup [sd,.str tx,tkD tp,ptD tp]))) (lfA steps (rows,wait)) [] f l1 led1:=by
 have hw:wait.length≤5:=Nat.le_trans (Nat.le_add_left _ _) hr
 have fw:=aM hw rfl
 have hs:sD rows++sD wait++[.str tx]=sD (rows++wait++[tx]):=by rw[fO,d8]
 have g1:fits ((sD rows).length+(sD wait).length)=true:=by rw[aF,aF];exact ae hr rfl
 have g2:fits ((sD rows++sD wait).length+[D.str tx].length)=true:=by rw[fO,aF,List.length_append];exact ae (Nat.add_le_add_right hr 1) rfl
 cases tp with
 | none=>
   refine aH (g:=lfG cx m) [] ?_
   exact And.intro ⟨g2,g1,trivial⟩ ⟨rfl,.inr rfl,SubL.drop (congrArg (λz=>lfZ steps z []) hs)⟩
 | some p=>
   obtain⟨tk,pt⟩:=p
   rcases Nat.lt_or_ge wait.length tk with e | e
   · rw[show du (rows,wait) tx (some (tk,pt))=(rows++wait++[tx],[]) from if_pos e]
     refine aH (g:=lfG cx m) [.f,.t] ?_
     exact And.intro ⟨g2,g1,gt_t e,fw,rfl,trivial⟩ ⟨rfl,.inr rfl,SubL.drop (congrArg (λz=>lfZ steps z []) hs)⟩
   · have t1:bk (tx::wait.drop (wait.length - tk))≤52001:=Nat.add_le_add (Nat.succ_le_succ hx) (Nat.le_trans (Nat.le_trans (Nat.le_add_left _ _) (Nat.le_of_eq (iJ (l:=wait) (k:=wait.length - tk)))) hT)
     have hj:=Nat.le_trans (fC (sep:=" ") (by decide)) t1
     have hk:(jq wait tk).length≤5:=by rw[q9 e];exact Nat.le_trans (Nat.sub_le _ _) hw
     have fk:=ae hk rfl
     have fk1:fits ((jq wait tk).length+1)=true:=ae (Nat.add_le_add_right hk 1) rfl
     have f1:fits (1+(B0 wait tk).length)=true:=by rw[vg e,aF,List.length_drop];exact ae (Nat.add_le_add_left (Nat.le_trans (Nat.sub_le _ _) hw) 1) rfl
     have jm:iA [] .join (.v (.str " ")) [.v (.list ([.str tx]++B0 wait tk))]=some (.v (.str (Str.join " " (tx::wait.drop (wait.length - tk)))),[]):=by
      rw[vg e];exact jC (ai t1 rfl) (by decide)
     have f2:=ae (Nat.add_le_add (Nat.le_refl 1) hj) rfl
     have f3:=aL (a:="("++Str.join " " (tx::wait.drop (wait.length - tk))) (b:=")") (ae (ag (ag (Nat.le_refl 1) hj) (Nat.le_refl 1)) rfl)
     have hst:du (rows,wait) tx (some (tk,pt))=if pt=1 then (rows,wait.take (wait.length - tk)++[Str.ofString "("++Str.join " " (tx::wait.drop (wait.length - tk))++Str.ofString ")"])else (rows++(wait.take (wait.length - tk)++[Str.ofString "("++Str.join " " (tx::wait.drop (wait.length - tk))++Str.ofString ")"]),[]):=if_neg (Nat.not_lt.mpr e)
     generalize Str.join " " (tx::wait.drop (wait.length - tk))=jn at *
     have hs4:jq wait tk++[.str (Str.ofString "("++jn++Str.ofString ")")]=sD (wait.take (wait.length - tk)++[Str.ofString "("++jn++Str.ofString ")"]):=by rw[pD e];exact d8
     have g3:fits ((sD rows).length+(jq wait tk++[D.str (Str.ofString "("++jn++Str.ofString ")")]).length)=true:=by
      rw[List.length_append,aF]
      exact ae (Nat.add_le_add (Nat.le_trans (Nat.le_add_right _ _) hr) (Nat.add_le_add_right hk 1)) rfl
     rw[hst]
     by_cases e3:pt=1
     · rw[if_pos e3]
       refine aH (g:=lfG cx m) [.f,.f,.p (.str jn),.f] ?_
       exact And.intro ⟨ne1_f e3,fk1,f3,f2,jm,f1,fw,fk,fw,fw,CU e,fw,rfl,trivial⟩ ⟨rfl,.inl rfl,SubL.drop (congrArg (λz=>lfZ steps (sD rows) z) hs4)⟩
     · rw[if_neg e3]
       refine aH (g:=lfG cx m) [.f,.f,.p (.str jn),.t] ?_
       exact And.intro ⟨g3,ne1_t e3,fk1,f3,f2,jm,f1,fw,fk,fw,fw,CU e,fw,rfl,trivial⟩ ⟨rfl,.inl rfl,SubL.drop (congrArg (λz=>lfZ steps z []) ((congrArg (sD rows++ ·) hs4).trans fO))⟩
theorem nS {n:Nat} {ids lids:List Str} {c:Sp→Option (Nat×Nat)} {l:List Sp} {led:Led} (hn:1≤n) (hl:l.length≤5) (hx:∀s∈l,(spS ids lids s).length≤2000):
 af cx n "_law_folded" [.v (.list (l.map λsp=>dI ids lids (c sp) sp))] led (.v (.list (sD ((bJ ids lids c l).1++(bJ ids lids c l).2)))) led:=by
 obtain⟨q,rfl⟩:=le_succ (one_le hn)
 have T:=aV (sc:=(dfD 137).sc) (is:=((l.map λsp=>dI ids lids (c sp) sp).map AV.v).map It.one) (c:=(lfG cx q).c) (n:=(lfG cx q).n) (t:=(bF (stB (dfD 137).body 2))) (body:=(bu (stB (dfD 137).body 2))) (λi=>lfA (.list (l.map λsp=>dI ids lids (c sp) sp)) (bJ ids lids c (l.take i))) (λ_=>[]) λi it hi=>by
  obtain⟨sp,hsp,rfl⟩:=ones hi
  have hb:=gJ hx i (c:=c)
  have h3:i≤5:=Nat.le_trans (Nat.le_of_lt (List.getElem?_eq_some_iff.mp hsp).1) hl
  rw[cR hsp,lU]
  exact Aq (Nat.le_trans hb.2 h3) (ai (Nat.le_trans (Nat.le_add_left _ _) (Nat.le_trans hb.1 (Nat.mul_le_mul_right 2004 h3))) rfl) (hx sp (List.mem_of_getElem? hsp))
 rw[yA]at T
 have hb:=(gJ hx l.length (c:=c)).2
 rw[List.take_length]at hb
 refine eD (d:=dfD 137) (mt:=[]) [.w .next (lfA (.list (l.map λsp=>dI ids lids (c sp) sp)) (bJ ids lids c l)) []] (by kernel_rfl) rfl ?_
 exact And.intro ⟨by rw[aF,aF];exact ae (Nat.le_trans hb hl) rfl,T,trivial⟩ (congrArg D.list fO)
end Mine
end
section
open PySem
namespace Mine
variable {cx:Cx}
theorem j9 {ks:List Vk}:(sD (kS ks)).length=ks.length:=by rw[aF];unfold kS;exact List.length_map ..
theorem Du:∀{ls:List Str} {ks:List Vk} {i:Nat} {it:It},(gC ((sD ls).map AV.v) ((sD (kS ks)).map AV.v))[i]? =some it→∃s k,ls[i]? =some s∧ks[i]? =some k∧it= .two (.v (.str s)) (.v (.str k.s))
 | [],ks,i,it,h=>by cases h
 | x::ls,[],i,it,h=>by cases h
 | x::ls,y::ks,0,it,h=>⟨x,y,rfl,rfl,(Option.some.inj (show some (It.two (.v (.str x)) (.v (.str y.s)))=some it from h)).symm⟩
 | x::ls,y::ks,i+1,it,h=>Du (ls:=ls) (ks:=ks) (i:=i) (it:=it) h
theorem qA:∀{ls:List Str} {ks:List Vk},(gC ((sD ls).map AV.v) ((sD (kS ks)).map AV.v)).length=min ls.length ks.length
 | [],ks=>(Nat.zero_min _).symm
 | x::ls,[]=>(Nat.min_zero _).symm
 | x::ls,y::ks=>(congrArg (· +1) (qA (ls:=ls) (ks:=ks))).trans (Nat.succ_min_succ _ _).symm
theorem sU:∀{l:List Str},kU l= !gi l
 | []=>rfl
 | s::l=>by
   show (!isE s || kU l)= !(isE s&&gi l)
   rw[sU (l:=l)];cases isE s<;>rfl
noncomputable def neE (s:Str):Option D:=if isE s then none else some (.str s)
theorem eq_nil {led:Led} {l:List Str}:kx led .Eq (.v (.list (l.filterMap neE))) (.v (.list []))=some (gi l):=by
 show eqD (.list (l.filterMap neE)) (.list [])=_
 induction l with
 | nil=>rfl
 | cons s l ih=>
   show _=some (isE s&&gi l)
   rw[List.filterMap_cons]
   unfold neE
   cases hs:isE s with
   | true=>exact ih
   | false=>rfl
noncomputable def cj (b:Bool) (ls:List Str) (ks rs:List Vk) (t:Str):Str:=match b with
 | true=>if gi ls=true then t else decls "param" ls ks t++aP "result" rs
 | false=>if gi ls=true then t++aP "local" ks else decls "local" ls ks t
theorem Gn {t w a k:Str}:t++ " ("++w++a++ " "++k++ ")"=t++(" ("++w++a++ " "++k++ ")"):=by simp only[dM]
noncomputable def tkL (k:Kn):D:= .tup [.list (sD (kS k.p)),.list (sD (kS k.r))]
noncomputable def FN (s:Str) (kind:Nat) (kn:Kn) (lids:List Str):Str:=cj true (lids.take kn.p.length) kn.p kn.r (dt s kind)
theorem m9 {w:Str}:∀{ls:List Str} {ks:List Vk} {acc:Str},decls w (ls.take ks.length) ks acc=decls w ls ks acc
 | [],ks,acc=>by rw[List.take_nil]
 | x::ls,[],acc=>by rw[List.length_nil,List.take_zero];rfl
 | x::ls,y::ks,acc=>m9 (ls:=ls) (ks:=ks) (acc:=acc++declS w x y)
theorem zW {s:Str} {kind:Nat} {kn:Kn} {locals:List Vk} {lids:List Str}:dq s kind kn locals lids=cj false (lids.drop kn.p.length) locals kn.r (FN s kind kn lids):=by
 unfold dq FN cj
 rw[sU,m9]
 cases gi (lids.take kn.p.length)<;>rfl
theorem jN {w:Str} {ls:List Str} {ks:List Vk} {t:Str} {n:Nat} (hw:w.length≤10) (hk:ks.length≤2) (ht:t.length≤n) (hls:∀s∈ls,s.length≤4):(decls w ls ks t).length≤n+2048:=
 Nat.le_trans (dA hw λx hx=>Nat.le_trans (hls x hx) (by decide)) (Nat.add_le_add ht (Nat.mul_le_mul_right 1024 hk))
theorem xF {b:Bool} {ls:List Str} {ks rs:List Vk} {t:Str} {n:Nat} (hk:ks.length≤2) (hr:rs.length≤2) (hls:∀s∈ls,s.length≤4) (ht:t.length≤n):(cj b ls ks rs t).length≤n+2048+50:=by
 have g1:=bI (w:="result") (.inr (.inl rfl)) hr
 have g2:=bI (w:="local") (.inr (.inr rfl)) hk
 unfold cj
 cases b<;>cases gi ls
 · exact Nat.le_trans (jN (by decide) hk ht hls) (Nat.le_add_right _ _)
 · exact Nat.le_trans (ag ht g2) (Nat.add_le_add_right (Nat.le_add_right _ _) _)
 · exact ag (jN (by decide) hk ht hls) g1
 · exact Nat.le_trans ht (Nat.le_trans (Nat.le_add_right _ _) (Nat.le_add_right _ _))
theorem Dc {l:List Str} {p q:List Vk} (h:l.length=p.length+q.length):List.take (bound (Int.ofNat (sD (kS p)).length+Int.ofNat (sD (kS q)).length) (sD l).length - bound (Int.ofNat (sD (kS p)).length) (sD l).length) (List.drop (bound (Int.ofNat (sD (kS p)).length) (sD l).length) (sD l))=sD (l.drop p.length):=by
 rw[j9,j9,aF]
 have e:bound (Int.ofNat p.length) l.length=p.length:=by show min p.length l.length=_;lia
 have e2:bound (Int.ofNat p.length+Int.ofNat q.length) l.length=l.length:=by show min (p.length+q.length) l.length=_;lia
 rw[e,e2]
 unfold sD
 rw[←List.map_drop,List.take_of_length_le (by rw[List.length_map,List.length_drop];lia)]
theorem Dd {l:List Str} {p q:List Vk} (h:l.length=p.length+q.length):List.take (bound (0+Int.ofNat (sD (kS p)).length) (sD l).length - bound 0 (sD l).length) (List.drop (bound 0 (sD l).length) (sD l))=sD (l.take p.length):=by
 rw[j9,aF]
 have e:bound 0 l.length=0:=by show min 0 l.length=_;lia
 have e2:bound (0+Int.ofNat p.length) l.length=p.length:=by rw[Int.zero_add];show min p.length l.length=_;lia
 rw[e,e2,List.drop_zero,Nat.sub_zero]
 unfold sD
 rw[List.map_take]
noncomputable def knL (ks:List Kn) (k:Nat):Kn:=ks.getD k ⟨[],[]⟩
noncomputable abbrev fuB (kind:Nat) (locals:List Vk) (body:List D):D:= .obj "Func" [("kind",.int kind),("locals",.tup (kD locals)),("body",.list body)]
theorem kn00:fU ⟨[],[]⟩:=⟨Nat.zero_le _,Nat.zero_le _⟩
theorem B3 {l:List Vk}:l.map (λk=>D.str k.s)=sD (kS l):=by unfold sD kS;rw[List.map_map];rfl
theorem FD {l:List Vk}:List.map AV.v (kD l)=l.map (λk=>AV.v k.D):=by unfold kD;rw[List.map_map];rfl
theorem lkN {n:Nat} (i:Nat) {led:Led} (h:i<4) (hn:1≤n):af cx n "_law_kind" [.v (.int (i:Int))] led (.v (.tup [(vk4 i).D,.str (vk4 i).s])) led:=by
 have:=bP (cx:=cx) (n:=n) (x:=(i:Int)) (led:=led) hn
 rcases lt4 h with rfl | rfl | rfl | rfl<;>exact this
noncomputable abbrev lhG (cx:Cx) (m:Nat):Eng:=g0w cx m [] (dfD 138)
noncomputable abbrev lhF:Stmt:=stB (dfD 138).body 4
noncomputable abbrev lhI:Stmt:=stB (bu lhF) 2
noncomputable abbrev lhL (ix fu ki na idd lid pa re ow:D) (t:Str) (more:Loc):Loc:=
 ("index",.v ix)::("func",.v fu)::("kinds",.v ki)::("names",.v na)::("ids",.v idd)::("local_ids",.v lid)::("params",.v pa)::("results",.v re)::("own",.v ow)::("text",.v (.str t))::more
noncomputable abbrev lhW (w:Str) (so fi to:D):Loc:=[("word",.v (.str w)),("some",.v so),("first",.v fi),("told",.v to)]
section
variable {m:Nat} {ix fu ki na idd lid pa re ow fi:D} {t:Str}
theorem vK {w:Str} {xs:List D} {ls:List Str} {ks:List Vk} (q:xs=sD ls) (hw:w.length≤10) (hls:∀s∈ls,s.length≤4) (hk:ks.length≤2) (ht:t.length≤6000):
 bf (lhG cx m).c (lhG cx m).n (lhG cx m).sc (bF lhI) (bu lhI) (gC (xs.map AV.v) ((sD (kS ks)).map AV.v)) (lhL ix fu ki na idd lid pa re ow t (lhW w (.list (sD (kS ks))) fi (.list xs))) [] .next (lhL ix fu ki na idd lid pa re ow (decls w ls ks t) (lhW w (.list (sD (kS ks))) fi (.list xs))) []:=by
 have T:=aV (sc:=(dfD 138).sc) (is:=gC (xs.map AV.v) ((sD (kS ks)).map AV.v)) (c:=(lhG cx m).c) (n:=(lhG cx m).n) (t:=(bF lhI)) (body:=(bu lhI)) (λj=>lhL ix fu ki na idd lid pa re ow (decls w (ls.take j) (ks.take j) t) (lhW w (.list (sD (kS ks))) fi (.list xs))) (λ_=>[]) λj it hj=>by
  rw[q]at hj
  obtain⟨s,k,q1,q2,rfl⟩:=Du hj
  rw[fZ q1 q2]
  have b1:=hls s (List.mem_of_getElem? q1)
  have ht:=jN (w:=w) (ls:=ls.take j) (ks:=ks.take j) hw (by rw[List.length_take];exact Nat.le_trans (Nat.min_le_right _ _) hk) ht λx hx=>hls x (List.mem_of_mem_take hx)
  generalize decls w (ls.take j) (ks.take j) t=t at *
  have hk:=iI k
  have ha:=Nat.le_trans (eu s) (Nat.succ_le_succ b1)
  have F:=aL (a:=t++ " ("++w++ahead s++ " "++k.s) (b:=")") (ae (ag (ag (ag (ag (ag (ag ht (Nat.le_refl 2)) hw) ha) (Nat.le_refl 1)) hk) (Nat.le_refl 1)) rfl)
  rw[show t++declS w s k=t++ " ("++w++ahead s++ " "++k.s++ ")" from Gn.symm]
  cases e:isE s with
  | true=>
    rw[iq (congrArg (!·) e)]at F ⊢
    refine aH (g:=lhG cx m) [.f] ?_
    refine And.intro ?_ ⟨rfl,.inl rfl,SubL.drop rfl⟩
    exact⟨F,aa F,aa (aa F),aa (aa (aa F)),congrArg (!·) e,aa (aa (aa (aa F))),aa (aa (aa (aa (aa F)))),trivial⟩
  | false=>
    rw[ip (congrArg (!·) e)]at F ⊢
    refine aH (g:=lhG cx m) [.t] ?_
    refine And.intro ?_ ⟨rfl,.inl rfl,SubL.drop rfl⟩
    exact⟨F,aa F,aa (aa F),aa (aa (aa F)),ae (Nat.add_le_add_left b1 1) rfl,congrArg (!·) e,aa (aa (aa (aa F))),aa (aa (aa (aa (aa F)))),trivial⟩
 rw[q,qA,ic]at T
 subst q
 exact T
end
end Mine
end
section
open PySem
namespace Mine
variable {cx:Cx}
noncomputable abbrev De (l:List Str) (f:Int) (ks:List Vk):List D:=List.take (bound (f+Int.ofNat (sD (kS ks)).length) (sD l).length - bound f (sD l).length) (List.drop (bound f (sD l).length) (sD l))
noncomputable def hdW (b:Bool):Str:=if b then "param" else "local"
theorem vJ {m:Nat} {ix fu ki na idd pa ow:D} {t:Str} {lids ls:List Str} {ks rs:List Vk} {f:Int} {b:Bool} (hm:1≤m) (q:De lids f ks=sD ls) (hll:lids.length≤1000) (hls:∀s∈ls,s.length≤4) (hl:ls.length≤1000) (hk:ks.length≤2) (hr:rs.length≤2) (ht:t.length≤6000):
 ∃fl l1 led1,(led1=[]∧(fl= .next∨fl= .cont)∧SubL (lhL ix fu ki na idd (.list (sD lids)) pa (.list (sD (kS rs))) ow (cj b ls ks rs t) []) l1)∧
 bA (lhG cx m).c (lhG cx m).n (lhG cx m).sc (bF lhF) (bu lhF) (.one (.v (.tup [.str (hdW b),.list (sD (kS ks)),.int f]))) (lhL ix fu ki na idd (.list (sD lids)) pa (.list (sD (kS rs))) ow t []) [] fl l1 led1:=by
 have fl:=cn hll
 have fk:fits (sD (kS ks)).length=true:=by rw[j9];exact ae hk rfl
 have ff:fits (ls.filterMap neE).length=true:=ae (Nat.le_trans (List.length_filterMap_le ..) hl) rfl
 have qv:(De lids f ks).map AV.v=ls.map λs=>AV.v (.str s):=by rw[q];exact tn
 cases b<;>cases e:gi ls
 · refine aH (g:=lhG cx m) [.q (ls.filterMap neE),.c false,.f,.w .next (lhL ix fu ki na idd (.list (sD lids)) pa (.list (sD (kS rs))) ow (decls "local" ls ks t) (lhW "local" (.list (sD (kS ks))) (.int f) (.list (De lids f ks)))) []] ?_
   exact And.intro ⟨dj (Nat.le_trans (Nat.add_le_add_right (jN (by decide) hk ht hls) 0) (by decide)),vK q (by decide) hls hk ht,rfl,(eq_nil (led:=[]) (l:=ls)).trans (congrArg some e),ff,gz (A:=λs=>AV.v (.str s)) (f:=neE) rfl qv (λs _=>by unfold neE;cases h:isE s with | true=>exact⟨[.f],show (_∧True)∧_∧_ from ⟨⟨congrArg (!·) h,trivial⟩,rfl,rfl⟩⟩ | false=>exact⟨[.t],show (_∧True)∧_∧_ from ⟨⟨congrArg (!·) h,trivial⟩,rfl,rfl⟩⟩),fl,fk,trivial⟩ ⟨rfl,.inl rfl,by unfold cj;rw[e];exact SubL.drop (congrArg (λz=>lhL ix fu ki na idd (.list (sD lids)) pa (.list (sD (kS rs))) ow z []) wA)⟩
 · refine aH (g:=lhG cx m) [.q (ls.filterMap neE),.c true,.t,.p (.str (aP "local" ks))] ?_
   exact And.intro ⟨ae (Nat.add_le_add ht (bI (.inr (.inr rfl)) hk)) rfl,eQ hm (.inr (.inr rfl)) hk,rfl,(eq_nil (led:=[]) (l:=ls)).trans (congrArg some e),ff,gz (A:=λs=>AV.v (.str s)) (f:=neE) rfl qv (λs _=>by unfold neE;cases h:isE s with | true=>exact⟨[.f],show (_∧True)∧_∧_ from ⟨⟨congrArg (!·) h,trivial⟩,rfl,rfl⟩⟩ | false=>exact⟨[.t],show (_∧True)∧_∧_ from ⟨⟨congrArg (!·) h,trivial⟩,rfl,rfl⟩⟩),fl,fk,trivial⟩ ⟨rfl,.inr rfl,by unfold cj;rw[e];exact SubL.drop rfl⟩
 · refine aH (g:=lhG cx m) [.q (ls.filterMap neE),.c false,.f,.w .next (lhL ix fu ki na idd (.list (sD lids)) pa (.list (sD (kS rs))) ow (decls "param" ls ks t) (lhW "param" (.list (sD (kS ks))) (.int f) (.list (De lids f ks)))) [],.p (.str (aP "result" rs))] ?_
   exact And.intro ⟨dj (Nat.le_trans (Nat.add_le_add (jN (by decide) hk ht hls) (bI (.inr (.inl rfl)) hr)) (by decide)),eQ hm (.inr (.inl rfl)) hr,vK q (by decide) hls hk ht,rfl,(eq_nil (led:=[]) (l:=ls)).trans (congrArg some e),ff,gz (A:=λs=>AV.v (.str s)) (f:=neE) rfl qv (λs _=>by unfold neE;cases h:isE s with | true=>exact⟨[.f],show (_∧True)∧_∧_ from ⟨⟨congrArg (!·) h,trivial⟩,rfl,rfl⟩⟩ | false=>exact⟨[.t],show (_∧True)∧_∧_ from ⟨⟨congrArg (!·) h,trivial⟩,rfl,rfl⟩⟩),fl,fk,trivial⟩ ⟨rfl,.inl rfl,by unfold cj;rw[e];exact SubL.drop rfl⟩
 · refine aH (g:=lhG cx m) [.q (ls.filterMap neE),.c true,.t] ?_
   exact And.intro ⟨ae (Nat.add_le_add_right ht 0) rfl,rfl,(eq_nil (led:=[]) (l:=ls)).trans (congrArg some e),ff,gz (A:=λs=>AV.v (.str s)) (f:=neE) rfl qv (λs _=>by unfold neE;cases h:isE s with | true=>exact⟨[.f],show (_∧True)∧_∧_ from ⟨⟨congrArg (!·) h,trivial⟩,rfl,rfl⟩⟩ | false=>exact⟨[.t],show (_∧True)∧_∧_ from ⟨⟨congrArg (!·) h,trivial⟩,rfl,rfl⟩⟩),fl,fk,trivial⟩ ⟨rfl,.inr rfl,by unfold cj;rw[e];exact SubL.drop (congrArg (λz=>lhL ix fu ki na idd (.list (sD lids)) pa (.list (sD (kS rs))) ow z []) wA)⟩
end Mine
end
section
open PySem
namespace Mine
variable {cx:Cx}
theorem pQ {m:Nat} {ix fu ki na idd:D} {t:Str} {lids:List Str} {p q rs:List Vk} (hm:1≤m) (hl:lids.length=p.length+q.length) (hls:∀s∈lids,s.length≤4) (hp:p.length≤2) (hq:q.length≤2) (hr:rs.length≤2) (ht:t.length≤3000):
 bf (lhG cx m).c (lhG cx m).n (lhG cx m).sc (bF lhF) (bu lhF) [.one (.v (.tup [.str "param",.list (sD (kS p)),.int 0])),.one (.v (.tup [.str "local",.list (sD (kS q)),.int (Int.ofNat (sD (kS p)).length)]))] (lhL ix fu ki na idd (.list (sD lids)) (.list (sD (kS p))) (.list (sD (kS rs))) (.list (sD (kS q))) t []) [] .next (lhL ix fu ki na idd (.list (sD lids)) (.list (sD (kS p))) (.list (sD (kS rs))) (.list (sD (kS q))) (cj false (lids.drop p.length) q rs (cj true (lids.take p.length) p rs t)) []) []:=by
 have h1:lids.length≤1000:=by rw[hl];exact ai (Nat.add_le_add hp hq) rfl
 have g1:∀s∈lids.take p.length,s.length≤4:=λs h=>hls s (List.mem_of_mem_take h)
 have g2:∀s∈lids.drop p.length,s.length≤4:=λs h=>hls s (List.mem_of_mem_drop h)
 have k1:(lids.take p.length).length≤1000:=by rw[List.length_take];exact Nat.le_trans (Nat.min_le_right _ _) h1
 have k2:(lids.drop p.length).length≤1000:=by rw[List.length_drop];exact Nat.le_trans (Nat.sub_le _ _) h1
 have ht1:=xF (b:=true) hp hr g1 ht
 exact aV (sc:=(dfD 138).sc) (is:=[.one (.v (.tup [.str "param",.list (sD (kS p)),.int 0])),.one (.v (.tup [.str "local",.list (sD (kS q)),.int (Int.ofNat (sD (kS p)).length)]))]) (c:=(lhG cx m).c) (n:=(lhG cx m).n) (t:=(bF lhF)) (body:=(bu lhF)) (λi=>lhL ix fu ki na idd (.list (sD lids)) (.list (sD (kS p))) (.list (sD (kS rs))) (.list (sD (kS q))) (match i with | 0=>t | 1=>cj true (lids.take p.length) p rs t | _=>cj false (lids.drop p.length) q rs (cj true (lids.take p.length) p rs t)) []) (λ_=>[]) λi it hi=>by
  match i,hi with
  | 0,hi=>obtain rfl:=Option.some.inj hi;exact vJ (b:=true) hm (Dd hl) h1 g1 k1 hp hr (ai ht rfl)
  | 1,hi=>obtain rfl:=Option.some.inj hi;exact vJ (b:=false) hm (Dc hl) h1 g2 k2 hq hr (ai ht1 rfl)
theorem pP {m:Nat} {elt:Expr} {sc:Scope} {x:Str} {loc:Loc} {led:Led} {l:List Vk} (hc:cp (lhG cx m).sc sc x=true)
 (h:∀a∈l,∃ad,gm (xE fuel {lhG cx m with sc:=sc}) elt [] sc x loc (.v a.D) led (λo l=>tell (o=some (.str a.s)∧l=led)) ad True):cH cx m sc loc elt [] x ((kD l).map AV.v) led (sD (kS l)) led:=by
 rw[←B3];exact cw (g:=lhG cx m) (A:=λ(k:Vk)=>AV.v k.D) (f:=λk=>D.str k.s) hc FD h
theorem rK {n i kind:Nat} {locals:List Vk} {body:List D} {ks:List Kn} {ids lids:List Str} {args:List AV} {led led1:Led} (ha:bH args led=some ([.int i,fuB kind locals body,.list (ks.map knD),.list (ks.map tkL),.list (sD ids),.list (sD lids)],led1)) (hn:3≤n) (hi:i<ids.length) (hk:kind<4) (hks:ks.length≤3) (hko:∀k∈ks,fU k) (hlo:locals.length≤2)
 (hil:ids.length≤10) (hids:∀s∈ids,s.length≤4) (hl:lids.length=(knL ks kind).p.length+locals.length) (hls:∀s∈lids,s.length≤4):
 af cx n "_law_head" args led (.v (.str (dq (dS ids i) kind (knL ks kind) locals lids))) led1:=by
 rw[zW]
 unfold FN dt
 have it:=item_at (jE hi) (Nat.le_trans (Nat.le_of_lt hi) (Nat.le_trans hil (by decide)))
 have e3:=fD (i:=i) hids
 have hw:=bQ (Nat.lt_of_lt_of_le hk (by decide:4≤10))
 have hH:("(func"++ahead (dS ids i)++ " (type "++ao kind++ ")").length≤100:=ai (ag (ag (ag (ag (Nat.le_refl 5) (Nat.le_trans (eu _) (Nat.succ_le_succ e3))) (Nat.le_refl 7)) hw) (Nat.le_refl 1)) rfl
 have F:=aL (a:="(func"++ahead (dS ids i)++ " (type "++ao kind) (b:=")") (ae hH rfl)
 have fk:=aq (f:=knD) hks rfl
 have sk:=aW (Nat.le_of_lt hk) rfl
 have fo:fits (sD (kS locals)).length=true:=by rw[j9];exact ae hlo rfl
 obtain⟨q,rfl⟩:=le_succ (one_le hn)
 have h2:1≤q:=Nat.le_trans (by decide) (Nat.le_of_succ_le_succ hn)
 generalize dS ids i=s at *
 cases hkn:ks[kind]? with
 | none=>
   have hge:ks.length≤kind:=by
    rcases Nat.lt_or_ge kind ks.length with h | h
    · rw[List.getElem?_eq_getElem h]at hkn;cases hkn
    · exact h
   have e:knL ks kind=⟨[],[]⟩:=by unfold knL;rw[List.getD_eq_getElem?_getD,hkn];rfl
   rw[e]at hl ⊢
   have c2:decide ((kind:Int)<Int.ofNat (List.map knD ks).length)=false:=decide_eq_false (by rw[List.length_map];exact λz=>Nat.not_lt.mpr hge (Int.ofNat_lt.mp z))
   have fp:fits (sD (kS [])).length=true:=rfl
   have hp:([]:List Vk).length≤2:=by decide
   have hr:=hp
   cases e:isE s with
   | true=>
     rw[iq (congrArg (!·) e)]at F hH ⊢
     refine eD (d:=dfD 138) (mt:=[]) [.f,.f,.q (sD (kS locals)),.i (.str s),.f,.w .next (lhL (.int i) (fuB kind locals body) (.list (ks.map knD)) (.list (ks.map tkL)) (.list (sD ids)) (.list (sD lids)) (.list (sD (kS []))) (.list (sD (kS []))) (.list (sD (kS locals))) (cj false (lids.drop ([]:List Vk).length) locals [] (cj true (lids.take ([]:List Vk).length) [] [] ("(func"++ ""++ " (type "++ao kind++ ")"))) []) []] (by kernel_rfl) ha ?_
     refine And.intro ?_ rfl
     exact⟨pQ h2 hl hls hp hlo hr (ai hH rfl),fp,F,aa F,sk,aa (aa F),aa (aa (aa F)),congrArg (!·) e,it,fo,pP rfl (λk _=>by cases k with | a=>exact⟨[.p (vkT 0)],show (_∧True)∧_∧_ from ⟨⟨lkN 0 (by decide) h2,trivial⟩,rfl,rfl⟩⟩ | b=>exact⟨[.p (vkT 1)],show (_∧True)∧_∧_ from ⟨⟨lkN 1 (by decide) h2,trivial⟩,rfl,rfl⟩⟩ | c=>exact⟨[.p (vkT 2)],show (_∧True)∧_∧_ from ⟨⟨lkN 2 (by decide) h2,trivial⟩,rfl,rfl⟩⟩ | d=>exact⟨[.p (vkT 3)],show (_∧True)∧_∧_ from ⟨⟨lkN 3 (by decide) h2,trivial⟩,rfl,rfl⟩⟩),c2,fk,c2,fk,trivial⟩
   | false=>
     rw[ip (congrArg (!·) e)]at F hH ⊢
     refine eD (d:=dfD 138) (mt:=[]) [.f,.f,.q (sD (kS locals)),.i (.str s),.t,.i (.str s),.w .next (lhL (.int i) (fuB kind locals body) (.list (ks.map knD)) (.list (ks.map tkL)) (.list (sD ids)) (.list (sD lids)) (.list (sD (kS []))) (.list (sD (kS []))) (.list (sD (kS locals))) (cj false (lids.drop ([]:List Vk).length) locals [] (cj true (lids.take ([]:List Vk).length) [] [] ("(func"++(" "++s)++ " (type "++ao kind++ ")"))) []) []] (by kernel_rfl) ha ?_
     refine And.intro ?_ rfl
     exact⟨pQ h2 hl hls hp hlo hr (ai hH rfl),fp,F,aa F,sk,aa (aa F),aa (aa (aa F)),ae (Nat.add_le_add_left e3 1) rfl,it,congrArg (!·) e,it,fo,pP rfl (λk _=>by cases k with | a=>exact⟨[.p (vkT 0)],show (_∧True)∧_∧_ from ⟨⟨lkN 0 (by decide) h2,trivial⟩,rfl,rfl⟩⟩ | b=>exact⟨[.p (vkT 1)],show (_∧True)∧_∧_ from ⟨⟨lkN 1 (by decide) h2,trivial⟩,rfl,rfl⟩⟩ | c=>exact⟨[.p (vkT 2)],show (_∧True)∧_∧_ from ⟨⟨lkN 2 (by decide) h2,trivial⟩,rfl,rfl⟩⟩ | d=>exact⟨[.p (vkT 3)],show (_∧True)∧_∧_ from ⟨⟨lkN 3 (by decide) h2,trivial⟩,rfl,rfl⟩⟩),c2,fk,c2,fk,trivial⟩
 | some kn=>
   have hlt:kind<ks.length:=(List.getElem?_eq_some_iff.mp hkn).1
   have e:knL ks kind=kn:=by unfold knL;rw[List.getD_eq_getElem?_getD,hkn];rfl
   have it2:item (.list (ks.map tkL)) (.int (kind:Int))=some (tkL kn):=item_list (ai (Nat.le_of_lt hk) rfl) (by rw[List.getElem?_map,hkn];rfl)
   rw[e]at hl ⊢
   have c2:decide ((kind:Int)<Int.ofNat (List.map knD ks).length)=true:=decide_eq_true (by rw[List.length_map];exact Int.ofNat_lt.mpr hlt)
   obtain⟨hp,hr⟩:=hko kn (List.mem_of_getElem? hkn)
   have fp:fits (sD (kS kn.p)).length=true:=by rw[j9];exact ae hp rfl
   cases e:isE s with
   | true=>
     rw[iq (congrArg (!·) e)]at F hH ⊢
     refine eD (d:=dfD 138) (mt:=[]) [.t,.i (tkL kn),.t,.i (tkL kn),.q (sD (kS locals)),.i (.str s),.f,.w .next (lhL (.int i) (fuB kind locals body) (.list (ks.map knD)) (.list (ks.map tkL)) (.list (sD ids)) (.list (sD lids)) (.list (sD (kS kn.p))) (.list (sD (kS kn.r))) (.list (sD (kS locals))) (cj false (lids.drop kn.p.length) locals kn.r (cj true (lids.take kn.p.length) kn.p kn.r ("(func"++ ""++ " (type "++ao kind++ ")"))) []) []] (by kernel_rfl) ha ?_
     refine And.intro ?_ rfl
     exact⟨pQ h2 hl hls hp hlo hr (ai hH rfl),fp,F,aa F,sk,aa (aa F),aa (aa (aa F)),congrArg (!·) e,it,fo,pP rfl (λk _=>by cases k with | a=>exact⟨[.p (vkT 0)],show (_∧True)∧_∧_ from ⟨⟨lkN 0 (by decide) h2,trivial⟩,rfl,rfl⟩⟩ | b=>exact⟨[.p (vkT 1)],show (_∧True)∧_∧_ from ⟨⟨lkN 1 (by decide) h2,trivial⟩,rfl,rfl⟩⟩ | c=>exact⟨[.p (vkT 2)],show (_∧True)∧_∧_ from ⟨⟨lkN 2 (by decide) h2,trivial⟩,rfl,rfl⟩⟩ | d=>exact⟨[.p (vkT 3)],show (_∧True)∧_∧_ from ⟨⟨lkN 3 (by decide) h2,trivial⟩,rfl,rfl⟩⟩),it2,c2,fk,it2,c2,fk,trivial⟩
   | false=>
     rw[ip (congrArg (!·) e)]at F hH ⊢
     refine eD (d:=dfD 138) (mt:=[]) [.t,.i (tkL kn),.t,.i (tkL kn),.q (sD (kS locals)),.i (.str s),.t,.i (.str s),.w .next (lhL (.int i) (fuB kind locals body) (.list (ks.map knD)) (.list (ks.map tkL)) (.list (sD ids)) (.list (sD lids)) (.list (sD (kS kn.p))) (.list (sD (kS kn.r))) (.list (sD (kS locals))) (cj false (lids.drop kn.p.length) locals kn.r (cj true (lids.take kn.p.length) kn.p kn.r ("(func"++(" "++s)++ " (type "++ao kind++ ")"))) []) []] (by kernel_rfl) ha ?_
     refine And.intro ?_ rfl
     exact⟨pQ h2 hl hls hp hlo hr (ai hH rfl),fp,F,aa F,sk,aa (aa F),aa (aa (aa F)),ae (Nat.add_le_add_left e3 1) rfl,it,congrArg (!·) e,it,fo,pP rfl (λk _=>by cases k with | a=>exact⟨[.p (vkT 0)],show (_∧True)∧_∧_ from ⟨⟨lkN 0 (by decide) h2,trivial⟩,rfl,rfl⟩⟩ | b=>exact⟨[.p (vkT 1)],show (_∧True)∧_∧_ from ⟨⟨lkN 1 (by decide) h2,trivial⟩,rfl,rfl⟩⟩ | c=>exact⟨[.p (vkT 2)],show (_∧True)∧_∧_ from ⟨⟨lkN 2 (by decide) h2,trivial⟩,rfl,rfl⟩⟩ | d=>exact⟨[.p (vkT 3)],show (_∧True)∧_∧_ from ⟨⟨lkN 3 (by decide) h2,trivial⟩,rfl,rfl⟩⟩),it2,c2,fk,it2,c2,fk,trivial⟩
end Mine
end
section
open PySem
namespace Mine
variable {cx:Cx}
noncomputable abbrev rl (s:List Int) (i:Nat) (st:AV) (k2 k3 k4:LO) (ta me gl ex el da:List D) (cu:LO) (rest:Led) (rows:List Str):Led:=
 cg s i::moL st::k2::k3::k4:: .list ta:: .list me:: .list gl:: .list ex:: .list el:: .list da::cu::(rest++[.list (sD rows)])
section
variable {a0 a1 a2 a3 a4 a5 a6 a7 a8 a9 a10 a11 o o2:LO} {l:Led}
theorem cq:(a0::a1::a2::a3::a4::a5::a6::a7::a8::a9::a10::a11::(l++[o]))[l.length+12]? =some o:=gf
theorem pA:∀{l:Led},List.set (l++[o]) l.length o2=l++[o2]
 | []=>rfl
 | x::l=>congrArg (x:: ·) (pA (l:=l))
theorem ez {rows:List Str} {t:Str}:put (a0::a1::a2::a3::a4::a5::a6::a7::a8::a9::a10::a11::(l++[o])) (l.length+12) (.list (sD rows++[.str t]))=a0::a1::a2::a3::a4::a5::a6::a7::a8::a9::a10::a11::(l++[.list (sD (rows++[t]))]):=by
 rw[←fO]
 exact congrArg (λl=>a0::a1::a2::a3::a4::a5::a6::a7::a8::a9::a10::a11::l) pA
end
noncomputable abbrev b4 (ids:List Str) (r:Nat):Loc:=[("pen",.r 0),("module",.r 1),("ids",.v (.list (sD ids))),("rows",.r (r+12))]
noncomputable abbrev b5 (ids:List Str) (r:Nat) (x:Int):Loc:=[("pen",.r 0),("module",.r 1),("ids",.v (.list (sD ids))),("rows",.r (r+12)),("x",.v (.int x))]
noncomputable abbrev gR (cx:Cx) (mm:Nat):Eng:=g0w cx mm ["rows"] (dfD 139)
noncomputable abbrev rst (j:Nat):Stmt:=stB (dfD 139).body j
noncomputable def pq (p:Nat×Nat):Str:="(table "++eN p.1 p.2++ " funcref)"
noncomputable def tT (p:Nat×Nat):Str:="(memory "++eN p.1 p.2++ ")"
noncomputable def bg (x:Int):List (Nat×Nat):=match md x 2 with | 0=>[(md (x.fdiv 2) 3,md ((x.fdiv 2).fdiv 3) 3)] | _=>[]
noncomputable def bC (x:Int):List (Nat×Nat):=match md (x.fdiv 2) 2 with | 0=>[(md (x.fdiv 4) 3,md ((x.fdiv 4).fdiv 3) 3)] | _=>[]
noncomputable def bR (x:Int):Option Nat:=match md (x.fdiv 240) 2 with | 0=>none | _=>some (md (x.fdiv 480) 4)
section
variable {s:List Int} {i:Nat} {st:AV} {k2 k3 k4 cu:LO} {ta me gl ex el da:List D} {rest:Led} {rows ids:List Str} {mm:Nat} {x:Int}
theorem E7 (hmm:1≤mm) (hr:rows.length≤20):StR (gR cx mm).c (gR cx mm).n (gR cx mm).sc (rst 2) (b5 ids rest.length x) (rl s i st k2 k3 k4 [] me gl ex el da cu rest rows) .next (b5 ids rest.length x) (rl s i st k2 k3 k4 ((bg x).map tbD) me gl ex el da cu rest (rows++(bg x).map pq)):=by
 unfold bg
 rcases lt2 (aj (x:=x) (m:=2) (by decide))with q | q<;>rw[q]
 · have F:=aL (a:="(table "++eN (md (x.fdiv 2) 3) (md ((x.fdiv 2).fdiv 3) 3)) (b:=" funcref)") (ae (ag (ag (Nat.le_refl 7) Cr) (Nat.le_refl 9)) rfl)
   refine kA (g:=gR cx mm) [.b (.int ((0:Nat):Int)),.p (Cq (x.fdiv 2)),.k .list,.o (.list []),.k .list,.o (.list (sD rows))] ?_
   exact And.intro ⟨aM hr rfl,cq,F,aa F,aZ cq,rfl,rfl,rfl,dF hmm,d3 (m:=2) (by decide) q,trivial⟩ ⟨⟨rfl,ez⟩,SubL.drop rfl⟩
 · refine kA (g:=gR cx mm) [.b (.int ((1:Nat):Int))] ?_
   exact And.intro ⟨d3 (m:=2) (by decide) q,trivial⟩ ⟨⟨rfl,congrArg (λz=>rl s i st k2 k3 k4 [] me gl ex el da cu rest z) (List.append_nil _).symm⟩,SubL.drop rfl⟩
theorem E6 (hmm:1≤mm) (hr:rows.length≤20):StR (gR cx mm).c (gR cx mm).n (gR cx mm).sc (rst 3) (b5 ids rest.length x) (rl s i st k2 k3 k4 ta [] gl ex el da cu rest rows) .next (b5 ids rest.length x) (rl s i st k2 k3 k4 ta ((bC x).map meD) gl ex el da cu rest (rows++(bC x).map tT)):=by
 unfold bC
 rcases lt2 (aj (x:=x.fdiv 2) (m:=2) (by decide))with q | q<;>rw[q]
 · have F:=aL (a:="(memory "++eN (md (x.fdiv 4) 3) (md ((x.fdiv 4).fdiv 3) 3)) (b:=")") (ae (ag (ag (Nat.le_refl 8) Cr) (Nat.le_refl 1)) rfl)
   refine kA (g:=gR cx mm) [.b (.int (x.fdiv 2)),.b (.int ((0:Nat):Int)),.p (Cq (x.fdiv 4)),.k .list,.o (.list []),.k .list,.o (.list (sD rows))] ?_
   exact And.intro ⟨aM hr rfl,cq,F,aa F,aZ cq,rfl,rfl,rfl,dF hmm,d3 (m:=2) (by decide) q,rfl,trivial⟩ ⟨⟨rfl,ez⟩,SubL.drop rfl⟩
 · refine kA (g:=gR cx mm) [.b (.int (x.fdiv 2)),.b (.int ((1:Nat):Int))] ?_
   exact And.intro ⟨d3 (m:=2) (by decide) q,rfl,trivial⟩ ⟨⟨rfl,congrArg (λz=>rl s i st k2 k3 k4 ta [] gl ex el da cu rest z) (List.append_nil _).symm⟩,SubL.drop rfl⟩
theorem E3 (hmm:1≤mm) (hr:rows.length≤20) (hil:ids.length≤10) (hids:∀s∈ids,s.length≤4):StR (gR cx mm).c (gR cx mm).n (gR cx mm).sc (rst 7) (b5 ids rest.length x) (rl s i (.v .none) k2 k3 k4 ta me gl ex el da cu rest rows) .next (b4 ids rest.length) (rl s i (.v (stD (bR x))) k2 k3 k4 ta me gl ex el da cu rest (rows++stS ids (bR x))):=by
 unfold bR
 rcases lt2 (aj (x:=x.fdiv 240) (m:=2) (by decide))with q | q<;>rw[q]
 · refine kA (g:=gR cx mm) [.b (.int (x.fdiv 240)),.b (.int ((0:Nat):Int))] ?_
   exact And.intro ⟨d3 (m:=2) (by decide) q,rfl,trivial⟩ ⟨⟨rfl,congrArg (λz=>rl s i (.v .none) k2 k3 k4 ta me gl ex el da cu rest z) (List.append_nil _).symm⟩,SubL.drop rfl⟩
 · have h4:=Nat.lt_of_lt_of_le (aj (x:=x.fdiv 480) (m:=4) (by decide)) (by decide:4≤10)
   have F:=aL (a:="(start "++aD ids (md (x.fdiv 480) 4)) (b:=")") (ae (ag (ag (Nat.le_refl 7) (aY hids h4)) (Nat.le_refl 1)) rfl)
   refine kA (g:=gR cx mm) [.b (.int (x.fdiv 240)),.b (.int ((1:Nat):Int)),.b (.int (x.fdiv 480)),.b (.int (md (x.fdiv 480) 4:Nat)),.k .list,.p (.str (aD ids (md (x.fdiv 480) 4))),.o (.list (sD rows))] ?_
   exact And.intro ⟨aM hr rfl,cq,F,aa F,bx hmm (ai hil rfl) (ai (Nat.le_of_lt h4) rfl),aZ cq,cz (by decide),rfl,d3 (m:=2) (by decide) q,rfl,trivial⟩ ⟨⟨rfl,ez⟩,SubL.drop rfl⟩
end
end Mine
end
section
open PySem
namespace Mine
variable {cx:Cx}
noncomputable def ua (y:Int):Gl:=⟨pk y,md (y.fdiv 4) 2,md (y.fdiv 8) 5⟩
noncomputable def b7 (s:List Int) (i j:Nat):List Gl:=(List.range j).map λt=>ua (nx s (i+t))
theorem eC {α:Type} {f:Nat→α} {j:Nat}:(List.range (j+1)).map f=(List.range j).map f++[f j]:=by rw[List.range_succ,List.map_append];rfl
theorem cU {α:Type} {f:Nat→α} {j:Nat}:((List.range j).map f).length=j:=by rw[List.length_map,List.length_range]
theorem vY {y:Int}:FV (ua y):=⟨aj (by decide),aj (by decide)⟩
theorem mY {n:Nat} {p q r:D} {led:Led} (hn:1≤n):af cx n "Global" [.v p,.v q,.v r] led (.v (.obj "Global" [("kind",p),("mutable",q),("body",r)])) led:=by
 refine uj (y:="Global") (d:=dfM 76 0) (mt:=[]) [] (by kernel_rfl) rfl (one_le hn) λm1 hm=>?_
 exact And.intro trivial rfl
noncomputable def uf (x:Int) (t:Nat):Xp:=⟨md (x.fdiv 3+(t:Int)) 5,md (x.fdiv 15) 4,md (x.fdiv 60) 4⟩
noncomputable def cD (x:Int) (j:Nat):List Xp:=(List.range j).map (uf x)
theorem wi {x:Int} {t:Nat}:Ge (uf x t):=⟨aj (by decide),aj (by decide),aj (by decide)⟩
section
variable {s:List Int} {i t:Nat} {st:AV} {k2 k3 k4 cu:LO} {ta me gl ex el da:List D} {rest:Led} {rows ids:List Str} {mm:Nat} {x:Int}
theorem BS (hmm:1≤mm) (hs:s.length≤63) (hi:i≤1000) (hr:rows.length≤20) (hg:gl.length≤3):
 ∃f l1 led1,(led1=rl s (i+1) st k2 k3 k4 ta me (gl++[glD (ua (nx s i))]) ex el da cu rest (rows++[glS (ua (nx s i))])∧(f= .next∨f= .cont)∧SubL (b4 ids rest.length) l1)∧
 bA cx mm (dfD 139).sc (bF (rst 4)) (bu (rst 4)) (.one (.v (.int (t:Int)))) (b4 ids rest.length) (rl s i st k2 k3 k4 ta me gl ex el da cu rest rows) f l1 led1:=by
 have hnext:=fq (cx:=cx) (n:=mm) (i:=i) (s:=s) (l:=moL st::k2::k3::k4:: .list ta:: .list me:: .list gl:: .list ex:: .list el:: .list da::cu::(rest++[.list (sD rows)])) hmm hs hi
 have hL:=pY (vY (y:=nx s i))
 have mb:=cz (x:=(nx s i).fdiv 4) (m:=2) (by decide)
 unfold glS ua at hL
 unfold glD glS ua
 dsimp only at hL ⊢
 have F:=aL (ae hL rfl)
 clear hL
 generalize nx s i=y at *
 rcases lt2 (aj (x:=y.fdiv 4) (m:=2) (by decide))with q | q<;>rw[q]at F mb ⊢
 · refine aH (g:=gR cx mm) [.r (.v (.int y)) (rl s (i+1) st k2 k3 k4 ta me gl ex el da cu rest rows),.b (.int (y.fdiv 8)),.p (.tup [.list (aC (md (y.fdiv 8) 5)).1,.str (aC (md (y.fdiv 8) 5)).2]),.p (vkT y),.k .list,.b (.int (y.fdiv 4)),.b (.int ((0:Nat):Int)),.p (glD ⟨pk y,0,md (y.fdiv 8) 5⟩),.o (.list gl),.k .list,.b (.int (y.fdiv 4)),.b (.int ((0:Nat):Int)),.o (.list (sD rows))] ?_
   exact And.intro ⟨aM hr rfl,cq,F,aa F,aa (aa F),aa (aa (aa F)),mb,rfl,aZ cq,ae hg rfl,rfl,mY hmm,mb,rfl,rfl,bP hmm,cL hmm,rfl,hnext,trivial⟩ ⟨ez,.inl rfl,SubL.drop rfl⟩
 · refine aH (g:=gR cx mm) [.r (.v (.int y)) (rl s (i+1) st k2 k3 k4 ta me gl ex el da cu rest rows),.b (.int (y.fdiv 8)),.p (.tup [.list (aC (md (y.fdiv 8) 5)).1,.str (aC (md (y.fdiv 8) 5)).2]),.p (vkT y),.k .list,.b (.int (y.fdiv 4)),.b (.int ((1:Nat):Int)),.p (glD ⟨pk y,1,md (y.fdiv 8) 5⟩),.o (.list gl),.k .list,.b (.int (y.fdiv 4)),.b (.int ((1:Nat):Int)),.o (.list (sD rows))] ?_
   conv=>whnf
   have G:=zo (aa (aa (aa F)))
   exact⟨⟨aM hr rfl,cq,F,aa F,aa (aa F),aa (aa (aa F)),G,aa G,mb,rfl,aZ cq,ae hg rfl,rfl,mY hmm,mb,rfl,rfl,bP hmm,cL hmm,rfl,hnext,trivial⟩,ez,.inl rfl,SubL.drop rfl⟩
theorem E5 {n:Nat} (hn:n<3) (hmm:1≤mm) (hs:s.length≤63) (hi:i≤900) (hr:rows.length≤10):bf (gR cx mm).c (gR cx mm).n (gR cx mm).sc (bF (rst 4)) (bu (rst 4)) ((cY 0 n).map It.one) (b4 ids rest.length) (rl s i st k2 k3 k4 ta me [] ex el da cu rest rows) .next (b4 ids rest.length) (rl s (i+n) st k2 k3 k4 ta me ((b7 s i n).map glD) ex el da cu rest (rows++(b7 s i n).map glS)):=by
 have T:=aV (sc:=(dfD 139).sc) (is:=(cY 0 n).map It.one) (c:=(gR cx mm).c) (n:=(gR cx mm).n) (t:=(bF (rst 4))) (body:=(bu (rst 4))) (λ_=>b4 ids rest.length) (λj=>rl s (i+j) st k2 k3 k4 ta me ((b7 s i j).map glD) ex el da cu rest (rows++(b7 s i j).map glS)) λj it h=>by
  obtain⟨h3,rfl⟩:=je h
  have h4:j≤3:=Nat.le_of_lt (Nat.lt_trans h3 hn)
  have hl:(b7 s i j).length≤3:=by rw[show (b7 s i j).length=j from cU];exact h4
  rw[show b7 s i (j+1)=b7 s i j++[ua (nx s (i+j))] from eC,List.map_append,List.map_append,←List.append_assoc]
  exact BS hmm hs (ai (Nat.add_le_add hi h4) rfl) (by rw[List.length_append,List.length_map];exact ai (Nat.add_le_add hr hl) rfl) (by rw[List.length_map];exact hl)
 rw[eO,show (b7 s i 0).map glS=[] from rfl,List.append_nil]at T
 exact T
end
end Mine
end
section
open PySem
namespace Mine
variable {cx:Cx}
theorem BK {k:Nat} (h:k<4):item (.list [.str (Str.ofString "func"),.str (Str.ofString "table"),.str (Str.ofString "memory"),.str (Str.ofString "global")]) (.int (k:Int))=some (.str (gq k)):=by
 rcases lt4 h with rfl | rfl | rfl | rfl<;>rfl
section
variable {s:List Int} {i t:Nat} {st:AV} {k2 k3 k4 cu:LO} {ta me gl ex el da:List D} {rest:Led} {rows ids:List Str} {mm:Nat} {x:Int}
theorem BR (hmm:1≤mm) (hr:rows.length≤20) (hg:ex.length≤3) (hil:ids.length≤10) (hids:∀s∈ids,s.length≤4):
 ∃f l1 led1,(led1=rl s i st k2 k3 k4 ta me gl (ex++[exD (uf x t)]) el da cu rest (rows++[exS ids (uf x t)])∧(f= .next∨f= .cont)∧SubL (b5 ids rest.length x) l1)∧
 bA cx mm (dfD 139).sc (bF (rst 6)) (bu (rst 6)) (.one (.v (.int (t:Int)))) (b5 ids rest.length x) (rl s i st k2 k3 k4 ta me gl ex el da cu rest rows) f l1 led1:=by
 have hL:=qf (wi (x:=x) (t:=t)) hids
 have h15:=cz (x:=x.fdiv 15) (m:=4) (by decide)
 have h60:=cz (x:=x.fdiv 60) (m:=4) (by decide)
 have l15:=aj (x:=x.fdiv 15) (m:=4) (by decide)
 have l60:=aj (x:=x.fdiv 60) (m:=4) (by decide)
 have hst:=λled=>eY (cx:=cx) (n:=mm) (x:=x.fdiv 3+(t:Int)) (led:=led) hmm
 have fe:=ae hg rfl
 unfold exS uf at hL
 unfold exD exS uf
 dsimp only at hL ⊢
 generalize md (x.fdiv 3+(t:Int)) 5=nn at *
 generalize md (x.fdiv 15) 4=so at *
 generalize md (x.fdiv 60) 4=ix at *
 have hss:=BK l15
 have hix:=ai (Nat.le_of_lt l60) (m:=1000) rfl
 cases so with
 | zero=>
   have F:=aL (ae (show ("(export "++(strN nn).2++ " ("++gq 0++ " "++aD ids ix++ "))").length≤100 from hL) rfl)
   refine aH (g:=gR cx mm) [.b (.int (x.fdiv 3)),.b (.int (x.fdiv 3+(t:Int))),.p (.tup [.str (strN nn).1,.str (strN nn).2]),.b (.int (x.fdiv 15)),.b (.int ((0:Nat):Int)),.b (.int (x.fdiv 60)),.b (.int (ix:Int)),.k .list,.o (.list ex),.p (.str (aD ids ix)),.k .list,.i (.str (gq 0)),.o (.list (sD rows))] ?_
   exact And.intro ⟨aM hr rfl,cq,F,aa F,aa (aa F),aa (aa (aa F)),hss,aa (aa (aa (aa F))),aa (aa (aa (aa (aa F)))),aZ cq,bx hmm (ai hil rfl) hix,fe,rfl,rfl,h60,rfl,h15,rfl,hst _,rfl,rfl,trivial⟩ ⟨ez,.inl rfl,SubL.drop rfl⟩
 | succ so=>
   have F:=aL (ae (show ("(export "++(strN nn).2++ " ("++gq (so+1)++ " "++ao ix++ "))").length≤100 from hL) rfl)
   refine aH (g:=gR cx mm) [.b (.int (x.fdiv 3)),.b (.int (x.fdiv 3+(t:Int))),.p (.tup [.str (strN nn).1,.str (strN nn).2]),.b (.int (x.fdiv 15)),.b (.int ((so+1:Nat):Int)),.b (.int (x.fdiv 60)),.b (.int (ix:Int)),.k .list,.o (.list ex),.k .list,.i (.str (gq (so+1))),.o (.list (sD rows))] ?_
   exact And.intro ⟨aM hr rfl,cq,F,aa F,aa (aa F),aa (aa (aa F)),hss,aa (aa (aa (aa F))),aa (aa (aa (aa (aa F)))),aZ cq,aW (Nat.le_of_lt l60) rfl,fe,rfl,rfl,h60,rfl,h15,rfl,hst _,rfl,rfl,trivial⟩ ⟨ez,.inl rfl,SubL.drop rfl⟩
theorem E4 {n:Nat} (hn:n<3) (hmm:1≤mm) (hr:rows.length≤10) (hil:ids.length≤10) (hids:∀s∈ids,s.length≤4):bf (gR cx mm).c (gR cx mm).n (gR cx mm).sc (bF (rst 6)) (bu (rst 6)) ((cY 0 n).map It.one) (b5 ids rest.length x) (rl s i st k2 k3 k4 ta me gl [] el da cu rest rows) .next (b5 ids rest.length x) (rl s i st k2 k3 k4 ta me gl ((cD x n).map exD) el da cu rest (rows++(cD x n).map (exS ids))):=by
 have T:=aV (sc:=(dfD 139).sc) (is:=(cY 0 n).map It.one) (c:=(gR cx mm).c) (n:=(gR cx mm).n) (t:=(bF (rst 6))) (body:=(bu (rst 6))) (λ_=>b5 ids rest.length x) (λj=>rl s i st k2 k3 k4 ta me gl ((cD x j).map exD) el da cu rest (rows++(cD x j).map (exS ids))) λj it h=>by
  obtain⟨h3,rfl⟩:=je h
  rw[Nat.zero_add]
  have hl:(cD x j).length≤3:=by rw[show (cD x j).length=j from cU];exact Nat.le_of_lt (Nat.lt_trans h3 hn)
  rw[show cD x (j+1)=cD x j++[uf x j] from eC,List.map_append,List.map_append,←List.append_assoc]
  exact BR hmm (by rw[List.length_append,List.length_map];exact ai (Nat.add_le_add hr hl) rfl) (by rw[List.length_map];exact hl) hil hids
 rw[eO,show (cD x 0).map (exS ids)=[] from rfl,List.append_nil]at T
 exact T
end
end Mine
end
section
open PySem
namespace Mine
variable {cx:Cx}
noncomputable def sx (x:Int) (mode:Nat):Nat:=if mode=1 then md (x.fdiv 270) 2 else 0
noncomputable def nW (x:Int) (t:Nat):El:=⟨md (x.fdiv 3+(t:Int)) 3,sx x (md (x.fdiv 3+(t:Int)) 3),md (x.fdiv 18) 5,cd2 (md (x.fdiv 9) 2),decide (md x 2=0),md (x.fdiv 90) 3⟩
noncomputable def d5 (x:Int) (j:Nat):List El:=(List.range j).map (nW x)
theorem wj {x:Int} {t:Nat}:AF (nW x t):=by
 refine⟨aj (by decide),?_,aj (by decide),aj (by decide)⟩
 show sx x _<2
 unfold sx
 split
 · exact aj (by decide)
 · decide
theorem Cu {k:Nat} (h:k<2):item (.list [.tup [.int (-16),.str (Str.ofString "funcref")],.tup [.int (-17),.str (Str.ofString "externref")]]) (.int (k:Int))=some (.tup [(cd2 k).D,.str (cd2 k).s]):=by
 rcases lt2 h with rfl | rfl<;>rfl
noncomputable def vB (k tb:Nat) (c:Str):Str:=match k with
 | 1=>" (table "++ao tb++ ") (offset "++c++ ")"
 | 2=>" declare"
 | _=>""
theorem vw {k tb:Nat} {c:Str} (h:k<3):item (.list [.str (Str.ofString ""),.str (Str.ofString " (table "++ao tb++Str.ofString ") (offset "++c++Str.ofString ")"),.str (Str.ofString " declare")]) (.int (k:Int))=some (.str (vB k tb c)):=by
 rcases lt3 h with rfl | rfl | rfl<;>rfl
theorem sv {n:Nat} {a b c d e:D} {led:Led} (hn:1≤n):af cx n "Elem" [.v a,.v b,.v c,.v d,.v e] led (.v (.obj "Elem" [("mode",a),("table",b),("offset",c),("kind",d),("inits",e)])) led:=by
 refine uj (y:="Elem") (d:=dfM 77 0) (mt:=[]) [] (by kernel_rfl) rfl (one_le hn) λm1 hm=>?_
 exact And.intro trivial rfl
theorem mulL {d:D} {n:Nat} (h:n<3):binop .Mult (.list [d]) (.int (n:Int))=some (.list (List.replicate n d)):=by
 rcases lt3 h with rfl | rfl | rfl<;>rfl
theorem mulS {a:Str} {n:Nat} (h:n<3) (ha:a.length≤1000):binop .Mult (.str a) (.int (n:Int))=some (.str (bo a n)):=by
 show guard (fits n&&fits (a.length * n)) (.str (bo a n))=_
 rw[ae (Nat.le_of_lt h) rfl,ae (Nat.mul_le_mul ha (Nat.le_of_lt h)) rfl]
 rfl
noncomputable abbrev l9 (ids:List Str) (r:Nat) (x:Int) (t mode:Nat) (kk:Vk) (cc:List D×Str) (b:Bool):Loc:=
 [("pen",.r 0),("module",.r 1),("ids",.v (.list (sD ids))),("rows",.r (r+12)),("x",.v (.int x)),("turn",.v (.int (t:Int))),("mode",.v (.int (mode:Int))),("kind",.v kk.D),("name",.v (.str kk.s)),("offset",.v (.list cc.1)),("told",.v (.str cc.2)),("init",.v (gT b)),("item",.v (.str (bz ids b)))]
section
variable {s:List Int} {i t:Nat} {st:AV} {k2 k3 k4 cu:LO} {ta me gl ex el da:List D} {rest led:Led} {rows ids:List Str} {mm:Nat} {x:Int}
theorem BQ {mode r:Nat} {kk:Vk} {cc:List D×Str} (hmm:1≤mm) (hil:ids.length≤10) (hids:∀s∈ids,s.length≤4):
 StR (gR cx mm).c (gR cx mm).n (gR cx mm).sc (stB (bu (rst 9)) 4) (l9 ids r x t mode kk cc false) led .next (l9 ids r x t mode kk cc (decide (md x 2=0))) led:=by
 rcases lt2 (aj (x:=x) (m:=2) (by decide))with q | q<;>rw[q]
 · refine kA (g:=gR cx mm) [.b (.int ((0:Nat):Int)),.p (.str (aD ids 1))] ?_
   exact And.intro ⟨ae (Nat.add_le_add_left (aY hids (i:=1) (by decide)) 9) rfl,bx hmm (ai hil rfl) (by decide),d3 (m:=2) (by decide) q,trivial⟩ ⟨⟨rfl,rfl⟩,SubL.drop rfl⟩
 · refine kA (g:=gR cx mm) [.b (.int ((1:Nat):Int))] ?_
   exact And.intro ⟨d3 (m:=2) (by decide) q,trivial⟩ ⟨⟨rfl,rfl⟩,SubL.drop rfl⟩
theorem elD_1 {e:El} (h:e.mode=1):elD e= .obj "Elem" [("mode",.int e.mode),("table",.int e.table),("offset",.list (aC e.c).1),("kind",e.k.D),("inits",.list (List.replicate e.many (gT e.init)))]:=by
 unfold elD;rw[if_pos h]
theorem elD_0 {e:El} (h:¬e.mode=1):elD e= .obj "Elem" [("mode",.int e.mode),("table",.int e.table),("offset",.none),("kind",e.k.D),("inits",.list (List.replicate e.many (gT e.init)))]:=by
 unfold elD;rw[if_neg h]
theorem BP (hmm:1≤mm) (hr:rows.length≤20) (hg:el.length≤3) (hil:ids.length≤10) (hids:∀s∈ids,s.length≤4):
 ∃f l1 led1,(led1=rl s i st k2 k3 k4 ta me gl ex (el++[elD (nW x t)]) da cu rest (rows++[elS ids (nW x t)])∧(f= .next∨f= .cont)∧SubL (b5 ids rest.length x) l1)∧
 bA cx mm (dfD 139).sc (bF (rst 9)) (bu (rst 9)) (.one (.v (.int (t:Int)))) (b5 ids rest.length x) (rl s i st k2 k3 k4 ta me gl ex el da cu rest rows) f l1 led1:=by
 have hL:=ql (wj (x:=x) (t:=t)) (ai (aY hids (i:=1) (by decide)) rfl)
 have h3:=cz (x:=x.fdiv 3+(t:Int)) (m:=3) (by decide)
 have h9:=cz (x:=x.fdiv 9) (m:=2) (by decide)
 have h90:=cz (x:=x.fdiv 90) (m:=3) (by decide)
 have h270:=cz (x:=x.fdiv 270) (m:=2) (by decide)
 have l3:=aj (x:=x.fdiv 3+(t:Int)) (m:=3) (by decide)
 have hks:=Cu (aj (x:=x.fdiv 9) (m:=2) (by decide))
 have l90:=aj (x:=x.fdiv 90) (m:=3) (by decide)
 have l270:=aj (x:=x.fdiv 270) (m:=2) (by decide)
 have hct:=λled=>cL (cx:=cx) (n:=mm) (x:=x.fdiv 18) (led:=led) hmm
 have hI:=λled=>BQ (cx:=cx) (led:=led) (x:=x) (t:=t) (mode:=md (x.fdiv 3+(t:Int)) 3) (r:=rest.length) (kk:=cd2 (md (x.fdiv 9) 2)) (cc:=aC (md (x.fdiv 18) 5)) hmm hil hids
 have hit:=kb (i:=decide (md x 2=0)) (ai (aY hids (i:=1) (by decide)) (m:=1000) rfl)
 have hit2:(bz ids (decide (md x 2=0))).length≤40:=by
  cases decide (md x 2=0)
  · exact Nat.le_of_ble_eq_true (by kernel_rfl)
  · exact ai (ag (Nat.le_refl 9) (aY hids (i:=1) (by decide))) rfl
 have cl:=nh (i:=md (x.fdiv 18) 5)
 have fe:=ae hg rfl
 have hE:elS ids (nW x t)= "(elem"++vB (md (x.fdiv 3+(t:Int)) 3) (sx x (md (x.fdiv 3+(t:Int)) 3)) (aC (md (x.fdiv 18) 5)).2++ " "++(cd2 (md (x.fdiv 9) 2)).s++bo (" (item "++bz ids (decide (md x 2=0))++ ")") (md (x.fdiv 90) 3)++ ")":=rfl
 have hms:=mulS (a:=" (item "++bz ids (decide (md x 2=0))++ ")") l90 (ai (ag (ag (Nat.le_refl 7) hit2) (Nat.le_refl 1)) rfl)
 have G:=aL (a:=" (item "++bz ids (decide (md x 2=0))) (b:=")") (ae (ag (ag (Nat.le_refl 7) hit2) (Nat.le_refl 1)) rfl)
 rw[hE]at hL ⊢
 rcases Nat.decEq (md (x.fdiv 3+(t:Int)) 3) 1 with q | q
 · have hD:elD (nW x t)= .obj "Elem" [("mode",.int (md (x.fdiv 3+(t:Int)) 3:Nat)),("table",.int (sx x (md (x.fdiv 3+(t:Int)) 3):Nat)),("offset",.none),("kind",(cd2 (md (x.fdiv 9) 2)).D),("inits",.list (List.replicate (md (x.fdiv 90) 3) (gT (decide (md x 2=0)))))]:=elD_0 (e:=nW x t) q
   have e0:sx x (md (x.fdiv 3+(t:Int)) 3)=0:=if_neg q
   rw[hD,e0]
   rw[e0]at hL
   clear hD hE e0
   have F:=aL (ae hL rfl)
   clear hL
   generalize md (x.fdiv 3+(t:Int)) 3=mode at *
   generalize md (x.fdiv 90) 3=many at *
   have hms2:=vw (tb:=0) (c:=(aC (md (x.fdiv 18) 5)).2) l3
   have H:=aL (a:=" (table "++ao 0++ ") (offset "++(aC (md (x.fdiv 18) 5)).2) (b:=")") (ae (ag (ag (ag (ag (Nat.le_refl 8) (Nat.le_refl 1)) (Nat.le_refl 10)) cl) (Nat.le_refl 1)) rfl)
   generalize aC (md (x.fdiv 18) 5)=cc at *
   generalize cd2 (md (x.fdiv 9) 2)=kk at *
   generalize md (x.fdiv 9) 2=k9 at *
   generalize decide (md x 2=0)=b at *
   refine aH (g:=gR cx mm) [.b (.int (x.fdiv 3)),.b (.int (x.fdiv 3+(t:Int))),.b (.int ((mode:Nat):Int)),.b (.int (x.fdiv 9)),.b (.int (k9:Int)),.i (.tup [kk.D,.str kk.s]),.b (.int (x.fdiv 18)),.p (.tup [.list cc.1,.str cc.2]),.x .next (l9 ids rest.length x t mode kk cc b) (rl s i st k2 k3 k4 ta me gl ex el da cu rest rows),.b (.int (x.fdiv 90)),.b (.int (many:Int)),.f,.k .list,.f,.b (.list (List.replicate many (gT b))),.p (.obj "Elem" [("mode",.int (mode:Nat)),("table",.int (0:Nat)),("offset",.none),("kind",kk.D),("inits",.list (List.replicate many (gT b)))]),.o (.list el),.i (.str (vB mode 0 cc.2)),.k .list,.b (.str (bo (" (item "++bz ids b++ ")") many)),.o (.list (sD rows))] ?_
   refine And.intro ?_ ⟨ez,.inl rfl,SubL.drop rfl⟩
   exact⟨aM hr rfl,cq,F,aa F,hms,G,aa G,aa (aa F),aa (aa (aa F)),aa (aa (aa (aa F))),aZ cq,hms2,H,aa (H),aa (aa (H)),aa (aa (aa (H))),rfl,fe,rfl,sv hmm,mulL l90,decide_eq_false (λz=>q (Int.ofNat.inj z)),rfl,decide_eq_false (λz=>q (Int.ofNat.inj z)),h90,rfl,hI _,hct _,rfl,hks,h9,rfl,h3,rfl,rfl,trivial⟩
 · have hD:elD (nW x t)= .obj "Elem" [("mode",.int (md (x.fdiv 3+(t:Int)) 3:Nat)),("table",.int (sx x (md (x.fdiv 3+(t:Int)) 3):Nat)),("offset",.list (aC (md (x.fdiv 18) 5)).1),("kind",(cd2 (md (x.fdiv 9) 2)).D),("inits",.list (List.replicate (md (x.fdiv 90) 3) (gT (decide (md x 2=0)))))]:=elD_1 (e:=nW x t) q
   have e0:sx x (md (x.fdiv 3+(t:Int)) 3)=md (x.fdiv 270) 2:=if_pos q
   rw[hD,e0]
   rw[e0]at hL
   clear hD hE e0
   have F:=aL (ae hL rfl)
   clear hL
   generalize md (x.fdiv 3+(t:Int)) 3=mode at *
   generalize md (x.fdiv 90) 3=many at *
   generalize md (x.fdiv 270) 2=tb at *
   subst q
   have hms2:=vw (tb:=tb) (c:=(aC (md (x.fdiv 18) 5)).2) l3
   have H:=aL (a:=" (table "++ao (tb:Int)++ ") (offset "++(aC (md (x.fdiv 18) 5)).2) (b:=")") (ae (ag (ag (ag (ag (Nat.le_refl 8) (bQ (Nat.lt_of_lt_of_le l270 (by decide)))) (Nat.le_refl 10)) cl) (Nat.le_refl 1)) rfl)
   generalize aC (md (x.fdiv 18) 5)=cc at *
   generalize cd2 (md (x.fdiv 9) 2)=kk at *
   generalize md (x.fdiv 9) 2=k9 at *
   generalize decide (md x 2=0)=b at *
   refine aH (g:=gR cx mm) [.b (.int (x.fdiv 3)),.b (.int (x.fdiv 3+(t:Int))),.b (.int ((1:Nat):Int)),.b (.int (x.fdiv 9)),.b (.int (k9:Int)),.i (.tup [kk.D,.str kk.s]),.b (.int (x.fdiv 18)),.p (.tup [.list cc.1,.str cc.2]),.x .next (l9 ids rest.length x t 1 kk cc b) (rl s i st k2 k3 k4 ta me gl ex el da cu rest rows),.b (.int (x.fdiv 90)),.b (.int (many:Int)),.t,.b (.int (x.fdiv 270)),.b (.int (tb:Int)),.k .list,.t,.b (.list (List.replicate many (gT b))),.p (.obj "Elem" [("mode",.int (1:Nat)),("table",.int (tb:Nat)),("offset",.list cc.1),("kind",kk.D),("inits",.list (List.replicate many (gT b)))]),.o (.list el),.i (.str (vB 1 tb cc.2)),.k .list,.b (.str (bo (" (item "++bz ids b++ ")") many)),.o (.list (sD rows))] ?_
   refine And.intro ?_ ⟨ez,.inl rfl,SubL.drop rfl⟩
   exact⟨aM hr rfl,cq,F,aa F,hms,G,aa G,aa (aa F),aa (aa (aa F)),aa (aa (aa (aa F))),aZ cq,hms2,H,aa (H),aa (aa (H)),aa (aa (aa (H))),aW (Nat.le_of_lt l270) rfl,fe,rfl,sv hmm,mulL l90,rfl,rfl,h270,rfl,rfl,h90,rfl,hI _,hct _,rfl,hks,h9,rfl,h3,rfl,rfl,trivial⟩
end
end Mine
end
section
open PySem
namespace Mine
variable {cx:Cx}
noncomputable def xQ (x:Int) (t:Nat):Da:=⟨md (x+(t:Int)) 2,md (x.fdiv 3) 5,md (x.fdiv 15) 3⟩
noncomputable def gy (x:Int) (j:Nat):List Da:=(List.range j).map (xQ x)
theorem wo {x:Int} {t:Nat}:C9 (xQ x t):=⟨aj (by decide),aj (by decide),aj (by decide)⟩
theorem Fh {k:Nat} (h:k<3):item (.list [.tup [.byt [],.str (Str.ofString "\"\"")],.tup [.byt [97,0,255],.str (Str.ofString "\"a\\00\\ff\"")],.tup [.byt [126,32,40,59],.str (Str.ofString "\"~ (;\"")]]) (.int (k:Int))=some (.tup [.byt (gD k).1,.str (gD k).2]):=by
 rcases lt3 h with rfl | rfl | rfl<;>rfl
theorem sz {n:Nat} {a b c d:D} {led:Led} (hn:1≤n):af cx n "Data" [.v a,.v b,.v c,.v d] led (.v (.obj "Data" [("mode",a),("memory",b),("offset",c),("octets",d)])) led:=by
 refine uj (y:="Data") (d:=dfM 78 0) (mt:=[]) [] (by kernel_rfl) rfl (one_le hn) λm1 hm=>?_
 exact And.intro trivial rfl
theorem Gp:Str.ofString "(memory "++ao 0++Str.ofString ") (offset "=Str.ofString "(memory 0) (offset ":=by kernel_rfl
section
variable {s:List Int} {i t:Nat} {st:AV} {k2 k3 k4 cu:LO} {ta me gl ex el da:List D} {rest led:Led} {rows ids:List Str} {mm:Nat} {x:Int}
theorem y4 (hmm:1≤mm) (hr:rows.length≤20) (hg:da.length≤3):
 ∃f l1 led1,(led1=rl s i st k2 k3 k4 ta me gl ex el (da++[daD (xQ x t)]) cu rest (rows++[daS (xQ x t)])∧(f= .next∨f= .cont)∧SubL (b5 ids rest.length x) l1)∧
 bA cx mm (dfD 139).sc (bF (rst 11)) (bu (rst 11)) (.one (.v (.int (t:Int)))) (b5 ids rest.length x) (rl s i st k2 k3 k4 ta me gl ex el da cu rest rows) f l1 led1:=by
 have hL:=wm (wo (x:=x) (t:=t))
 have h15:=cz (x:=x.fdiv 15) (m:=3) (by decide)
 have h2:=cz (x:=x+(t:Int)) (m:=2) (by decide)
 have hos:=Fh (aj (x:=x.fdiv 15) (m:=3) (by decide))
 have hct:=λled=>cL (cx:=cx) (n:=mm) (x:=x.fdiv 3) (led:=led) hmm
 have fe:=ae hg rfl
 unfold xQ at hL ⊢
 generalize md (x.fdiv 3) 5=c at *
 generalize md (x.fdiv 15) 3=o at *
 rcases lt2 (aj (x:=x+(t:Int)) (m:=2) (by decide))with q | q<;>rw[q]at hL h2 ⊢
 · have e:daS ⟨0,c,o⟩= "(data "++ ""++(gD o).2++ ")":=rfl
   rw[e]at hL ⊢
   have F:=aL (ae hL rfl)
   refine aH (g:=gR cx mm) [.b (.int (x.fdiv 3)),.p (.tup [.list (aC c).1,.str (aC c).2]),.b (.int (x.fdiv 15)),.b (.int (o:Int)),.i (.tup [.byt (gD o).1,.str (gD o).2]),.k .list,.b (.int (x+(t:Int))),.b (.int ((0:Nat):Int)),.b (.int (x+(t:Int))),.b (.int ((0:Nat):Int)),.p (daD ⟨0,c,o⟩),.o (.list da),.k .list,.b (.int (x+(t:Int))),.b (.int ((0:Nat):Int)),.o (.list (sD rows))] ?_
   refine And.intro ?_ ⟨ez,.inl rfl,SubL.drop rfl⟩
   exact⟨aM hr rfl,cq,F,aa F,aa (aa F),h2,rfl,aZ cq,fe,rfl,sz hmm,h2,rfl,h2,rfl,rfl,hos,h15,rfl,hct _,rfl,trivial⟩
 · have e:daS ⟨1,c,o⟩= "(data "++("(memory 0) (offset "++(aC c).2++ ") ")++(gD o).2++ ")":=congrArg (λz:Str=>Str.ofString "(data "++(z++(aC c).2++Str.ofString ") ")++(gD o).2++Str.ofString ")") Gp
   rw[e]at hL ⊢
   have F:=aL (ae hL rfl)
   have G:=zo (aa (aa F))
   refine aH (g:=gR cx mm) [.b (.int (x.fdiv 3)),.p (.tup [.list (aC c).1,.str (aC c).2]),.b (.int (x.fdiv 15)),.b (.int (o:Int)),.i (.tup [.byt (gD o).1,.str (gD o).2]),.k .list,.b (.int (x+(t:Int))),.b (.int ((1:Nat):Int)),.b (.int (x+(t:Int))),.b (.int ((1:Nat):Int)),.p (daD ⟨1,c,o⟩),.o (.list da),.k .list,.b (.int (x+(t:Int))),.b (.int ((1:Nat):Int)),.o (.list (sD rows))] ?_
   refine And.intro ?_ ⟨ez,.inl rfl,SubL.drop rfl⟩
   exact⟨aM hr rfl,cq,F,aa F,aa (aa F),G,aa G,h2,rfl,aZ cq,fe,rfl,sz hmm,h2,rfl,h2,rfl,rfl,hos,h15,rfl,hct _,rfl,trivial⟩
theorem BU {n:Nat} (hn:n<3) (hmm:1≤mm) (hr:rows.length≤12):bf (gR cx mm).c (gR cx mm).n (gR cx mm).sc (bF (rst 11)) (bu (rst 11)) ((cY 0 n).map It.one) (b5 ids rest.length x) (rl s i st k2 k3 k4 ta me gl ex el [] cu rest rows) .next (b5 ids rest.length x) (rl s i st k2 k3 k4 ta me gl ex el ((gy x n).map daD) cu rest (rows++(gy x n).map daS)):=by
 have T:=aV (sc:=(dfD 139).sc) (is:=(cY 0 n).map It.one) (c:=(gR cx mm).c) (n:=(gR cx mm).n) (t:=(bF (rst 11))) (body:=(bu (rst 11))) (λ_=>b5 ids rest.length x) (λj=>rl s i st k2 k3 k4 ta me gl ex el ((gy x j).map daD) cu rest (rows++(gy x j).map daS)) λj it h=>by
  obtain⟨h3,rfl⟩:=je h
  rw[Nat.zero_add]
  have hl:(gy x j).length≤3:=by rw[show (gy x j).length=j from cU];exact Nat.le_of_lt (Nat.lt_trans h3 hn)
  rw[show gy x (j+1)=gy x j++[xQ x j] from eC,List.map_append,List.map_append,←List.append_assoc]
  exact y4 hmm (by rw[List.length_append,List.length_map];exact ai (Nat.add_le_add hr hl) rfl) (by rw[List.length_map];exact hl)
 rw[eO,show (gy x 0).map daS=[] from rfl,List.append_nil]at T
 exact T
theorem E2 {n:Nat} (hn:n<3) (hmm:1≤mm) (hr:rows.length≤12) (hil:ids.length≤10) (hids:∀s∈ids,s.length≤4):bf (gR cx mm).c (gR cx mm).n (gR cx mm).sc (bF (rst 9)) (bu (rst 9)) ((cY 0 n).map It.one) (b5 ids rest.length x) (rl s i st k2 k3 k4 ta me gl ex [] da cu rest rows) .next (b5 ids rest.length x) (rl s i st k2 k3 k4 ta me gl ex ((d5 x n).map elD) da cu rest (rows++(d5 x n).map (elS ids))):=by
 have T:=aV (sc:=(dfD 139).sc) (is:=(cY 0 n).map It.one) (c:=(gR cx mm).c) (n:=(gR cx mm).n) (t:=(bF (rst 9))) (body:=(bu (rst 9))) (λ_=>b5 ids rest.length x) (λj=>rl s i st k2 k3 k4 ta me gl ex ((d5 x j).map elD) da cu rest (rows++(d5 x j).map (elS ids))) λj it h=>by
  obtain⟨h3,rfl⟩:=je h
  rw[Nat.zero_add]
  have hl:(d5 x j).length≤3:=by rw[show (d5 x j).length=j from cU];exact Nat.le_of_lt (Nat.lt_trans h3 hn)
  rw[show d5 x (j+1)=d5 x j++[nW x j] from eC,List.map_append,List.map_append,←List.append_assoc]
  exact BP hmm (by rw[List.length_append,List.length_map];exact ai (Nat.add_le_add hr hl) rfl) (by rw[List.length_map];exact hl) hil hids
 rw[eO,show (d5 x 0).map (elS ids)=[] from rfl,List.append_nil]at T
 exact T
end
structure Rs where
 tables:List (Nat×Nat)
 memories:List (Nat×Nat)
 globals:List Gl
 exports:List Xp
 start:Option Nat
 elems:List El
 datas:List Da
noncomputable def j2 (s:List Int) (i:Nat):Rs:=
 let x1:=nx s i
 let n:=md (x1.fdiv 4) 3
 let x2:=nx s (i+1+n)
 let x3:=nx s (i+1+n+1)
 let x4:=nx s (i+1+n+1+1)
 ⟨bg x1,bC x1,b7 s (i+1) n,cD x2 (md x2 3),bR x2,d5 x3 (md x3 3),gy x4 (md x4 3)⟩
noncomputable def br (ids:List Str) (r:Rs):List Str:=r.tables.map pq++r.memories.map tT++r.globals.map glS++r.exports.map (exS ids)++stS ids r.start++r.elems.map (elS ids)++r.datas.map daS
theorem iL {x:Int}:(bg x).length≤1:=by unfold bg;cases md x 2<;>exact Nat.le_of_ble_eq_true rfl
theorem iQ {x:Int}:(bC x).length≤1:=by unfold bC;cases md (x.fdiv 2) 2<;>exact Nat.le_of_ble_eq_true rfl
theorem u2 {ids:List Str} {o:Option Nat}:(stS ids o).length≤1:=by cases o<;>exact Nat.le_of_ble_eq_true rfl
end Mine
end
section
open PySem
namespace Mine
variable {cx:Cx}
theorem apL {α:Type} {a b:List α} {n m:Nat} (h1:a.length≤n) (h2:b.length≤m):(a++b).length≤n+m:=List.length_append▸Nat.add_le_add h1 h2
theorem gF {α β:Type} {f:α→β} {l:List α} {n:Nat} (h:l.length≤n):(l.map f).length≤n:=by rw[List.length_map];exact h
theorem pF {α:Type} {f:Nat→α} {j n:Nat} (h:j<n):((List.range j).map f).length≤n:=by rw[cU];exact Nat.le_of_lt h
theorem rI {n i:Nat} {s:List Int} {ids:List Str} {k2 k3 k4 cu:LO} {rest:Led} (hn:2≤n) (hs:s.length≤63) (hi:i≤500) (hil:ids.length≤10) (hids:∀s∈ids,s.length≤4):
 ∃j,af cx n "_law_rest" [.r 0,.r 1,.v (.list (sD ids))] (cg s i::moL (.v .none)::k2::k3::k4:: .list []:: .list []:: .list []:: .list []:: .list []:: .list []::cu::rest) (.r (rest.length+12)) (rl s j (.v (stD (j2 s i).start)) k2 k3 k4 ((j2 s i).tables.map tbD) ((j2 s i).memories.map meD) ((j2 s i).globals.map glD) ((j2 s i).exports.map exD) ((j2 s i).elems.map elD) ((j2 s i).datas.map daD) cu rest (br ids (j2 s i))):=by
 obtain⟨q,rfl⟩:=le_succ (one_le hn)
 have hq:1≤q:=Nat.le_of_succ_le_succ hn
 unfold br j2
 dsimp only
 have b4':=cz (x:=(nx s i).fdiv 4) (m:=3) (by decide)
 have l4:=aj (x:=(nx s i).fdiv 4) (m:=3) (by decide)
 generalize md ((nx s i).fdiv 4) 3=n1 at *
 have c1:i+1+n1≤504:=Nat.add_le_add (Nat.succ_le_succ hi) (Nat.le_of_lt l4)
 have nx1:=λl=>fq (cx:=cx) (i:=i) (l:=l) hq hs (ai hi rfl)
 have nx2:=λl=>fq (cx:=cx) (i:=i+1+n1) (l:=l) hq hs (ai c1 rfl)
 have nx3:=λl=>fq (cx:=cx) (i:=i+1+n1+1) (l:=l) hq hs (ai (Nat.succ_le_succ c1) rfl)
 have nx4:=λl=>fq (cx:=cx) (i:=i+1+n1+1+1) (l:=l) hq hs (ai (Nat.succ_le_succ (Nat.succ_le_succ c1)) rfl)
 generalize nx s i=x1 at *
 generalize nx s (i+1+n1)=x2 at *
 generalize nx s (i+1+n1+1)=x3 at *
 generalize nx s (i+1+n1+1+1)=x4 at *
 have b2:=cz (x:=x2) (m:=3) (by decide)
 have l2:=aj (x:=x2) (m:=3) (by decide)
 have b3:=cz (x:=x3) (m:=3) (by decide)
 have l3:=aj (x:=x3) (m:=3) (by decide)
 have b5':=cz (x:=x4) (m:=3) (by decide)
 have l5:=aj (x:=x4) (m:=3) (by decide)
 generalize md x2 3=n2 at *
 generalize md x3 3=n3 at *
 generalize md x4 3=n4 at *
 have r1:((bg x1).map pq).length≤1:=gF iL
 have r2:=apL r1 (gF (f:=tT) (iQ (x:=x1)))
 have r3:=apL r2 (gF (f:=glS) (show (b7 s (i+1) n1).length≤3 from pF l4))
 have r4:=apL r3 (gF (f:=exS ids) (show (cD x2 n2).length≤3 from pF l2))
 have r5:=apL r4 (u2 (ids:=ids) (o:=bR x2))
 have r6:=apL r5 (gF (f:=elS ids) (show (d5 x3 n3).length≤3 from pF l3))
 have T2:=E7 (cx:=cx) (mm:=q) (s:=s) (i:=i+1) (st:= .v .none) (k2:=k2) (k3:=k3) (k4:=k4) (cu:=cu) (me:=[]) (gl:=[]) (ex:=[]) (el:=[]) (da:=[]) (rest:=rest) (rows:=[]) (ids:=ids) (x:=x1) hq (by decide)
 rw[List.nil_append]at T2
 have T3:=E6 (cx:=cx) (mm:=q) (s:=s) (i:=i+1) (st:= .v .none) (k2:=k2) (k3:=k3) (k4:=k4) (cu:=cu) (ta:=(bg x1).map tbD) (gl:=[]) (ex:=[]) (el:=[]) (da:=[]) (rest:=rest) (ids:=ids) (x:=x1) (rows:=(bg x1).map pq) hq (ai r1 rfl)
 have T4:=E5 (cx:=cx) (ids:=ids) (s:=s) (i:=i+1) (st:= .v .none) (k2:=k2) (k3:=k3) (k4:=k4) (cu:=cu) (ta:=(bg x1).map tbD) (me:=(bC x1).map meD) (ex:=[]) (el:=[]) (da:=[]) (rest:=rest) l4 hq hs (ai (Nat.succ_le_succ hi) rfl) (ai r2 rfl)
 have T6:=E4 (cx:=cx) (ids:=ids) (s:=s) (x:=x2) (i:=i+1+n1+1) (st:= .v .none) (k2:=k2) (k3:=k3) (k4:=k4) (cu:=cu) (ta:=(bg x1).map tbD) (me:=(bC x1).map meD) (gl:=(b7 s (i+1) n1).map glD) (el:=[]) (da:=[]) (rest:=rest) l2 hq (ai r3 rfl) hil hids
 have T7:=E3 (cx:=cx) (ids:=ids) (s:=s) (x:=x2) (i:=i+1+n1+1) (k2:=k2) (k3:=k3) (k4:=k4) (cu:=cu) (ta:=(bg x1).map tbD) (me:=(bC x1).map meD) (gl:=(b7 s (i+1) n1).map glD) (ex:=(cD x2 n2).map exD) (el:=[]) (da:=[]) (rest:=rest) hq (ai r4 rfl) hil hids
 have T9:=E2 (cx:=cx) (ids:=ids) (s:=s) (x:=x3) (i:=i+1+n1+1+1) (st:= .v (stD (bR x2))) (k2:=k2) (k3:=k3) (k4:=k4) (cu:=cu) (ta:=(bg x1).map tbD) (me:=(bC x1).map meD) (gl:=(b7 s (i+1) n1).map glD) (ex:=(cD x2 n2).map exD) (da:=[]) (rest:=rest) l3 hq (ai r5 rfl) hil hids
 have T11:=BU (cx:=cx) (ids:=ids) (s:=s) (x:=x4) (i:=i+1+n1+1+1+1) (st:= .v (stD (bR x2))) (k2:=k2) (k3:=k3) (k4:=k4) (cu:=cu) (ta:=(bg x1).map tbD) (me:=(bC x1).map meD) (gl:=(b7 s (i+1) n1).map glD) (ex:=(cD x2 n2).map exD) (el:=(d5 x3 n3).map elD) (rest:=rest) l5 hq (ai r6 rfl)
 have f1:=ae (Nat.le_of_lt l4) rfl
 have f2:=ae (Nat.le_of_lt l2) rfl
 have f3:=ae (Nat.le_of_lt l3) rfl
 have f4:=ae (Nat.le_of_lt l5) rfl
 clear r1 r2 r3 r4 r5 r6 l2 l3 l4 l5
 generalize hR1:(bg x1).map pq=R1 at *
 generalize hR2:R1++(bC x1).map tT=R2 at *
 generalize hR3:R2++(b7 s (i+1) n1).map glS=R3 at *
 generalize hR4:R3++(cD x2 n2).map (exS ids)=R4 at *
 generalize hR5:R4++stS ids (bR x2)=R5 at *
 generalize hR6:R5++(d5 x3 n3).map (elS ids)=R6 at *
 refine⟨i+1+n1+1+1+1,?_⟩
 refine fB ?_
 refine rG (d:=dfD 139) (mt:=["rows"]) [.r (.v (.int x1)) (rl s (i+1) (.v .none) k2 k3 k4 [] [] [] [] [] [] cu rest []),.x .next (b5 ids rest.length x1) (rl s (i+1) (.v .none) k2 k3 k4 ((bg x1).map tbD) [] [] [] [] [] cu rest R1),.x .next (b5 ids rest.length x1) (rl s (i+1) (.v .none) k2 k3 k4 ((bg x1).map tbD) ((bC x1).map meD) [] [] [] [] cu rest R2),.b (.int (x1.fdiv 4)),.b (.int (n1:Int)),.w .next (b4 ids rest.length) (rl s (i+1+n1) (.v .none) k2 k3 k4 ((bg x1).map tbD) ((bC x1).map meD) ((b7 s (i+1) n1).map glD) [] [] [] cu rest R3),.r (.v (.int x2)) (rl s (i+1+n1+1) (.v .none) k2 k3 k4 ((bg x1).map tbD) ((bC x1).map meD) ((b7 s (i+1) n1).map glD) [] [] [] cu rest R3),.b (.int (n2:Int)),.w .next (b5 ids rest.length x2) (rl s (i+1+n1+1) (.v .none) k2 k3 k4 ((bg x1).map tbD) ((bC x1).map meD) ((b7 s (i+1) n1).map glD) ((cD x2 n2).map exD) [] [] cu rest R4),.x .next (b4 ids rest.length) (rl s (i+1+n1+1) (.v (stD (bR x2))) k2 k3 k4 ((bg x1).map tbD) ((bC x1).map meD) ((b7 s (i+1) n1).map glD) ((cD x2 n2).map exD) [] [] cu rest R5),.r (.v (.int x3)) (rl s (i+1+n1+1+1) (.v (stD (bR x2))) k2 k3 k4 ((bg x1).map tbD) ((bC x1).map meD) ((b7 s (i+1) n1).map glD) ((cD x2 n2).map exD) [] [] cu rest R5),.b (.int (n3:Int)),.w .next (b5 ids rest.length x3) (rl s (i+1+n1+1+1) (.v (stD (bR x2))) k2 k3 k4 ((bg x1).map tbD) ((bC x1).map meD) ((b7 s (i+1) n1).map glD) ((cD x2 n2).map exD) ((d5 x3 n3).map elD) [] cu rest R6),.r (.v (.int x4)) (rl s (i+1+n1+1+1+1) (.v (stD (bR x2))) k2 k3 k4 ((bg x1).map tbD) ((bC x1).map meD) ((b7 s (i+1) n1).map glD) ((cD x2 n2).map exD) ((d5 x3 n3).map elD) [] cu rest R6),.b (.int (n4:Int)),.w .next (b5 ids rest.length x4) (rl s (i+1+n1+1+1+1) (.v (stD (bR x2))) k2 k3 k4 ((bg x1).map tbD) ((bC x1).map meD) ((b7 s (i+1) n1).map glD) ((cD x2 n2).map exD) ((d5 x3 n3).map elD) ((gy x4 n4).map daD) cu rest (R6++(gy x4 n4).map daS))] (by kernel_rfl) ?_
 refine And.intro ?_ ⟨rfl,rfl⟩
 exact⟨T11,f4,b5',nx4 _,T9,f3,b3,nx3 _,T7,T6,f2,b2,nx2 _,T4.wk (SubL.drop rfl),f1,b4',rfl,T3,T2,nx1 _,trivial⟩
end Mine
end
section
open PySem
namespace Mine
variable {cx:Cx}
theorem SubL.pick {B:Loc}:∀{A:Loc},A.map (λp=>get B p.1)=A.map (λp=>some p.2)→SubL A B
 | [],h=>λx a e=>nE e
 | p::l,h=>λx a e=>cE (eqS p.1 x) (λq=>aG.mp q▸(List.cons.inj h).1.trans ((aB q).symm.trans e)) λq=>SubL.pick (List.cons.inj h).2 x a ((ak q).symm.trans e)
noncomputable abbrev gL (cx:Cx) (mm:Nat):Eng:=g0w cx mm ["pen","rows","told_kinds"] (dfD 140)
noncomputable abbrev lst (j:Nat):Stmt:=stB (dfD 140).body j
noncomputable abbrev LW (s:List Int) (i:Nat) (k2 k3 k4 nm fu lo:LO) (rest:Led):Led:=cg s i::moL (.v .none)::k2::k3::k4:: .list []:: .list []:: .list []:: .list []:: .list []:: .list []:: .list []::nm::fu::lo::rest
noncomputable abbrev nmO (m:D) (f:AV):LO:= .obj "Names" [("module",.v m),("funcs",f),("locals",.r 14),("is_whole",.v (.bool true))]
noncomputable abbrev scD (s:List Int):AV:= .v (.list (s.map .int))
noncomputable abbrev cf (s:List Int) (x:Int) (more:Loc):Loc:=("script",scD s)::("pen",.r 0)::("x",.v (.int x))::("module",.r 1)::("names",.r 12)::("rows",.r 15)::("told_kinds",.r 16)::more
noncomputable abbrev mo0 (s:List Int):Led:=cg s 1::moL (.v .none):: .list []:: .list []:: .list []:: .list []:: .list []:: .list []:: .list []:: .list []:: .list []:: .list []::[]
theorem tR {n:Nat} {p:LO} (hn:1≤n):af cx n "Module" [] [p] (.r 1) (p::moL (.v .none):: .list []:: .list []:: .list []:: .list []:: .list []:: .list []:: .list []:: .list []:: .list []:: .list []::[]):=by
 obtain⟨m,rfl⟩:=le_succ hn
 exact Ea (y:="Module") (d:=(dfM 80 0)) (mt:=["kinds","imports","funcs","tables","memories","globals","exports","elems","datas","customs"]) (by kernel_rfl) (by kernel_rfl)
theorem xg {n:Nat} {s:List Int} (hn:1≤n):af cx n "Names" [] (mo0 s) (.r 12) (LW s 1 (.list []) (.list []) (.list []) (nmO .none (.r 13)) (.dict []) (.dict []) []):=by
 obtain⟨m,rfl⟩:=le_succ hn
 exact Ea (y:="Names") (d:=(dfM 122 0)) (mt:=["funcs","locals"]) (by kernel_rfl) (by kernel_rfl)
noncomputable def xm (x:Int) (k:Nat):Kn:=⟨kz (x.fdiv 4+7 * (k:Int)) (md (x.fdiv (16 ^ k)) 3),kz (x.fdiv 8+5 * (k:Int)) (md (x.fdiv (5 ^ k)) 3)⟩
noncomputable def kI (x:Int) (j:Nat):List Kn:=(List.range j).map (xm x)
theorem jY {x:Int} {n:Nat}:(kz x n).length=n:=cU
theorem vN {x:Int} {k:Nat}:fU (xm x k):=by
 unfold fU xm
 dsimp only
 rw[jY,jY]
 exact⟨Nat.le_of_lt_succ (aj (by decide)),Nat.le_of_lt_succ (aj (by decide))⟩
theorem pow16 {i:Nat} (h:i<3):binop .Pow (.int 16) (.int (i:Int))=some (.int (16 ^ i)):=by
 rcases lt3 h with rfl | rfl | rfl<;>rfl
theorem div16 {i:Nat} {x:Int} (h:i<3):binop .FloorDiv (.int x) (.int (16 ^ i))=some (.int (x.fdiv (16 ^ i))):=by
 rcases lt3 h with rfl | rfl | rfl<;>rfl
theorem pow5 {i:Nat} (h:i<3):binop .Pow (.int 5) (.int (i:Int))=some (.int (5 ^ i)):=by
 rcases lt3 h with rfl | rfl | rfl<;>rfl
theorem div5 {i:Nat} {x:Int} (h:i<3):binop .FloorDiv (.int x) (.int (5 ^ i))=some (.int (x.fdiv (5 ^ i))):=by
 rcases lt3 h with rfl | rfl | rfl<;>rfl
theorem mul7 {i:Nat} (h:i<3):binop .Mult (.int 7) (.int (i:Int))=some (.int (7 * (i:Int))):=by
 show guard (small 7&&small (i:Int)) _=_
 rw[aW (Nat.le_of_lt h) rfl];rfl
theorem mul5 {i:Nat} (h:i<3):binop .Mult (.int 5) (.int (i:Int))=some (.int (5 * (i:Int))):=by
 show guard (small 5&&small (i:Int)) _=_
 rw[aW (Nat.le_of_lt h) rfl];rfl
noncomputable abbrev lwK (s:List Int) (i:Nat) (nm:LO) (kn tk kr:List D):Led:=LW s i (.list kn) (.list []) (.list []) nm (.dict []) (.dict []) [.list kr,.list tk]
noncomputable abbrev lw6 (s:List Int) (i:Nat) (ks:List Kn):Led:=lwK s i (nmO .none (.r 13)) (ks.map knD) (ks.map tkL) (sD (ks.map knS))
theorem Fz {s:List Int} {i:Nat} {ks:List Kn} {k:Kn}:lwK s i (nmO .none (.r 13)) (ks.map knD++[knD k]) (ks.map tkL++[tkL k]) (sD (ks.map knS)++[.str (knS k)])=lw6 s i (ks++[k]):=by
 unfold sD lw6 lwK LW
 rw[List.map_append,List.map_append,List.map_append]
 show _=cg s i::_::_::_::_::_::_::_::_::_::_::_::_::_::_:: .list (List.map D.str _)::_
 rw[List.map_append];rfl
section
variable {s:List Int} {x:Int} {mm:Nat}
theorem l_6t {k:Nat} {ks:List Kn} (hmm:2≤mm) (hk:k<3) (hl:ks.length≤3):
 ∃f l1 led1,(led1=lw6 s 1 (ks++[xm x k])∧(f= .next∨f= .cont)∧SubL (cf s x []) l1)∧bA (gL cx mm).c (gL cx mm).n (gL cx mm).sc (bF (lst 6)) (bu (lst 6)) (.one (.v (.int (k:Int)))) (cf s x []) (lw6 s 1 ks) f l1 led1:=by
 have e1:=cz (x:=x.fdiv (16 ^ k)) (m:=3) (by decide)
 have e2:=cz (x:=x.fdiv (5 ^ k)) (m:=3) (by decide)
 have l1:=aj (x:=x.fdiv (16 ^ k)) (m:=3) (by decide)
 have l2:=aj (x:=x.fdiv (5 ^ k)) (m:=3) (by decide)
 have k1:=λled=>ef (cx:=cx) (n:=mm) (x:=x.fdiv 4+7 * (k:Int)) (led:=led) hmm l1
 have k2:=λled=>ef (cx:=cx) (n:=mm) (x:=x.fdiv 8+5 * (k:Int)) (led:=led) hmm l2
 obtain⟨h1,h2⟩:=vN (x:=x) (k:=k)
 rw[←Fz]
 unfold xm at h1 h2 ⊢
 dsimp only at h1 h2
 generalize kz (x.fdiv 4+7 * (k:Int)) (md (x.fdiv (16 ^ k)) 3)=p at *
 generalize kz (x.fdiv 8+5 * (k:Int)) (md (x.fdiv (5 ^ k)) 3)=q at *
 generalize md (x.fdiv (16 ^ k)) 3=np at *
 generalize md (x.fdiv (5 ^ k)) 3=nq at *
 have F:=aL (a:="(type (func"++aP "param" p++aP "result" q) (b:="))") (ae (ag (ag (ag (Nat.le_refl 11) (bI (.inl rfl) h1)) (bI (.inr (.inl rfl)) h2)) (Nat.le_refl 2)) rfl)
 refine aH (g:=gL cx mm) [.b (.int (x.fdiv 4)),.b (.int (7 * (k:Int))),.b (.int (x.fdiv 4+7 * (k:Int))),.b (.int (16 ^ k)),.b (.int (x.fdiv (16 ^ k))),.b (.int (np:Int)),.p (.tup [.tup (kD p),.list (sD (kS p))]),.b (.int (x.fdiv 8)),.b (.int (5 * (k:Int))),.b (.int (x.fdiv 8+5 * (k:Int))),.b (.int (5 ^ k)),.b (.int (x.fdiv (5 ^ k))),.b (.int (nq:Int)),.p (.tup [.tup (kD q),.list (sD (kS q))]),.p (.str (aP "param" p)),.p (.str (aP "result" q))] ?_
 refine And.intro ?_ ⟨rfl,.inl rfl,SubL.drop rfl⟩
 exact⟨cn (ai (gF hl) rfl),F,aa F,eQ (one_le hmm) (.inr (.inl rfl)) h2,aa (aa F),eQ (one_le hmm) (.inl rfl) h1,aq hl rfl,aq hl rfl,k2 _,e2,div5 hk,pow5 hk,rfl,mul5 hk,rfl,k1 _,e1,div16 hk,pow16 hk,rfl,mul7 hk,rfl,trivial⟩
theorem l_6 {n:Nat} (hmm:2≤mm) (hn:n<4):bf (gL cx mm).c (gL cx mm).n (gL cx mm).sc (bF (lst 6)) (bu (lst 6)) ((cY 0 n).map It.one) (cf s x []) (lw6 s 1 []) .next (cf s x []) (lw6 s 1 (kI x n)):=by
 have T:=aV (sc:=(dfD 140).sc) (is:=(cY 0 n).map It.one) (c:=(gL cx mm).c) (n:=(gL cx mm).n) (t:=(bF (lst 6))) (body:=(bu (lst 6))) (λ_=>cf s x []) (λj=>lw6 s 1 (kI x j)) λj it h=>by
  obtain⟨h3,rfl⟩:=je h
  rw[Nat.zero_add]
  have h4:j<3:=Nat.lt_of_lt_of_le h3 (Nat.le_of_lt_succ hn)
  rw[show kI x (j+1)=kI x j++[xm x j] from eC]
  exact l_6t hmm h4 (pF h4)
 rw[eO]at T
 exact T
end
end Mine
end
section
open PySem
namespace Mine
variable {cx:Cx}
noncomputable def fR (x:Int):Bool:=decide (((md x 3:Nat):Int)>0)
noncomputable def d9 (x:Int):Option Nat:=if md (x.fdiv 7) 2=1 then some (md x 7)else none
noncomputable def dQ (x:Int):List Str:=bD (aR (x.fdiv 3) 5) 5
noncomputable def cO (b:Bool) (l:List Str):List Str:=match b with | true=>l | false=>List.replicate l.length ""
noncomputable def nnB (b:Bool) (x:Int) (locs:List (Nat×List Nat)):Option Nn:=match b with | true=>some ⟨d9 x,aR (x.fdiv 3) 5,locs⟩ | false=>none
theorem modsel {k:Nat} {w:Str} (h:k<2):item (.list [.none,.str w]) (.int (k:Int))=some (if k=1 then .str w else .none):=by
 rcases lt2 h with rfl | rfl<;>rfl
theorem mR {x:Int}:(dQ x).length=5:=cC
theorem repL {d:D}:∀{n:Nat},cZ [d] n=List.replicate n d
 | 0=>rfl
 | n+1=>congrArg (d:: ·) (repL (n:=n))
theorem mulE {n:Nat} (h:n≤10):binop .Mult (.list [.str (Str.ofString "")]) (.int (n:Int))=some (.list (sD (List.replicate n ""))):=by
 show guard (fits n&&fits (1 * n)) (.list (cZ [.str (Str.ofString "")] n))=_
 rw[ae h rfl,ae (Nat.mul_le_mul_left 1 h) rfl,repL]
 unfold sD
 rw[List.map_replicate];rfl
theorem Cn {b:Bool} {k i:Nat} {ys:List Nat} {locs:List (Nat×List Nat)} (hk:k<2) (hi:i<7):
 modS (match b with | true=>some ⟨if k=1 then some i else none,ys,locs⟩ | false=>none)=(match b&&(bN i).2&&decide ((k:Int)=1)with | true=>"(module $"++(bN i).1 | false=>"(module"):=by
 cases b
 · rfl
 · rcases lt2 hk with rfl | rfl<;>rcases lt7 hi with rfl | rfl | rfl | rfl | rfl | rfl | rfl<;>kernel_rfl
noncomputable def fnF (m:Im):Option D:=if isFn m.a=true then some (imD m)else none
theorem wd:∀{l:List Im},(l.filterMap fnF).length=nfn l
 | []=>rfl
 | m::l=>by
   have ih:=wd (l:=l)
   show ((m::l).filterMap fnF).length=(if isFn m.a=true then 1 else 0)+nfn l
   rw[List.filterMap_cons]
   unfold fnF at ih ⊢
   cases isFn m.a with
   | true=>rw[if_pos rfl,if_pos rfl];dsimp only;rw[List.length_cons,ih,Nat.add_comm]
   | false=>rw[if_neg Bool.false_ne_true,if_neg Bool.false_ne_true];dsimp only;rw[ih,Nat.zero_add]
noncomputable def fkO (y:Int):Nat:=md y 4
noncomputable def flO (y:Int):List Vk:=kz (y.fdiv 12) (md (y.fdiv 4) 3)
theorem lz {y:Int}:(flO y).length≤2:=by
 unfold flO;rw[jY];exact Nat.le_of_lt_succ (aj (by decide))
noncomputable abbrev fnO (kind:Nat) (locals:List Vk) (body:List D):LO:= .obj "Func" [("kind",.v (.int (kind:Nat))),("locals",.v (.tup (kD locals))),("body",.v (.list body))]
theorem hY {led:Led} {o o2:LO}:put (led++[o]) led.length o2=led++[o2]:=pA
theorem r8 {n:Nat} {a b c:D} {led:Led} (hn:1≤n):af cx n "Func" [.v a,.v b,.v c] led (.r led.length) (led++[.obj "Func" [("kind",.v a),("locals",.v b),("body",.v c)]]):=by
 have h:∃l,af cx n "Func" [.v a,.v b,.v c] led (.r led.length) l∧l=led++[.obj "Func" [("kind",.v a),("locals",.v b),("body",.v c)]]:=by
  refine objR (y:="Func") (d:=dfM 75 0) (mt:=[]) [.o (.obj "Func" []),.o (.obj "Func" [("kind",.v a)]),.o (.obj "Func" [("kind",.v a),("locals",.v b)])] (by kernel_rfl) (one_le hn) λm1 hm=>?_
  refine And.intro ⟨?_,?_,gf,trivial⟩ ⟨rfl,?_⟩
  · rw[hY,hY];exact gf
  · rw[hY];exact gf
  · rw[hY,hY];exact hY
 obtain⟨_,h,rfl⟩:=h
 exact h
theorem CF {n:Nat} {ids:List Str}:List.take (bound ((n:Int)+2) (sD ids).length - 0) (List.drop 0 (sD ids))=sD (ids.take (n+2)):=by
 have e:bound ((n:Int)+2) (sD ids).length=min (n+2) ids.length:=by rw[aF];rfl
 rw[e,List.drop_zero,Nat.sub_zero]
 unfold sD
 rw[List.map_take]
 have e2:=List.take_eq_take_min (l:=ids.map D.str) (i:=n+2)
 rw[List.length_map]at e2
 exact e2.symm
noncomputable def iC (ks:List Kn) (y:Int):Nat:=(flO y).length+(knL ks (fkO y)).p.length
theorem Ee {g:Eng} (H:EOk g) {elt:Expr} {ifs:List Expr} {sc:Scope} {x:Str} {loc:Loc}:∀{as:List AV} (f:Nat→D) (L:Nat→Led),
 (∀i a,as[i]? =some a→∃ad,gm (xE fuel {g with sc:=sc}) elt ifs sc x loc a (L i) (λo l=>tell (o=some (f i)∧l=L (i+1))) ad True)→cH g.c g.n sc loc elt ifs x as (L 0) ((List.range as.length).map f) (L as.length)
 | [],_,_,_=>⟨rfl,rfl⟩
 | a::as,f,L,h=>by
   obtain⟨ad,q⟩:=h 0 a rfl
   obtain⟨o,l2,⟨rfl,rfl⟩,z⟩:=yQ H ad q
   refine⟨_,_,_,z,Ee H (as:=as) (λi=>f (i+1)) (λi=>L (i+1)) (λi b e=>h (i+1) b e),?_⟩
   rw[List.length_cons,List.range_succ_eq_map,List.map_cons,List.map_map]
   rfl
theorem DP:∀{m i:Nat},(cY i m).length=m
 | 0,i=>rfl
 | m+1,i=>congrArg (· +1) DP
noncomputable def qW (s:List Int) (i m:Nat):List Sp:=(List.range m).map λj=>dY (nx s (i+j))
noncomputable abbrev lS (c:Sp→Option (Nat×Nat)) (ids lids:List Str) (l:List Sp):List D:=l.map λsp=>dI ids lids (c sp) sp
theorem rY {b:Bool} {l:List Str}:(cO b l).length=l.length:=by
 unfold cO;cases b
 · exact List.length_replicate
 · rfl
theorem iW {b:Bool} {l:List Str} (h:∀s∈l,s.length≤4):∀s∈cO b l,s.length≤4:=by
 unfold cO;cases b
 · intro s hs;rw[(List.mem_replicate.mp hs).2];decide
 · exact h
theorem FA {ks:List Kn} {k:Nat} (h:∀k∈ks,fU k):fU (knL ks k):=by
 unfold knL
 rw[List.getD_eq_getElem?_getD]
 cases e:ks[k]? with
 | none=>exact kn00
 | some kn=>exact h kn (List.mem_of_getElem? e)
theorem zq {ks:List Kn} {y:Int} (h:∀k∈ks,fU k):iC ks y≤4:=Nat.add_le_add lz (FA (k:=fkO y) h).1
theorem oj {s:List Int} {i m:Nat}:(qW s i m).length=m:=cU
theorem qV {s:List Int} {i m:Nat}:∀sp∈qW s i m,pz sp:=by
 intro sp h
 obtain⟨j,hj,rfl⟩:=List.mem_map.mp h
 exact BJ
noncomputable def fy (b:Bool) (ks:List Kn) (y z:Int):List Str:=cO b (bD (aR (z.fdiv 6) (iC ks y)) (iC ks y))
noncomputable def hdT (b:Bool) (ks:List Kn) (ids:List Str) (n:Nat) (y z:Int):Str:=dq (dS ids n) (fkO y) (knL ks (fkO y)) (flO y) (fy b ks y z)
noncomputable def plR (b:Bool) (ks:List Kn) (ids:List Str) (n:Nat) (y z:Int) (l:List Sp):List Str:=[hdT b ks ids n y z]++(l.map λsp=>ind (spS ids (fy b ks y z) sp))++[(")":Str)]
noncomputable def foR (b:Bool) (ks:List Kn) (ids:List Str) (n:Nat) (y z:Int) (c:Sp→Option (Nat×Nat)) (l:List Sp):List Str:=[hdT b ks ids n y z]++((bJ ids (fy b ks y z) c l).1++(bJ ids (fy b ks y z) c l).2).map ind++[(")":Str)]
end Mine
end
section
open PySem
namespace Mine
variable {cx:Cx}
noncomputable abbrev cP (s:List Int) (x:Int) (b:Bool) (ids:List Str) (mark:Str) (n:Nat) (pl fo:List D):Loc:=[("script",scD s),("pen",.r 0),("x",.v (.int x)),("module",.r 1),("names",.r 12),("rows",.r 18),("told_kinds",.r 16),("is_named",.v (.bool b)),("ids",.v (.list (sD ids))),("mark",.v (.str mark)),("first",.v (.int (n:Nat))),("plain",.v (.list pl)),("folded",.v (.list fo))]
noncomputable def faT:Bool→Nat
 | false=>19 | true=>20
noncomputable def plT:Bool→Nat
 | false=>0 | true=>1
noncomputable abbrev cT (s:List Int) (x:Int) (b:Bool) (ids:List Str) (mark:Str) (n:Nat) (pl fo:List D) (p f z:AV) (more:Loc):Loc:=
 ("script",scD s)::("pen",.r 0)::("x",.v (.int x))::("module",.r 1)::("names",.r 12)::("rows",.r 18)::("told_kinds",.r 16)::("is_named",.v (.bool b))::("ids",.v (.list (sD ids)))::("mark",.v (.str mark))::("first",.v (.int (n:Nat)))::("plain",.v (.list pl))::("folded",.v (.list fo))::("place",p)::("func",f)::("y",z)::more
noncomputable def lwT (s:List Int) (i:Nat) (t:Bool) (ks:List Kn) (ims:List Im) (nm lo cur oth r0 r2 r3:LO):Led:=match t with
 | false=>LW s i (.list (ks.map knD)) (.frz (.list (ims.map imD))) (.lrefs [19,20]) nm (.dict []) lo [r0,.list (ks.map tkL),r2,r3,cur,oth]
 | true=>LW s i (.frz (.list (ks.map knD))) (.frz (.list (ims.map imD))) (.lrefs [19,20]) nm (.dict []) lo [r0,.frz (.list (ks.map tkL)),r2,r3,oth,cur]
noncomputable def lwF (s:List Int) (i:Nat) (t:Bool) (ks:List Kn) (ims:List Im) (nm lo cur oth r0 r2 r3:LO):Led:=match t with
 | false=>LW s i (.frz (.list (ks.map knD))) (.frz (.list (ims.map imD))) (.lrefs [19,20]) nm (.dict []) lo [r0,.frz (.list (ks.map tkL)),r2,r3,cur,oth]
 | true=>LW s i (.frz (.list (ks.map knD))) (.frz (.list (ims.map imD))) (.lrefs [19,20]) nm (.dict []) lo [r0,.frz (.list (ks.map tkL)),r2,r3,oth,cur]
noncomputable abbrev tst (j:Nat):Stmt:=stB (bu (lst 20)) j
section
variable {s:List Int} {i n:Nat} {x:Int} {mm:Nat} {ks:List Kn} {nm lo oth r0 r2 r3:LO} {b t:Bool} {ids lids:List Str} {pl fo body:List D} {ims:List Im} {mark:Str} {p f z:AV} {led:Led}
theorem zp {kind:Nat} {locals:List Vk} (hk:kind<4) (hks:ks.length≤3) (hko:∀k∈ks,fU k):Ex cx mm (dfD 140).sc (cT s x b ids mark n pl fo p (.r (faT t)) z []) (opR (asE (tst 1))) (lwT s i t ks ims nm lo (fnO kind locals body) oth r0 r2 r3) (.v (.int ((knL ks kind).p.length:Nat))) (lwT s i t ks ims nm lo (fnO kind locals body) oth r0 r2 r3):=by
 have fk:=aq (f:=knD) hks rfl
 cases hkn:ks[kind]? with
 | none=>
   have hge:ks.length≤kind:=by
    rcases Nat.lt_or_ge kind ks.length with h | h
    · rw[List.getElem?_eq_getElem h]at hkn;cases hkn
    · exact h
   have e:knL ks kind=⟨[],[]⟩:=by unfold knL;rw[List.getD_eq_getElem?_getD,hkn];rfl
   have c2:decide ((kind:Int)<Int.ofNat (List.map knD ks).length)=false:=decide_eq_false (by rw[List.length_map];exact λz=>Nat.not_lt.mpr hge (Int.ofNat_lt.mp z))
   rw[e]
   cases t
   · refine eV (g:=gL cx mm) [.f] ?_
     exact And.intro ⟨c2,fk,trivial⟩ ⟨rfl,rfl⟩
   · refine eV (g:=gL cx mm) [.f] ?_
     exact And.intro ⟨c2,fk,trivial⟩ ⟨rfl,rfl⟩
 | some kn=>
   have hlt:kind<ks.length:=(List.getElem?_eq_some_iff.mp hkn).1
   have e:knL ks kind=kn:=by unfold knL;rw[List.getD_eq_getElem?_getD,hkn];rfl
   have it:item (.list (ks.map knD)) (.int (kind:Int))=some (knD kn):=item_list (ai (Nat.le_of_lt hk) rfl) (by rw[List.getElem?_map,hkn];rfl)
   have c2:decide ((kind:Int)<Int.ofNat (List.map knD ks).length)=true:=decide_eq_true (by rw[List.length_map];exact Int.ofNat_lt.mpr hlt)
   obtain⟨q1,q2⟩:=hko kn (List.mem_of_getElem? hkn)
   have fp:fits (kD kn.p).length=true:=by rw[iS];exact ae q1 rfl
   have ee:AV.v (.int (Int.ofNat (kD kn.p).length))=AV.v (.int ((kn.p.length:Nat):Int)):=congrArg (λk:Nat=>AV.v (.int (k:Int))) iS
   rw[e]
   cases t
   · refine eV (g:=gL cx mm) [.t,.i (knD kn)] ?_
     exact And.intro ⟨fp,it,c2,fk,trivial⟩ ⟨ee,rfl⟩
   · refine eV (g:=gL cx mm) [.t,.i (knD kn)] ?_
     exact And.intro ⟨fp,it,c2,fk,trivial⟩ ⟨ee,rfl⟩
theorem zt {m:Nat} {d:AV} {lids':List Str} (he:cO b lids=lids') (hl:lids.length=m) (hm:m≤10):Ex cx mm (dfD 140).sc (cT s x b ids mark n pl fo p f z [("many",.v (.int (m:Nat))),("named",d),("local_ids",.v (.list (sD lids)))]) (asE (tst 4)) led (.v (.list (sD lids'))) led:=by
 rw[←he]
 cases b
 · refine eV (g:=gL cx mm) [.b (.list (sD (List.replicate m "")))] ?_
   exact And.intro ⟨mulE hm,trivial⟩ ⟨by unfold cO;rw[hl],rfl⟩
 · refine eV (g:=gL cx mm) [] ?_
   exact And.intro trivial ⟨rfl,rfl⟩
end
end Mine
end
section
open PySem
namespace Mine
variable {cx:Cx}
theorem uS:∀{m i j:Nat} {a:AV},(cY i m)[j]? =some a→j<m∧a= .v (.int ((i+j:Nat):Int))
 | 0,i,j,a,h=>nE h
 | m+1,i,0,a,h=>⟨Nat.succ_pos _,(Option.some.inj h).symm⟩
 | m+1,i,j+1,a,h=>have q:=uS (m:=m) (i:=i+1) (j:=j) h
   ⟨Nat.succ_lt_succ q.1,q.2.trans (by rw[Nat.add_right_comm];rfl)⟩
theorem Eb {g:Eng} {elt:Expr} {ifs:List Expr} {sc:Scope} {x:Str} {loc:Loc} {m:Nat} {ds:List D} (f:Nat→D) (L:Nat→Led) (e:(List.range m).map f=ds)
 (h:∀j,j<m→∃ad,gm (xE fuel {g with sc:=sc}) elt ifs sc x loc (.v (.int (j:Int))) (L j) (λo l=>tell (o=some (f j)∧l=L (j+1))) ad True) (H:EOk g:=by exact fE _ _ _ _):cH g.c g.n sc loc elt ifs x (cY 0 m) (L 0) ds (L m):=by
 have q:=Ee H (elt:=elt) (ifs:=ifs) (sc:=sc) (x:=x) (loc:=loc) (as:=cY 0 m) f L λj a hj=>have w:=uS hj;(w.2.trans (by rw[Nat.zero_add]))▸h j w.1
 rw[DP]at q
 exact e▸q
theorem lL {α:Type} {a b:List α} {n m:Nat} (h1:a.length≤n) (h2:b.length≤m):(a++b).length≤n+m:=by rw[List.length_append];exact Nat.add_le_add h1 h2
section
variable {s:List Int} {i n:Nat} {x:Int} {mm:Nat} {ks:List Kn} {oth r0 r2 r3:LO} {b:Bool} {ids lids F:List Str} {ims:List Im} {mark hd:Str} {mD:D} {fA:AV} {ld nd:List (Int×D)} {body pl fo pl' fo':List D} {many m kind k1 k2:Nat} {z:Int} {locals:List Vk} {l0:List Str} {c:Sp→Option (Nat×Nat)} {sps:List Sp}
theorem turnC (t:Bool) (hk:kind<4) (hks:ks.length≤3) (hko:∀k∈ks,fU k) (hlo:locals.length≤2) (hmy:locals.length+(knL ks kind).p.length=many) (hm:m≤5) (hb6:binop .Mod (.int z) (.int 6)=some (.int (m:Int)))
 (hnx:∀l,af cx mm "_law_next" [.r 0] (cg s i::l) (.v (.int z)) (cg s (i+1)::l))
 (hid:∀led,af cx mm "_law_ids" [.v (.int (z.fdiv 6)),.v (.int (many:Nat))] led (.v (.tup [.dict nd,.list (sD l0)])) led) (hl0:l0.length=many) (hm10:many≤10) (hli:cO b l0=lids) (hld:ld.length≤3)
 (hnx2:∀j,j<m→∀l,af cx mm "_law_next" [.r 0] (cg s (i+1+j)::l) (.v (.int (nx s (i+1+j)))) (cg s (i+1+j+1)::l))
 (hst:∀i lo w,af cx mm "_law_step" [.v (.int w),.r 1,.v (.list (sD ids)),.v (.list (sD lids))] (lwT s i t ks ims (nmO mD fA) lo (fnO kind locals body) oth r0 r2 r3) (.v (dI ids lids (c (dY w)) (dY w))) (lwT s i t ks ims (nmO mD fA) lo (fnO kind locals body) oth r0 r2 r3))
 (hsp:qW s (i+1) m=sps) (hhd:∀args led led1,bH args led=some ([.int ((n+plT t:Nat):Int),fuB kind locals (b8 sps),.list (ks.map knD),.list (ks.map tkL),.list (sD ids),.list (sD lids)],led1)→af cx mm "_law_head" args led (.v (.str hd)) led1)
 (hfd:∀led,af cx mm "_law_folded" [.v (.list (sps.map λsp=>dI ids lids (c sp) sp))] led (.v (.list (sD F))) led) (hx:∀sp∈sps,fits (2+(spS ids lids sp).length)=true) (hF:∀w∈F,fits (2+w.length)=true) (hFl:F.length≤5)
 (hpl:pl.length≤10) (hfo:fo.length≤10) (e1:pl++[.str hd]++(sps.map λsp=> .str (ind (spS ids lids sp)))++[.str ")"]=pl') (e2:fo++[.str hd]++(F.map λs=> .str (ind s))++[.str ")"]=fo'):
 ∃f l1 led1,(led1=lwF s (i+1+m) t ks ims (nmO mD fA) (.dict (dz ld ((n+plT t:Nat):Int) (.dict nd))) (.frz (fuB kind locals (b8 sps))) oth r0 r2 r3∧(f= .next∨f= .cont)∧SubL (cP s x b ids mark n pl' fo') l1)∧
  bA (gL cx mm).c (gL cx mm).n (gL cx mm).sc (bF (lst 20)) (bu (lst 20)) (.two (.v (.int (plT t:Nat))) (.r (faT t))) (cP s x b ids mark n pl fo) (lwT s i t ks ims (nmO mD fA) (.dict ld) (fnO kind locals body) oth r0 r2 r3) f l1 led1:=by
 have hsl:sps.length≤5:=by rw[←hsp,oj];exact hm
 have fl:fits (kD locals).length=true:=by rw[iS];exact ae hlo rfl
 have hmy:binop .Add (.int (Int.ofNat (kD locals).length)) (.int ((knL ks kind).p.length:Nat))=some (.int (many:Nat)):=by rw[←hmy,iS];rfl
 have f6:fits m=true:=ae hm rfl
 have fs:∀{f:Sp→D},fits (sps.map f).length=true:=λ{f}=>by rw[List.length_map];exact ae hsl rfl
 have hxx:(List.range m).map (λj=>dI ids lids (c (dY (nx s (i+1+j)))) (dY (nx s (i+1+j))))=lS c ids lids sps:=by rw[←hsp];unfold qW lS;rw[List.map_map];rfl
 have fst:fits (lS c ids lids sps).length=true:=fs
 have fs1:fits ((sps.map spD).length+1)=true:=by rw[List.length_map];exact ae (Nat.succ_le_succ hsl) rfl
 have fF:fits (F.map λs=>D.str (ind s)).length=true:=ae (gF hFl) rfl
 have fp1:fits (pl.length+1)=true:=ae (Nat.succ_le_succ hpl) rfl
 have fo1:fits (fo.length+1)=true:=ae (Nat.succ_le_succ hfo) rfl
 have fp2:fits ((pl++[D.str hd]).length+(sps.map λsp=>D.str (ind (spS ids lids sp))).length)=true:=ae (Nat.add_le_add (lL hpl (Nat.le_refl 1)) (gF hsl)) rfl
 have fo2:fits ((fo++[D.str hd]).length+(F.map λs=>D.str (ind s)).length)=true:=ae (Nat.add_le_add (lL hfo (Nat.le_refl 1)) (gF hFl)) rfl
 have fp3:fits ((pl++[D.str hd]++(sps.map λsp=>D.str (ind (spS ids lids sp)))).length+1)=true:=ae (Nat.succ_le_succ (lL (lL hpl (Nat.le_refl 1)) (gF hsl))) rfl
 have fo3:fits ((fo++[D.str hd]++(F.map λs=>D.str (ind s))).length+1)=true:=ae (Nat.succ_le_succ (lL (lL hfo (Nat.le_refl 1)) (gF hFl))) rfl
 have fd:fits ld.length=true:=ae hld rfl
 cases t
 · refine aH (g:=gL cx mm) [.r (.v (.int z)) (lwT s (i+1) false ks ims (nmO mD fA) (.dict ld) (fnO kind locals body) oth r0 r2 r3),.e (.v (.int ((knL ks kind).p.length:Nat))),.b (.int (many:Nat)),.b (.int (z.fdiv 6)),.p (.tup [.dict nd,.list (sD l0)]),.b (.int ((n+0:Nat):Int)),.e (.v (.list (sD lids))),.b (.int (m:Nat)),.l (lS c ids lids sps) (lwT s (i+1+m) false ks ims (nmO mD fA) (.dict (dz ld ((n+0:Nat):Int) (.dict nd))) (fnO kind locals body) oth r0 r2 r3),.q (sps.map spD),.b (.int ((n+0:Nat):Int)),.r (.v (.str hd)) (lwF s (i+1+m) false ks ims (nmO mD fA) (.dict (dz ld ((n+0:Nat):Int) (.dict nd))) (.frz (fuB kind locals (b8 sps))) oth r0 r2 r3),.q (sps.map λsp=> .str (ind (spS ids lids sp))),.p (.list (sD F)),.q (F.map λs=> .str (ind s))] ?_
   refine And.intro ?_ ⟨rfl,.inl rfl,eE e1 (eE e2 (SubL.drop rfl))⟩
   exact⟨fo3,fo2,fF,cw (A:=λs=> .v (.str s)) (f:=λs=> .str (ind s)) rfl tn (λs h=>⟨[],show (_∧True)∧_∧_ from ⟨⟨hF s h,trivial⟩,rfl,rfl⟩⟩),hfd _,fo1,fp3,fp2,fs,cw (A:=λsp=> .v (dI ids lids (c sp) sp)) (f:=λsp=> .str (ind (spS ids lids sp))) rfl (List.map_map ..) (λsp h=>⟨[],show (_∧True)∧_∧_ from ⟨⟨hx sp h,trivial⟩,rfl,rfl⟩⟩),fp1,hhd _ _ _ (by kernel_rfl),rfl,fs1,fs,cw (A:=λsp=> .v (dI ids lids (c sp) sp)) (f:=spD) rfl (List.map_map ..) (λsp _=>⟨[],show True∧_∧_ from ⟨trivial,rfl,rfl⟩⟩),fst,
    Eb (λj=>dI ids lids (c (dY (nx s (i+1+j)))) (dY (nx s (i+1+j)))) (λj=>lwT s (i+1+j) false ks ims (nmO mD fA) (.dict (dz ld ((n+0:Nat):Int) (.dict nd))) (fnO kind locals body) oth r0 r2 r3) hxx (λj hj=>⟨[.r (.v (.int (nx s (i+1+j)))) (lwT s (i+1+j+1) false ks ims (nmO mD fA) (.dict (dz ld ((n+0:Nat):Int) (.dict nd))) (fnO kind locals body) oth r0 r2 r3),.p (dI ids lids (c (dY (nx s (i+1+j)))) (dY (nx s (i+1+j))))],show (_∧_∧True)∧_∧_ from ⟨⟨hst _ _ _,hnx2 j hj _,trivial⟩,rfl,rfl⟩⟩),f6,hb6,zt hli hl0 hm10,fd,rfl,hid _,rfl,hmy,zp hk hks hko,fl,hnx _,trivial⟩
 · refine aH (g:=gL cx mm) [.r (.v (.int z)) (lwT s (i+1) true ks ims (nmO mD fA) (.dict ld) (fnO kind locals body) oth r0 r2 r3),.e (.v (.int ((knL ks kind).p.length:Nat))),.b (.int (many:Nat)),.b (.int (z.fdiv 6)),.p (.tup [.dict nd,.list (sD l0)]),.b (.int ((n+1:Nat):Int)),.e (.v (.list (sD lids))),.b (.int (m:Nat)),.l (lS c ids lids sps) (lwT s (i+1+m) true ks ims (nmO mD fA) (.dict (dz ld ((n+1:Nat):Int) (.dict nd))) (fnO kind locals body) oth r0 r2 r3),.q (sps.map spD),.b (.int ((n+1:Nat):Int)),.r (.v (.str hd)) (lwF s (i+1+m) true ks ims (nmO mD fA) (.dict (dz ld ((n+1:Nat):Int) (.dict nd))) (.frz (fuB kind locals (b8 sps))) oth r0 r2 r3),.q (sps.map λsp=> .str (ind (spS ids lids sp))),.p (.list (sD F)),.q (F.map λs=> .str (ind s))] ?_
   refine And.intro ?_ ⟨rfl,.inl rfl,eE e1 (eE e2 (SubL.drop rfl))⟩
   exact⟨fo3,fo2,fF,cw (A:=λs=> .v (.str s)) (f:=λs=> .str (ind s)) rfl tn (λs h=>⟨[],show (_∧True)∧_∧_ from ⟨⟨hF s h,trivial⟩,rfl,rfl⟩⟩),hfd _,fo1,fp3,fp2,fs,cw (A:=λsp=> .v (dI ids lids (c sp) sp)) (f:=λsp=> .str (ind (spS ids lids sp))) rfl (List.map_map ..) (λsp h=>⟨[],show (_∧True)∧_∧_ from ⟨⟨hx sp h,trivial⟩,rfl,rfl⟩⟩),fp1,hhd _ _ _ (by kernel_rfl),rfl,fs1,fs,cw (A:=λsp=> .v (dI ids lids (c sp) sp)) (f:=spD) rfl (List.map_map ..) (λsp _=>⟨[],show True∧_∧_ from ⟨trivial,rfl,rfl⟩⟩),fst,
    Eb (λj=>dI ids lids (c (dY (nx s (i+1+j)))) (dY (nx s (i+1+j)))) (λj=>lwT s (i+1+j) true ks ims (nmO mD fA) (.dict (dz ld ((n+1:Nat):Int) (.dict nd))) (fnO kind locals body) oth r0 r2 r3) hxx (λj hj=>⟨[.r (.v (.int (nx s (i+1+j)))) (lwT s (i+1+j+1) true ks ims (nmO mD fA) (.dict (dz ld ((n+1:Nat):Int) (.dict nd))) (fnO kind locals body) oth r0 r2 r3),.p (dI ids lids (c (dY (nx s (i+1+j)))) (dY (nx s (i+1+j))))],show (_∧_∧True)∧_∧_ from ⟨⟨hst _ _ _,hnx2 j hj _,trivial⟩,rfl,rfl⟩⟩),f6,hb6,zt hli hl0 hm10,fd,rfl,hid _,rfl,hmy,zp hk hks hko,fl,hnx _,trivial⟩
end
end Mine
end
section
open PySem
namespace Mine
variable {cx:Cx}
theorem oy {c:Cx} {n:Nat} {sc:Scope} {t:Expr} {body:List Stmt} {i:It} {is:List It} {A0 A1 l2:Loc} {L0 L1 bT:Led} {f':Fl} (h:∃f l1 led1,(led1=L1∧(f= .next∨f= .cont)∧SubL A1 l1)∧bA c n sc t body i A0 L0 f l1 led1)
 (k:bf c n sc t body is A1 L1 f' l2 bT):bf c n sc t body (i::is) A0 L0 f' l2 bT:=h.elim λf z=>z.elim λl1 z=>z.elim λled1 z=>⟨f,l1,led1,z.2,z.1.2.1.elim (λe=>by rw[e,z.1.1];exact bf.wk z.1.2.2 k) λe=>by rw[e,z.1.1];exact bf.wk z.1.2.2 k⟩
theorem qY {pl l:List Str} {hd:Str} {α:Type} {xs:List α} {g:α→Str} (h:xs.map g=l):sD pl++[D.str hd]++(xs.map λa=>D.str (g a))++[D.str ")"]=sD (pl++([hd]++l++[(")":Str)])):=by
 rw[←h]
 unfold sD
 rw[List.map_append,List.map_append,List.map_append,List.map_map,List.append_assoc,List.append_assoc,List.append_assoc]
 rfl
noncomputable def z1 (s:List Int) (i:Nat):Nat:=i+1+md (nx s i) 6
noncomputable def iM (s:List Int) (i:Nat):List Sp:=qW s (i+1) (md (nx s i) 6)
noncomputable def ysA (ks:List Kn) (s:List Int) (i:Nat) (y:Int):List Nat:=aR ((nx s i).fdiv 6) (iC ks y)
noncomputable def AS (b:Bool) (ks:List Kn) (ids:List Str) (n:Nat) (s:List Int) (i:Nat) (y0 y1:Int):List Str:=
 plR b ks ids n y0 (nx s i) (iM s i)++plR b ks ids (n+1) y1 (nx s (z1 s i)) (iM s (z1 s i))
noncomputable def AU (b:Bool) (ks:List Kn) (ids:List Str) (n:Nat) (s:List Int) (i:Nat) (y0 y1:Int) (c:Sp→Option (Nat×Nat)):List Str:=
 foR b ks ids n y0 (nx s i) c (iM s i)++foR b ks ids (n+1) y1 (nx s (z1 s i)) c (iM s (z1 s i))
noncomputable def fuA (s:List Int) (i:Nat) (y:Int):Fu:=⟨fkO y,flO y,iM s i⟩
theorem dJ {s:List Int} {i:Nat}:(iM s i).length≤5:=by unfold iM;rw[oj];exact Nat.le_of_lt_succ (aj (by decide))
section
variable {s:List Int} {i n:Nat} {x y y0 y1:Int} {mm:Nat} {ks:List Kn} {oth r0 r2 r3:LO} {b:Bool} {ids pl fo:List Str} {ims:List Im} {mark:Str} {mD:D} {fA:AV} {ld:List (Int×D)} {body:List D} {k1 k2:Nat} {z:Int} {c:Sp→Option (Nat×Nat)} {l:List Sp}
theorem vh:(plR b ks ids n y z l).length=l.length+2:=by
 unfold plR
 rw[List.length_append,List.length_append,List.length_map];exact congrArg Nat.succ (Nat.add_comm 1 _)
theorem DV {lids:List Str} (hx:∀s∈l,(spS ids lids s).length≤2000):((bJ ids lids c l).1++(bJ ids lids c l).2).length≤l.length:=by
 have q:=(gJ hx l.length (c:=c)).2
 rw[List.take_length]at q
 rw[List.length_append]
 exact q
theorem wc (hx:∀s∈l,(spS ids (fy b ks y z) s).length≤2000):(foR b ks ids n y z c l).length≤l.length+2:=by
 unfold foR
 rw[List.length_append,List.length_append,List.length_map]
 exact Nat.succ_le_succ (Nat.le_trans (Nat.le_of_eq (Nat.add_comm 1 _)) (Nat.succ_le_succ (DV hx)))
theorem stF_m {lids:List Str} (hx:∀s∈l,(spS ids lids s).length≤2000) (hl:l.length≤5):∀w∈(bJ ids lids c l).1++(bJ ids lids c l).2,w.length≤20000:=λw h=>by
 have q:=(gJ hx l.length (c:=c)).1
 rw[List.take_length]at q
 have u:l.length * 2004≤10020:=Nat.mul_le_mul_right _ hl
 exact(List.mem_append.mp h).elim (λm=>Nat.le_trans (Nat.le_trans (Nat.le_of_succ_le (e9 m)) (Nat.le_trans (Nat.le_add_right ..) q)) (Nat.le_trans u (by decide))) λm=>Nat.le_trans (Nat.le_trans (Nat.le_of_succ_le (e9 m)) (Nat.le_trans (Nat.le_add_left ..) q)) (Nat.le_trans u (by decide))
theorem EW {i j:Nat} (h4:∀w∈ids,w.length≤4):∀sp∈iM s i,(spS ids (fy b ks y z) sp).length≤2000:=λsp h=>ai (pv h4 (iW bU) (qV sp h)) rfl
theorem DR (t:Bool) (hmm:3≤mm) (hs:s.length≤63) (hi:i≤300) (hks:ks.length≤3) (hko:∀k∈ks,fU k) (hld:ld.length≤3)
 (him:ims.length≤3) (hfk:∀k∈abL ims++[k1,k2],k<4) (hA:∀i lo,LawAt ks ims k1 k2 19 20 (.v .none) (lwT s i t ks ims (nmO mD fA) lo (fnO (fkO y) (flO y) body) oth r0 r2 r3))
 (hil:ids.length≤10) (hids:∀s∈ids,s.length≤4) (hn:n+plT t<ids.length) (hpl:pl.length≤10) (hfo:fo.length≤10):
 ∃f l1 led1,(led1=lwF s (z1 s i) t ks ims (nmO mD fA) (.dict (dz ld ((n+plT t:Nat):Int) (.dict (bp (ysA ks s i y))))) (.frz (fuD (fuA s i y))) oth r0 r2 r3∧(f= .next∨f= .cont)∧
  SubL (cP s x b ids mark n (sD (pl++plR b ks ids (n+plT t) y (nx s i) (iM s i))) (sD (fo++foR b ks ids (n+plT t) y (nx s i) (ku ks (abL ims++[k1,k2])) (iM s i)))) l1)∧
 bA (gL cx mm).c (gL cx mm).n (gL cx mm).sc (bF (lst 20)) (bu (lst 20)) (.two (.v (.int (plT t:Nat))) (.r (faT t))) (cP s x b ids mark n (sD pl) (sD fo)) (lwT s i t ks ims (nmO mD fA) (.dict ld) (fnO (fkO y) (flO y) body) oth r0 r2 r3) f l1 led1:=by
 have hm4:=zq (y:=y) hko
 have hlen:(bD (aR ((nx s i).fdiv 6) (iC ks y)) (iC ks y)).length=iC ks y:=cC
 have hls:∀w∈fy b ks y (nx s i),w.length≤4:=iW bU
 have hll:(fy b ks y (nx s i)).length=iC ks y:=by unfold fy;rw[rY];exact hlen
 have hxx:=EW (s:=s) (i:=i) (b:=b) (ks:=ks) (y:=y) (z:=nx s i) (j:=0) hids
 have hm1:=le_trans' hmm (j:=1) rfl
 have hm2:=le_trans' hmm (j:=2) rfl
 have hl2:fy b ks y (nx s i)=cO b (bD (aR ((nx s i).fdiv 6) (iC ks y)) (iC ks y)):=rfl
 exact turnC t (aj (by decide)) hks hko lz rfl (Nat.le_of_lt_succ (aj (by decide))) (cz (by decide)) (λl=>fq hm1 hs (ai hi rfl)) (λled=>mF hm2 (ai hm4 rfl)) hlen (ai hm4 rfl) hl2.symm hld
  (λj hj l=>fq hm1 hs (ai (Nat.add_le_add (Nat.succ_le_succ hi) (Nat.le_of_lt (Nat.lt_of_lt_of_le hj (Nat.le_of_lt_succ (aj (by decide)))))) rfl))
  (λi lo w=>rH hm2 (hA i lo) hks hko him hfk (ai hil rfl) (λi h=>ai (aY hids h) rfl) (ai (Nat.le_trans (Nat.le_of_eq hll) hm4) rfl) (λi h=>ai (aY hls h) rfl)) rfl
  (λargs led led1 ha=>rK ha hmm hn (aj (by decide)) hks hko lz hil hids (hll.trans (Nat.add_comm ..)) hls) (λled=>nS hm1 dJ hxx)
  (λsp h=>ae (Nat.add_le_add_left (hxx sp h) 2) rfl) (λw h=>ae (Nat.add_le_add_left (stF_m hxx dJ w h) 2) rfl) (Nat.le_trans (DV hxx) dJ) (ai (Nat.le_trans (Nat.le_of_eq aF) hpl) rfl) (ai (Nat.le_trans (Nat.le_of_eq aF) hfo) rfl) (qY rfl) (qY rfl)
theorem l_20 (hmm:3≤mm) (hs:s.length≤63) (hi:i≤200) (hks:ks.length≤3) (hko:∀k∈ks,fU k) (him:ims.length≤3) (hfk:∀k∈abL ims++[fkO y0,fkO y1],k<4)
 (hil:ids.length≤10) (hids:∀s∈ids,s.length≤4) (hn:n+1<ids.length):
 bf (gL cx mm).c (gL cx mm).n (gL cx mm).sc (bF (lst 20)) (bu (lst 20)) [.two (.v (.int ((0:Nat):Int))) (.r 19),.two (.v (.int ((1:Nat):Int))) (.r 20)] (cP s x b ids mark n [] []) (lwT s i false ks ims (nmO mD fA) (.dict []) (fnO (fkO y0) (flO y0) [opD [11]]) (fnO (fkO y1) (flO y1) [opD [11]]) r0 r2 r3) .next
  (cP s x b ids mark n (sD (AS b ks ids n s i y0 y1)) (sD (AU b ks ids n s i y0 y1 (ku ks (abL ims++[fkO y0,fkO y1])))))
  (LW s (z1 s (z1 s i)) (.frz (.list (ks.map knD))) (.frz (.list (ims.map imD))) (.lrefs [19,20]) (nmO mD fA) (.dict []) (.dict (dO [(n,ysA ks s i y0),(n+1,ysA ks s (z1 s i) y1)])) [r0,.frz (.list (ks.map tkL)),r2,r3,.frz (fuD (fuA s i y0)),.frz (fuD (fuA s (z1 s i) y1))]):=by
 have hlo:dz (dz [] ((n:Nat):Int) (.dict (bp (ysA ks s i y0)))) ((n+1:Nat):Int) (.dict (bp (ysA ks s (z1 s i) y1)))=dO [(n,ysA ks s i y0),(n+1,ysA ks s (z1 s i) y1)]:=by
  show (if (n:Int)=((n+1:Nat):Int)then _ else _)=_
  rw[if_neg (show¬(n:Int)=((n+1:Nat):Int) from λe=>Nat.ne_of_lt (Nat.lt_succ_self n) (Int.ofNat.inj e))]
  rfl
 have h0:=DR (cx:=cx) (mm:=mm) (x:=x) (s:=s) (i:=i) (n:=n) (b:=b) (ids:=ids) (pl:=[]) (fo:=[]) (mark:=mark) (mD:=mD) (fA:=fA) (ld:=[]) (body:=[opD [11]]) (y:=y0) (oth:=fnO (fkO y1) (flO y1) [opD [11]]) (r0:=r0) (r2:=r2) (r3:=r3) (k1:=fkO y0) (k2:=fkO y1) false hmm hs (ai hi rfl) hks hko (Nat.zero_le _) him hfk (λi lo=>⟨rfl,rfl,rfl,rfl,rfl,rfl⟩) hil hids (Nat.lt_of_succ_lt hn) (Nat.zero_le _) (Nat.zero_le _)
 have p0:(plR b ks ids n y0 (nx s i) (iM s i)).length≤10:=Nat.le_trans (Nat.le_of_eq vh) (Nat.le_trans (Nat.add_le_add_right dJ 2) (by decide))
 have q0:(foR b ks ids n y0 (nx s i) (ku ks (abL ims++[fkO y0,fkO y1])) (iM s i)).length≤10:=Nat.le_trans (wc (EW (j:=0) hids)) (Nat.le_trans (Nat.add_le_add_right dJ 2) (by decide))
 have zi:z1 s i≤300:=Nat.le_trans (Nat.add_le_add (Nat.succ_le_succ hi) (Nat.le_of_lt (aj (by decide)))) (by decide)
 have h1:=DR (cx:=cx) (mm:=mm) (x:=x) (s:=s) (i:=z1 s i) (n:=n) (b:=b) (ids:=ids) (mark:=mark) (mD:=mD) (fA:=fA) (ld:=dz [] ((n:Nat):Int) (.dict (bp (ysA ks s i y0)))) (body:=[opD [11]]) (y:=y1) (oth:= .frz (fuD (fuA s i y0))) (r0:=r0) (r2:=r2) (r3:=r3) (k1:=fkO y0) (k2:=fkO y1) true hmm hs zi hks hko (Nat.le_of_ble_eq_true rfl) him hfk (λi lo=>⟨rfl,rfl,rfl,rfl,rfl,rfl⟩) hil hids hn p0 q0
 exact hlo▸oy h0 (oy h1 ⟨rfl,λ_ _ e=>e,rfl⟩)
end
end Mine
end
section
open PySem
namespace Mine
variable {cx:Cx}
theorem oH {ys:List Nat} {n:Nat}:∀{k:Nat},(bD ys (n+k)).take n=bD ys n
 | 0=>List.take_of_length_le (Nat.le_of_eq cC)
 | k+1=>by
   rw[←Nat.add_assoc,ek,List.take_append_of_le_length (by rw[cC];exact Nat.le_add_right n k)]
   exact oH
theorem mP:∀{n:Nat},bD [] n=List.replicate n (Str.ofString "")
 | 0=>rfl
 | n+1=>by rw[ek,mP,List.replicate_succ'];rfl
theorem CD {ids:List Str} {k f:Nat} {m:Im} (h:isFn m.a=true→f<k):imS (ids.take k) f m=imS ids f m:=by
 unfold imS
 refine congrArg (λt:Str=>"(i\x6dport "++(strN m.p).2++ " "++(strN m.q).2++ " "++t++ ")") ?_
 cases e:isFn m.a with
 | true=>unfold dS;rw[List.getD_eq_getElem?_getD,List.getD_eq_getElem?_getD,List.getElem?_take,if_pos (h e)]
 | false=>exact(uw e).trans (uw e).symm
theorem mO {ids:List Str} {k:Nat}:∀{l:List Im} {f:Nat},f+nfn l≤k→az (ids.take k) f l=az ids f l
 | [],f,h=>rfl
 | m::l,f,h=>by
   show imS (ids.take k) f m::az (ids.take k) (f+(if isFn m.a then 1 else 0)) l=imS ids f m::az ids (f+(if isFn m.a then 1 else 0)) l
   exact congr (congrArg List.cons (CD λe=>Nat.lt_of_lt_of_le (Nat.lt_add_of_pos_right (Nat.lt_of_lt_of_le Nat.zero_lt_one (by show 1≤(if isFn m.a=true then 1 else 0)+nfn l;rw[if_pos e];exact Nat.le_add_right ..))) h)) (mO (l:=l) (Nat.le_trans (Nat.le_of_eq (Nat.add_assoc ..)) h))
theorem By {p:Nat×Nat}: "(table "++tabS .c p.1 p.2++ ")"=pq p:=by
 unfold pq tabS
 rw[show Str.ofString " funcref)"=Str.ofString " "++(Vk.c.s++Str.ofString ")")by kernel_rfl,dM,dM,dM,dM]
theorem wZ {m:Mo}:gK m=m.tables.map pq++m.memories.map tT:=congrArg (λf=>m.tables.map f++m.memories.map tT) (funext λp=>By)
noncomputable def moB (ks:List Kn) (ims:List Im) (f0 f1:Fu) (rs:Rs):Mo:=⟨ks,ims,[f0,f1],rs.tables,rs.memories,rs.globals,rs.exports,rs.start,rs.elems,rs.datas⟩
noncomputable abbrev nnA (b:Bool) (x:Int) (n:Nat) (a0 a1:List Nat):Option Nn:=nnB b x [(n,a0),(n+1,a1)]
section
variable {s:List Int} {i n:Nat} {x y0 y1:Int} {ks:List Kn} {ims:List Im} {b:Bool} {rs:Rs} {a0 a1 a:List Nat}
theorem zO (hn:n≤3):bD (eT (nnA b x n a0 a1)) (n+2)=(cO b (dQ x)).take (n+2):=by
 cases b with
 | false=>exact mP.trans (by
   show _=(List.replicate (dQ x).length (Str.ofString "")).take (n+2)
   rw[mR,List.take_replicate,Nat.min_eq_left (Nat.add_le_add_right hn 2)])
 | true=>
   have q:=oH (ys:=aR (x.fdiv 3) 5) (n:=n+2) (k:=3 - n)
   rw[Nat.add_right_comm,Nat.add_sub_cancel' hn]at q
   exact q.symm
theorem lp {k:Nat} (h:b=true→dP (nnA b x n a0 a1) k=ysA ks s i y0):bD (dP (nnA b x n a0 a1) k) ((knL ks (fkO y0)).p.length+(flO y0).length)=fy b ks y0 (nx s i):=by
 rw[Nat.add_comm]
 cases b with
 | false=>exact mP.trans (congrArg (List.replicate · (Str.ofString "")) cC.symm)
 | true=>exact congrArg (bD · _) (h rfl)
theorem pO {l:List (Nat×List Nat)}:fT ((n,a)::l) n=a:=if_pos rfl
theorem loc2:fT [(n,a0),(n+1,a1)] (n+1)=a1:=(if_neg (Nat.ne_of_lt (Nat.lt_succ_self n))).trans pO
noncomputable abbrev moA (s:List Int) (i:Nat) (y0 y1:Int) (ks:List Kn) (ims:List Im) (rs:Rs):Mo:=moB ks ims (fuA s i y0) (fuA s (z1 s i) y1) rs
theorem fr_p {m:Mo} {nn:Option Nn} {ids:List Str} {k:Nat} (hk:m.kinds=ks) (hn:nfn m.imports+k=n) (hl:bD (dP nn n) ((knL ks (fkO y0)).p.length+(flO y0).length)=fy b ks y0 (nx s i)):aN false m nn ids k (fuA s i y0)=plR b ks ids n y0 (nx s i) (iM s i):=by
 unfold aN plR hdT cB
 rw[hk,hn,←hl]
 rfl
theorem fr_f {m:Mo} {nn:Option Nn} {ids:List Str} {k:Nat} (hk:m.kinds=ks) (hn:nfn m.imports+k=n) (hl:bD (dP nn n) ((knL ks (fkO y0)).p.length+(flO y0).length)=fy b ks y0 (nx s i)):aN true m nn ids k (fuA s i y0)=foR b ks ids n y0 (nx s i) (ku ks (fkL m)) (iM s i):=by
 unfold aN foR hdT cB gu
 rw[hk,hn,←hl,←hk,←wX]
 rfl
theorem vd {bb:Bool} {m:Mo} {nn:Option Nn} {ids R:List Str} (hm:m=moA s i y0 y1 ks ims rs) (hn:nfn ims=n) (hids:bD (eT nn) (n+2)=ids.take (n+2)) (h:aN bb m nn (ids.take (n+2)) 0 (fuA s i y0)++aN bb m nn (ids.take (n+2)) 1 (fuA s (z1 s i) y1)=R):rowsOf bb m nn=ks.map knS++az ids 0 ims++R++br (ids.take (n+2)) rs:=by
 subst hm
 unfold rowsOf
 rw[show nfn (moA s i y0 y1 ks ims rs).imports+(moA s i y0 y1 ks ims rs).funcs.length=n+2 from congrArg (· +2) hn,hids,←h]
 unfold kF br
 rw[wZ]
 show ks.map knS++az (ids.take (n+2)) 0 ims++(aN bb _ nn _ 0 (fuA s i y0)++(aN bb _ nn _ 1 (fuA s (z1 s i) y1)++[]))++(rs.tables.map pq++rs.memories.map tT++rs.globals.map glS++(rs.exports.map (exS _)++stS _ rs.start))++rs.elems.map (elS _)++rs.datas.map daS=_
 rw[mO (Nat.le_trans (Nat.le_of_eq (Nat.zero_add _)) (Nat.le_trans (Nat.le_of_eq hn) (Nat.le_add_right n 2))),List.append_nil]
 simp only[List.append_assoc]
theorem E0 (hn:nfn ims=n) (hn3:n≤3):rowsOf false (moA s i y0 y1 ks ims rs) (nnA b x n (ysA ks s i y0) (ysA ks s (z1 s i) y1))=ks.map knS++az (cO b (dQ x)) 0 ims++AS b ks ((cO b (dQ x)).take (n+2)) n s i y0 y1++br ((cO b (dQ x)).take (n+2)) rs:=
 vd rfl hn (zO hn3) (congr (congrArg HAppend.hAppend (fr_p rfl hn (lp λe=>by rw[e];exact pO))) (fr_p rfl (congrArg (· +1) hn) (lp λe=>by rw[e];exact loc2)))
theorem E1 (hn:nfn ims=n) (hn3:n≤3):rowsOf true (moA s i y0 y1 ks ims rs) (nnA b x n (ysA ks s i y0) (ysA ks s (z1 s i) y1))=ks.map knS++az (cO b (dQ x)) 0 ims++AU b ks ((cO b (dQ x)).take (n+2)) n s i y0 y1 (ku ks (abL ims++[fkO y0,fkO y1]))++br ((cO b (dQ x)).take (n+2)) rs:=
 vd rfl hn (zO hn3) (congr (congrArg HAppend.hAppend (fr_f rfl hn (lp λe=>by rw[e];exact pO))) (fr_f rfl (congrArg (· +1) hn) (lp λe=>by rw[e];exact loc2)))
end
theorem FF:∀{x:Str} {l:List Str},Str.join (Str.ofString "") (x::l)=x++Str.join (Str.ofString "") l
 | x,[]=>oZ.symm
 | x,y::l=>congrArg (· ++Str.join (Str.ofString "") (y::l)) wA
noncomputable def lnR (r:Str):Str:="  "++r++ "\n"
theorem join_rows {nl:Str}:∀{l:List Str} {a:Str},Str.join nl (a::l.map ind++[(")":Str)])++nl=a++nl++Str.join (Str.ofString "") (l.map λr=>ind r++nl)++(")"++nl)
 | [],a=>by
   show a++nl++(")":Str)++nl=a++nl++Str.empty++_
   rw[oZ,dM]
 | r::l,a=>by
   show a++nl++Str.join nl (ind r::l.map ind++[(")":Str)])++nl=a++nl++Str.join (Str.ofString "") ((ind r++nl)::l.map _)++_
   rw[FF,dM,join_rows,dM,dM (a:=a++nl),dM (a:=ind r++nl),dM (a:=a) (b:=nl)]
theorem u0 {b:Bool} {m:Mo} {nn:Option Nn} {R:List Str} (h:rowsOf b m nn=R):textOf b m nn=modS nn++ "\n"++Str.join (Str.ofString "") (R.map lnR)++ ")\n":=h▸join_rows (nl:="\n")
end Mine
end
section
open PySem
namespace Mine
variable {cx:Cx}
theorem ia {α β:Type} {f:α→β} {P:β→Prop} {l:List α} (h:∀a,P (f a)):∀k∈l.map f,P k:=λk hk=>(List.mem_map.mp hk).elim λa z=>z.2▸h a
theorem pI {α:Type} {a:α} {P:α→Prop} (h:P a):∀k∈[a],P k:=λk hk=>List.mem_singleton.mp hk▸h
theorem rn {α:Type} {P:α→Prop}:∀k∈([]:List α),P k:=λk hk=>nomatch hk
theorem uU {α:Type} {a b:α} {P:α→Prop} (h:P a) (h2:P b):∀k∈[a,b],P k:=λk hk=>(List.mem_cons.mp hk).elim (λe=>e▸h) (pI h2 k)
theorem Ai {s:List Int} {i:Nat} {y:Int}:nV (fuA s i y):=⟨aj (by decide),lz,dJ,qV⟩
theorem eW {α:Type} {f:Nat→α} {x:Int} {m:Nat} (h:0<m+1):((List.range (md x (m+1))).map f).length≤m:=by rw[cU];exact Nat.le_of_lt_succ (aj h)
theorem wR {x:Int}:∀k∈bg x,k.1<3∧k.2<3:=by
 unfold bg
 cases md x 2 with
 | zero=>exact pI ⟨aj (by decide),aj (by decide)⟩
 | succ _=>exact rn
theorem xi {x:Int}:∀k∈bC x,k.1<3∧k.2<3:=by
 unfold bC
 cases md (x.fdiv 2) 2 with
 | zero=>exact pI ⟨aj (by decide),aj (by decide)⟩
 | succ _=>exact rn
theorem tA {x:Int}:∀i,bR x=some i→i<4:=by
 unfold bR
 cases md (x.fdiv 240) 2 with
 | zero=>exact λi e=>nomatch e
 | succ _=>exact λi e=>Option.some.inj e▸aj (by decide)
theorem BN {s:List Int} {i:Nat} {ks:List Kn} {ims:List Im} {f0 f1:Fu} (hk:∀k∈ks,fU k) (hkl:ks.length≤3) (hi:∀k∈ims,pW k) (hil:ims.length≤3) (h0:nV f0) (h1:nV f1):MoOk (moB ks ims f0 f1 (j2 s i)):=
 ⟨hk,hkl,hi,hil,uU h0 h1,Nat.le_refl _,wR,iL,xi,iQ,ia λt=>vY,eW (m:=2) (by decide),ia λt=>wi,eW (m:=2) (by decide),tA,ia λt=>wj,eW (m:=2) (by decide),ia λt=>wo,eW (m:=2) (by decide)⟩
theorem GF {l:List Im} (h:∀m∈l,pW m):∀k∈abL l,k<4:=by
 intro k hk
 obtain⟨⟨p,q,a⟩,hm,e⟩:=List.mem_filterMap.mp hk
 cases a with
 | fn t=>exact Option.some.inj e▸(h _ hm).2.2
 | _=>cases e
theorem o8 {i:Nat}:yAt [] i<9:=Nat.le_of_ble_eq_true rfl
section
variable {b:Bool} {x:Int} {locs:List (Nat×List Nat)} {n:Nat} {ks:List Kn} {s:List Int} {i0 i1 i:Nat} {y0 y1:Int}
theorem vp:∀z i,nnB b x locs=some z→z.mod=some i→i<7:=λz i h1 h2=>by
 cases b with
 | false=>cases h1
 | true=>
   cases h1
   exact xq (c:=md (x.fdiv 7) 2=1) (a:=some (md x 7)) (b:=none) (P:=λo=>o=some i→i<7) (λe=>Option.some.inj e▸aj (by decide)) (λe=>nomatch e) h2
theorem vq (i:Nat):yAt (eT (nnB b x locs)) i<9:=by
 cases b with
 | false=>exact o8
 | true=>exact sZ
theorem vr (j i:Nat):yAt (dP (nnA b x n (ysA ks s i0 y0) (ysA ks s i1 y1)) j) i<9:=by
 cases b with
 | false=>exact o8
 | true=>exact xq (P:=λl=>yAt l i<9) sZ (xq (P:=λl=>yAt l i<9) sZ o8)
theorem ma {ids:List Str}:(br ids (j2 s i)).length≤11:=by
 unfold br
 exact lL (n:=9) (lL (n:=7) (lL (n:=6) (lL (n:=4) (lL (n:=2) (lL (n:=1) (gF iL) (gF iQ)) (gF (eW (m:=2) (by decide)))) (gF (eW (m:=2) (by decide)))) u2) (gF (eW (m:=2) (by decide)))) (gF (eW (m:=2) (by decide)))
theorem zw {j:Nat}:∀k∈kI x j,fU k:=ia λt=>vN
theorem zL {j:Nat}:∀k∈bZ s i j,pW k:=ia λt=>vU
end
noncomputable abbrev fzL (s:List Int) (j:Nat) (m:Mo) (nm lo r0 r1 r2 r3 f0 f1:LO) (rows:List Str):Led:=cg s j:: .frz (mdD m):: .frz (.list (m.kinds.map knD)):: .frz (.list (m.imports.map imD)):: .frz (.list (m.funcs.map fuD)):: .frz (.list (m.tables.map tbD)):: .frz (.list (m.memories.map meD)):: .frz (.list (m.globals.map glD)):: .frz (.list (m.exports.map exD)):: .frz (.list (m.elems.map elD)):: .frz (.list (m.datas.map daD)):: .frz (.list [])::[nm,.dict [],lo,r0,r1,r2,r3,f0,f1,.list (sD rows)]
noncomputable def xJ:Bool→AV
 | true=> .r 12
 | false=> .v .none
section
variable {s:List Int} {j:Nat} {ks:List Kn} {ims:List Im} {f0 f1:Fu} {rs:Rs} {r0 r1 r2 r3 nm lo:LO} {rows:List Str} {x:Int} {locs:List (Nat×List Nat)} {b:Bool}
noncomputable abbrev Di (s:List Int) (j:Nat) (ks:List Kn) (ims:List Im) (f0 f1:Fu) (rs:Rs) (r0 r1 r2 r3 nm lo:LO) (rows:List Str):Led:=
 rl s j (.v (stD rs.start)) (.frz (.list (ks.map knD))) (.frz (.list (ims.map imD))) (.lrefs [19,20]) (rs.tables.map tbD) (rs.memories.map meD) (rs.globals.map glD) (rs.exports.map exD) (rs.elems.map elD) (rs.datas.map daD) (.list []) [nm,.dict [],lo,r0,r1,r2,r3,.frz (fuD f0),.frz (fuD f1)] rows
noncomputable def nmZ (b:Bool) (x:Int) (locs:List (Nat×List Nat)):LO:=match b with
 | true=> .frz (nnD (nnB true x locs))
 | false=>nmO (eG (d9 x)) (.v (.dict (bp (aR (x.fdiv 3) 5))))
noncomputable def loZ (b:Bool) (locs:List (Nat×List Nat)):LO:=match b with
 | true=> .frz (.dict (dO locs))
 | false=> .dict (dO locs)
theorem frz1:bH [.r 1,xJ b] (Di s j ks ims f0 f1 rs r0 r1 r2 r3 (nmO (eG (d9 x)) (.v (.dict (bp (aR (x.fdiv 3) 5))))) (.dict (dO locs)) rows)=some ([mdD (moB ks ims f0 f1 rs),nnD (nnB b x locs)],fzL s j (moB ks ims f0 f1 rs) (nmZ b x locs) (loZ b locs) r0 r1 r2 r3 (.frz (fuD f0)) (.frz (fuD f1)) rows):=by
 cases b<;>kernel_rfl
theorem frz2:bH [.r 1,xJ b] (fzL s j (moB ks ims f0 f1 rs) (nmZ b x locs) lo r0 r1 r2 r3 (.frz (fuD f0)) (.frz (fuD f1)) rows)=some ([mdD (moB ks ims f0 f1 rs),nnD (nnB b x locs)],fzL s j (moB ks ims f0 f1 rs) (nmZ b x locs) lo r0 r1 r2 r3 (.frz (fuD f0)) (.frz (fuD f1)) rows):=by
 cases b<;>kernel_rfl
end
end Mine
end
section
open PySem
namespace Mine
variable {cx:Cx}
noncomputable def bO (m:Nat):Bool:=decide ((m:Int)>0)
section
variable {s:List Int} {x:Int} {mm m k:Nat} {b r:Bool} {w mark:Str} {ids ids':List Str} {led:Led} {l1 l2 l3 l4 l5 l6 l7 l8:AV}
noncomputable abbrev cI (s:List Int) (x:Int) (b:Bool) (ids:List Str) (w:Str) (r:Bool):Loc:=[("script",scD s),("pen",.r 0),("x",.v (.int x)),("module",.r 1),("names",.r 12),("rows",.r 15),("told_kinds",.r 16),("is_named",.v (.bool b)),("ids",.v (.list (sD ids))),("word",.v (.str w)),("is_right",.v (.bool r))]
theorem ids_e (he:cO b ids=ids') (hl:ids.length=5):Ex cx mm (dfD 140).sc (cI s x b ids w r) (asE (lst 12)) led (.v (.list (sD ids'))) led:=by
 rw[←he]
 cases b
 · refine eV (g:=gL cx mm) [.b (.list (sD (List.replicate 5 "")))] ?_
   exact And.intro ⟨mulE (n:=5) (by decide),trivial⟩ ⟨by unfold cO;rw[hl],rfl⟩
 · refine eV (g:=gL cx mm) [] ?_
   exact And.intro trivial ⟨rfl,rfl⟩
theorem Fs (hk:k<2) (hb:binop .Mod (.int (x.fdiv 7)) (.int 2)=some (.int (k:Int))) (hw:w.length≤10) (e:(match b&&r&&decide ((k:Int)=1)with | true=>("(module $":Str)++w | false=>"(module")=mark):Ex cx mm (dfD 140).sc (cI s x b ids w r) (asE (lst 13)) led (.v (.str mark)) led:=by
 rw[←e]
 cases b with
 | false=>
   refine eV (g:=gL cx mm) [] ?_
   exact And.intro trivial ⟨rfl,rfl⟩
 | true=>cases r with
   | false=>
     refine eV (g:=gL cx mm) [] ?_
     exact And.intro trivial ⟨rfl,rfl⟩
   | true=>rcases lt2 hk with q | q
           · rw[q]at hb ⊢
             refine eV (g:=gL cx mm) [.b (.int (x.fdiv 7)),.b (.int ((0:Nat):Int))] ?_
             exact And.intro ⟨hb,rfl,trivial⟩ ⟨rfl,rfl⟩
           · rw[q]at hb ⊢
             refine eV (g:=gL cx mm) [.b (.int (x.fdiv 7)),.b (.int ((1:Nat):Int))] ?_
             exact And.intro ⟨ae (Nat.add_le_add (Nat.le_refl 9) hw) rfl,hb,rfl,trivial⟩ ⟨rfl,rfl⟩
theorem fn_step {g:Eng} {m:Im} {loc:Loc}:True:=trivial
end
end Mine
end
section
open PySem
namespace Mine
variable {cx:Cx}
theorem bodyE {c:Cx} {n:Nat} {d:Df} {mt:List Str} {args:List AV} {led:Led} {P:AV→Led→Prop} (ad:List Ad) (h:e7 (g0w c n mt d) d args led (λa l=>tell (P a l)) ad True):∃a l,fJ c n d args led a l∧P a l:=lO (fK (g0w c n mt d) (fE c n mt d) d rfl args led) h λa l b p=>⟨a,l,b,p⟩
noncomputable abbrev jn (a b c:List Str):Str:=Str.join (Str.ofString "") ((a++b++c).map lnR)
noncomputable abbrev nI (ims:List Im):Nat:=(ims.filterMap fnF).length
section
variable {X R2 R3 P rr ids:List Str} {mark T:Str} {n:Nat} {cx:Cx} {mm:Nat} {b:Bool} {s:List Int} {x:Int} {pl fo:List D} {led:Led} {v:AV}
theorem CV:Ex cx mm (dfD 140).sc (List.append (cP s x b ids mark n pl fo) [("rest",v)]) (asE (lst 22)) led (xJ b) led:=by
 cases b
 · refine eV (g:=gL cx mm) [] ?_
   exact And.intro trivial ⟨rfl,rfl⟩
 · refine eV (g:=gL cx mm) [] ?_
   exact And.intro trivial ⟨rfl,rfl⟩
theorem ln2 {A B C:List Str} {k:Nat} (h:(A++B++C).length≤k):(A++B).length≤k:=Nat.le_trans (by rw[List.length_append (bs:=C)];exact Nat.le_add_right ..) h
theorem Cp {r:Str} {k:Nat} (h:r.length≤k):(lnR r).length≤2+k+1:=ag (ag (Nat.le_refl 2) h) (Nat.le_refl 1)
theorem uX (h:∀w∈ids,w.length≤11000) (hc:ids.length≤40):bk (ids.map lnR)≤450000:=Nat.le_trans (pn (B:=11003) λw hw=>(List.mem_map.mp hw).elim λt z=>z.2▸Cp (h t z.1)) (by rw[List.length_map];exact Nat.le_trans (Nat.mul_le_mul_right _ hc) (by decide))
variable (hR:sD X++sD R2=sD R3) (hm:mark.length≤20) (hb:∀w∈R3++P++rr,w.length≤11000) (hc:(R3++P++rr).length≤40)
include hc
theorem z5:fits (sD ((R3++P++rr).map lnR)).length=true:=by rw[aF,List.length_map];exact ae hc rfl
include hR
theorem z2:fits ((sD X++sD R2).length+(sD P).length)=true:=by rw[hR,aF,aF,←List.length_append];exact ae (ln2 hc) rfl
theorem z3:fits ((sD X++sD R2++sD P).length+(sD rr).length)=true:=by rw[hR,List.length_append,aF,aF,aF,←List.length_append,←List.length_append];exact ae hc rfl
include hb
theorem z4 {g:Eng} {elt:Expr} {sc:Scope} {loc:Loc} {y:Str} (h:∀r led,fits (2+r.length)=true→fits ((("  ":Str)++r).length+1)=true→∃ad,gm (xE fuel {g with sc:=sc}) elt [] sc y loc (.v (.str r)) led (λo l=>tell (o=some (.str (lnR r))∧l=led)) ad True) (hs:cp g.sc sc y=true) (H:EOk g):
 cH g.c g.n sc loc elt [] y (List.map AV.v (sD X++sD R2++sD P++sD rr)) led (sD ((R3++P++rr).map lnR)) led:=by
 have q:=cw (g:=g) (sc:=sc) (elt:=elt) (ifs:=[]) (x:=y) (loc:=loc) (led:=led) hs (A:=λr=> .v (.str r)) (f:=λr=> .str (lnR r)) (xs:=R3++P++rr) (as:=List.map AV.v (sD X++sD R2++sD P++sD rr)) (by rw[hR,fO,fO,tn]) (λr hr=>h r led (ae (Nat.add_le_add_left (hb r hr) 2) rfl) (ae (Nat.succ_le_succ (ag (Nat.le_refl 2) (hb r hr))) rfl)) H
 exact eE (show (R3++P++rr).map (λr=>D.str (lnR r))=sD ((R3++P++rr).map lnR)by unfold sD;rw[List.map_map];rfl) q
omit hR
theorem zj:(jn R3 P rr).length≤450000:=Nat.le_trans (fC (by decide)) (uX hb hc)
theorem z6 {led:Led}:iA led .join (.v (.str (Str.ofString ""))) [.v (.list (sD ((R3++P++rr).map lnR)))]=some (.v (.str (jn R3 P rr)),led):=jC (Nat.le_trans (uX hb hc) (by decide)) (by decide)
include hm
theorem z7:fits ((mark++Str.ofString "\n").length+(jn R3 P rr).length)=true:=ae (Nat.add_le_add (ag hm (Nat.le_refl 1)) (zj hb hc)) rfl
theorem z8:fits ((mark++Str.ofString "\n"++jn R3 P rr).length+2)=true:=
 have q:(mark++Str.ofString "\n").length≤20+1:=ag hm (Nat.le_refl 1)
 have q2:(mark++Str.ofString "\n"++jn R3 P rr).length≤20+1+450000:=ag q (zj hb hc)
 ae (Nat.add_le_add_right q2 2) rfl
omit hm hb hc
theorem z9 (h:T=mark++Str.ofString "\n"++jn R3 P rr++Str.ofString ")\n"):(!eqS T (mark++Str.ofString "\n"++jn R3 P rr++Str.ofString ")\n"))=false:=congrArg (!·) (aG.mpr h)
end
noncomputable abbrev cPR (s:List Int) (x:Int) (b:Bool) (ids:List D) (mark:Str) (n:Nat):Loc:=[("script",scD s),("pen",.r 0),("x",.v (.int x)),("module",.r 1),("names",.r 12),("rows",.r 18),("told_kinds",.r 16),("is_named",.v (.bool b)),("ids",.v (.list ids)),("mark",.v (.str mark)),("first",.v (.int (n:Nat))),("plain",.v (.list [])),("folded",.v (.list []))]
noncomputable abbrev cutI (l:List Str) (n:Nat):List D:=List.take (bound ((n:Int)+2) (sD l).length - 0) (List.drop 0 (sD l))
section
variable {s:List Int} {mm m4 m3 m2 k0 k1 n0 n1 n i3 i4 j:Nat} {x0 x1 y0 y1:Int} {ks:List Kn} {ims:List Im} {dQ idl idc R2 P1 P2 R3:List Str} {w mark T1 T2:Str} {r:Bool} {v0 v1:List Vk} {F0 F1:Fu} {rs:Rs} {locs:List (Nat×List Nat)}
set_option maxHeartbeats 4000000 in
theorem lawC (hmm:1≤mm)
 (h0:∀l,af cx mm "_law_next" [.r 0] (cg s 0::l) (.v (.int x0)) (cg s 1::l)) (h1:∀l,af cx mm "_law_next" [.r 0] (cg s 1::l) (.v (.int x1)) (cg s 2::l))
 (h2:∀l,af cx mm "_law_next" [.r 0] (cg s i3::l) (.v (.int y0)) (cg s (i3+1)::l)) (h3:∀l,af cx mm "_law_next" [.r 0] (cg s (i3+1)::l) (.v (.int y1)) (cg s (i3+1+1)::l))
 (hm4:binop .Mod (.int x0) (.int 4)=some (.int (m4:Int))) (f4:fits m4=true)
 (h6:bf (gL cx mm).c (gL cx mm).n (gL cx mm).sc (bF (lst 6)) (bu (lst 6)) ((cY 0 m4).map It.one) (cf s x0 []) (lw6 s 1 []) .next (cf s x0 []) (lw6 s 1 ks))
 (hm3:binop .Mod (.int x1) (.int 3)=some (.int (m3:Int))) (hid:∀led,af cx mm "_law_ids" [.v (.int (x1.fdiv 3)),.v (.int 5)] led (.v (.tup [.dict (bp (aR (x1.fdiv 3) 5)),.list (sD dQ)])) led)
 (hnm:∀led,af cx mm "_law_name" [.v (.int x1)] led (.v (.tup [.str w,.bool r])) led) (hm2:binop .Mod (.int (x1.fdiv 7)) (.int 2)=some (.int (m2:Int))) (hmd:item (.list [.none,.str w]) (.int (m2:Int))=some (eG (d9 x1)))
 (hl0:dQ.length=5) (hidl:cO (bO m3) dQ=idl) (hk2:m2<2) (hw:w.length≤10) (hmark:(match bO m3&&r&&decide ((m2:Int)=1)with | true=>("(module $":Str)++w | false=>"(module")=mark)
 (him:af cx mm "_law_imports" [.r 0,.r 1,.v (.list (sD idl))] (LW s 2 (.list (ks.map knD)) (.list []) (.list []) (nmO (eG (d9 x1)) (.v (.dict (bp (aR (x1.fdiv 3) 5))))) (.dict []) (.dict []) [.list (sD (ks.map knS)),.list (ks.map tkL)]) (.r 17) (LW s i3 (.list (ks.map knD)) (.list (ims.map imD)) (.list []) (nmO (eG (d9 x1)) (.v (.dict (bp (aR (x1.fdiv 3) 5))))) (.dict []) (.dict []) [.list (sD (ks.map knS)),.list (ks.map tkL),.list (sD R2)])) (hsu:fits ((sD (ks.map knS)).length+(sD R2).length)=true)
 (hil:ims.length≤3)
 (b0:binop .Mod (.int y0) (.int 4)=some (.int (k0:Int))) (c0:binop .Mod (.int (y0.fdiv 4)) (.int 3)=some (.int (n0:Int))) (d0:∀led,af cx mm "_law_kinds" [.v (.int (y0.fdiv 12)),.v (.int (n0:Int))] led (.v (.tup [.tup (kD v0),.list (sD (kS v0))])) led)
 (b1:binop .Mod (.int y1) (.int 4)=some (.int (k1:Int))) (c1:binop .Mod (.int (y1.fdiv 4)) (.int 3)=some (.int (n1:Int))) (d1:∀led,af cx mm "_law_kinds" [.v (.int (y1.fdiv 12)),.v (.int (n1:Int))] led (.v (.tup [.tup (kD v1),.list (sD (kS v1))])) led)
 (hil5:idl.length=5)
 (h20:bf (gL cx mm).c (gL cx mm).n (gL cx mm).sc (bF (lst 20)) (bu (lst 20)) [.two (.v (.int ((0:Nat):Int))) (.r 19),.two (.v (.int ((1:Nat):Int))) (.r 20)] (cPR s x1 (bO m3) (cutI idl (nI ims)) mark (nI ims)) (lwT s (i3+1+1) false ks ims (nmO (eG (d9 x1)) (.v (.dict (bp (aR (x1.fdiv 3) 5))))) (.dict []) (fnO k0 v0 [opD [11]]) (fnO k1 v1 [opD [11]]) (.list (sD (ks.map knS))) (.list (sD R2)) (.list (sD (ks.map knS)++sD R2))) .next (cP s x1 (bO m3) idc mark (nI ims) (sD P1) (sD P2)) (LW s i4 (.frz (.list (ks.map knD))) (.frz (.list (ims.map imD))) (.lrefs [19,20]) (nmO (eG (d9 x1)) (.v (.dict (bp (aR (x1.fdiv 3) 5))))) (.dict []) (.dict (dO locs)) [.list (sD (ks.map knS)),.frz (.list (ks.map tkL)),.list (sD R2),.list (sD (ks.map knS)++sD R2),.frz (fuD F0),.frz (fuD F1)]))
 (h21:af cx mm "_law_rest" [.r 0,.r 1,.v (.list (sD idc))] (LW s i4 (.frz (.list (ks.map knD))) (.frz (.list (ims.map imD))) (.lrefs [19,20]) (nmO (eG (d9 x1)) (.v (.dict (bp (aR (x1.fdiv 3) 5))))) (.dict []) (.dict (dO locs)) [.list (sD (ks.map knS)),.frz (.list (ks.map tkL)),.list (sD R2),.list (sD (ks.map knS)++sD R2),.frz (fuD F0),.frz (fuD F1)]) (.r 21) (Di s j ks ims F0 F1 rs (.list (sD (ks.map knS))) (.frz (.list (ks.map tkL))) (.list (sD R2)) (.list (sD (ks.map knS)++sD R2)) (nmO (eG (d9 x1)) (.v (.dict (bp (aR (x1.fdiv 3) 5))))) (.dict (dO locs)) (br idc rs)))
 (p1:af cx mm "print_module" [.r 1,xJ (bO m3)] (Di s j ks ims F0 F1 rs (.list (sD (ks.map knS))) (.frz (.list (ks.map tkL))) (.list (sD R2)) (.list (sD (ks.map knS)++sD R2)) (nmO (eG (d9 x1)) (.v (.dict (bp (aR (x1.fdiv 3) 5))))) (.dict (dO locs)) (br idc rs)) (.v (.str T1)) (fzL s j (moB ks ims F0 F1 rs) (nmZ (bO m3) x1 locs) (loZ (bO m3) locs) (.list (sD (ks.map knS))) (.frz (.list (ks.map tkL))) (.list (sD R2)) (.list (sD (ks.map knS)++sD R2)) (.frz (fuD F0)) (.frz (fuD F1)) (br idc rs))) (p2:af cx mm "fold_module" [.r 1,xJ (bO m3)] (fzL s j (moB ks ims F0 F1 rs) (nmZ (bO m3) x1 locs) (loZ (bO m3) locs) (.list (sD (ks.map knS))) (.frz (.list (ks.map tkL))) (.list (sD R2)) (.list (sD (ks.map knS)++sD R2)) (.frz (fuD F0)) (.frz (fuD F1)) (br idc rs)) (.v (.str T2)) (fzL s j (moB ks ims F0 F1 rs) (nmZ (bO m3) x1 locs) (loZ (bO m3) locs) (.list (sD (ks.map knS))) (.frz (.list (ks.map tkL))) (.list (sD R2)) (.list (sD (ks.map knS)++sD R2)) (.frz (fuD F0)) (.frz (fuD F1)) (br idc rs)))
 (hR:sD (ks.map knS)++sD R2=sD R3) (hml:mark.length≤20) (e1:∀w∈R3++P1++br idc rs,w.length≤11000) (e2:∀w∈R3++P2++br idc rs,w.length≤11000) (g1:(R3++P1++br idc rs).length≤40) (g2:(R3++P2++br idc rs).length≤40)
 (t1:T1=mark++Str.ofString "\n"++jn R3 P1 (br idc rs)++Str.ofString ")\n") (t2:T2=mark++Str.ofString "\n"++jn R3 P2 (br idc rs)++Str.ofString ")\n"):∃a l,fJ cx mm (dfD 140) [scD s] [] a l∧a= .v (.bool true):=by
 have a1:fits (mark.length+1)=true:=ae (Nat.succ_le_succ hml) rfl
 have fI:fits (ims.filterMap fnF).length=true:=ae (Nat.le_trans (List.length_filterMap_le ..) hil) rfl
 have fl5:fits (sD idl).length=true:=by rw[aF,hil5];rfl
 refine bodyE (d:=dfD 140) (mt:=["pen","rows","told_kinds"]) [.r (.v (.int x0)) [cg s 1],.r (.r 1) (mo0 s),.r (.r 12) (LW s 1 (.list []) (.list []) (.list []) (nmO .none (.r 13)) (.dict []) (.dict []) []),.b (.int (m4:Nat)),.w .next (cf s x0 []) (lw6 s 1 ks),.r (.v (.int x1)) (lw6 s 2 ks),.b (.int (m3:Nat)),.b (.int (x1.fdiv 3)),.p (.tup [.dict (bp (aR (x1.fdiv 3) 5)),.list (sD dQ)]),.p (.tup [.str w,.bool r]),.b (.int (x1.fdiv 7)),.b (.int (m2:Nat)),.i (eG (d9 x1)),.e (.v (.list (sD idl))),.e (.v (.str mark)),.r (.r 17) (LW s i3 (.list (ks.map knD)) (.list (ims.map imD)) (.list []) (nmO (eG (d9 x1)) (.v (.dict (bp (aR (x1.fdiv 3) 5))))) (.dict []) (.dict []) [.list (sD (ks.map knS)),.list (ks.map tkL),.list (sD R2)]),.l (ims.filterMap fnF) (LW s i3 (.list (ks.map knD)) (.frz (.list (ims.map imD))) (.list []) (nmO (eG (d9 x1)) (.v (.dict (bp (aR (x1.fdiv 3) 5))))) (.dict []) (.dict []) [.list (sD (ks.map knS)),.list (ks.map tkL),.list (sD R2),.list (sD (ks.map knS)++sD R2)]),.r (.v (.int y0)) (LW s (i3+1) (.list (ks.map knD)) (.frz (.list (ims.map imD))) (.list []) (nmO (eG (d9 x1)) (.v (.dict (bp (aR (x1.fdiv 3) 5))))) (.dict []) (.dict []) [.list (sD (ks.map knS)),.list (ks.map tkL),.list (sD R2),.list (sD (ks.map knS)++sD R2)]),.b (.int (k0:Nat)),.b (.int (y0.fdiv 12)),.b (.int (y0.fdiv 4)),.b (.int (n0:Nat)),.p (.tup [.tup (kD v0),.list (sD (kS v0))]),.r (.r 19) (LW s (i3+1) (.list (ks.map knD)) (.frz (.list (ims.map imD))) (.list []) (nmO (eG (d9 x1)) (.v (.dict (bp (aR (x1.fdiv 3) 5))))) (.dict []) (.dict []) [.list (sD (ks.map knS)),.list (ks.map tkL),.list (sD R2),.list (sD (ks.map knS)++sD R2),fnO k0 v0 [opD [11]]]),.r (.v (.int y1)) (LW s (i3+1+1) (.list (ks.map knD)) (.frz (.list (ims.map imD))) (.refs [19]) (nmO (eG (d9 x1)) (.v (.dict (bp (aR (x1.fdiv 3) 5))))) (.dict []) (.dict []) [.list (sD (ks.map knS)),.list (ks.map tkL),.list (sD R2),.list (sD (ks.map knS)++sD R2),fnO k0 v0 [opD [11]]]),.b (.int (k1:Nat)),.b (.int (y1.fdiv 12)),.b (.int (y1.fdiv 4)),.b (.int (n1:Nat)),.p (.tup [.tup (kD v1),.list (sD (kS v1))]),.r (.r 20) (LW s (i3+1+1) (.list (ks.map knD)) (.frz (.list (ims.map imD))) (.refs [19]) (nmO (eG (d9 x1)) (.v (.dict (bp (aR (x1.fdiv 3) 5))))) (.dict []) (.dict []) [.list (sD (ks.map knS)),.list (ks.map tkL),.list (sD R2),.list (sD (ks.map knS)++sD R2),fnO k0 v0 [opD [11]],fnO k1 v1 [opD [11]]]),.w .next (cP s x1 (bO m3) idc mark (nI ims) (sD P1) (sD P2)) (LW s i4 (.frz (.list (ks.map knD))) (.frz (.list (ims.map imD))) (.lrefs [19,20]) (nmO (eG (d9 x1)) (.v (.dict (bp (aR (x1.fdiv 3) 5))))) (.dict []) (.dict (dO locs)) [.list (sD (ks.map knS)),.frz (.list (ks.map tkL)),.list (sD R2),.list (sD (ks.map knS)++sD R2),.frz (fuD F0),.frz (fuD F1)]),.r (.r 21) (Di s j ks ims F0 F1 rs (.list (sD (ks.map knS))) (.frz (.list (ks.map tkL))) (.list (sD R2)) (.list (sD (ks.map knS)++sD R2)) (nmO (eG (d9 x1)) (.v (.dict (bp (aR (x1.fdiv 3) 5))))) (.dict (dO locs)) (br idc rs)),.e (xJ (bO m3)),.r (.v (.str T1)) (fzL s j (moB ks ims F0 F1 rs) (nmZ (bO m3) x1 locs) (loZ (bO m3) locs) (.list (sD (ks.map knS))) (.frz (.list (ks.map tkL))) (.list (sD R2)) (.list (sD (ks.map knS)++sD R2)) (.frz (fuD F0)) (.frz (fuD F1)) (br idc rs)),.p (.str T2),.q (sD ((R3++P1++br idc rs).map lnR)),.p (.str (jn R3 P1 (br idc rs))),.f,.q (sD ((R3++P2++br idc rs).map lnR)),.p (.str (jn R3 P2 (br idc rs))),.f] ?_
 conv=>whnf
 exact⟨⟨z9 t2,z8 hml e2 g2,z7 hml e2 g2,z6 e2 g2,z5 g2,z4 hR e2 g2 (λr led u v=>⟨[],show (_∧_∧True)∧_∧_ from ⟨⟨v,u,trivial⟩,rfl,rfl⟩⟩) rfl (fE _ _ _ _),z3 hR g2,z2 hR g2,a1,
  z9 t1,z8 hml e1 g1,z7 hml e1 g1,z6 e1 g1,z5 g1,z4 hR e1 g1 (λr led u v=>⟨[],show (_∧_∧True)∧_∧_ from ⟨⟨v,u,trivial⟩,rfl,rfl⟩⟩) rfl (fE _ _ _ _),z3 hR g1,z2 hR g1,a1,
  p2,p1,CV,h21,bf.wk (SubL.pick rfl) h20,fl5,r8 hmm,d1 _,c1,rfl,rfl,b1,h3 _,r8 hmm,d0 _,c0,rfl,rfl,b0,h2 _,
  rfl,fI,fI,gz rfl (A:=λm=> .v (imD m)) (f:=fnF) (List.map_map ..) (λm _=>m.recOn λp q a=>by cases a<;>exact⟨[],show True∧_∧_ from ⟨trivial,rfl,rfl⟩⟩),hsu,him,Fs hk2 hm2 hw hmark,ids_e hidl hl0,hmd,hm2,rfl,hnm _,hid _,rfl,hm3,h1 _,h6,f4,hm4,xg hmm,tR hmm,h0 _,trivial⟩,rfl⟩
end
end Mine
end
section
open PySem
namespace Mine
variable {cx:Cx}
theorem D5 {l:List Im}:nfn l=nI l:=wd.symm
theorem mod_e {x:Int}:item (.list [.none,.str (bN (md x 7)).1]) (.int ((md (x.fdiv 7) 2:Nat):Int))=some (eG (d9 x)):=by
 unfold d9
 rcases lt2 (aj (x:=x.fdiv 7) (m:=2) (by decide))with q | q<;>rw[q]<;>rfl
section
variable {s:List Int} {mm m4 i3:Nat} {x0:Int} {ks:List Kn} {ims:List Im}
theorem lawM (hn:14≤mm) (hs:s.length≤63) (h0:∀l,af cx mm "_law_next" [.r 0] (cg s 0::l) (.v (.int x0)) (cg s 1::l)) (hm4:binop .Mod (.int x0) (.int 4)=some (.int (m4:Int))) (f4:fits m4=true)
 (h6:bf (gL cx mm).c (gL cx mm).n (gL cx mm).sc (bF (lst 6)) (bu (lst 6)) ((cY 0 m4).map It.one) (cf s x0 []) (lw6 s 1 []) .next (cf s x0 []) (lw6 s 1 ks)) (hks:ks.length≤3) (hko:∀k∈ks,fU k) (hil:ims.length≤3) (hio:∀k∈ims,pW k) (hi3:i3≤7)
 (him:∀{nm:LO} {ids:List Str},ids.length=5→(∀w∈ids,w.length≤4)→af cx mm "_law_imports" [.r 0,.r 1,.v (.list (sD ids))] (LW s 2 (.list (ks.map knD)) (.list []) (.list []) nm (.dict []) (.dict []) [.list (sD (ks.map knS)),.list (ks.map tkL)]) (.r 17)
   (LW s i3 (.list (ks.map knD)) (.list (ims.map imD)) (.list []) nm (.dict []) (.dict []) [.list (sD (ks.map knS)),.list (ks.map tkL),.list (sD (az ids 0 ims))])):∃a l,fJ cx mm (dfD 140) [scD s] [] a l∧a= .v (.bool true):=by
 have h1:=le_trans' hn (j:=1) rfl
 have h2:=le_trans' hn (j:=2) rfl
 have h13:=le_trans' hn (j:=13) rfl
 have hi4:∀w∈cO (fR (nx s 1)) (dQ (nx s 1)),w.length≤4:=iW bU
 have hi5:(cO (fR (nx s 1)) (dQ (nx s 1))).length=5:=rY.trans mR
 have hnf:nI ims≤3:=Nat.le_trans (List.length_filterMap_le ..) hil
 have hcl:((cO (fR (nx s 1)) (dQ (nx s 1))).take (nI ims+2)).length=nI ims+2:=by
  rw[List.length_take,hi5];exact Nat.min_eq_left (Nat.add_le_add_right hnf 2)
 have hc4:∀w∈(cO (fR (nx s 1)) (dQ (nx s 1))).take (nI ims+2),w.length≤4:=λw h=>hi4 w (List.mem_of_mem_take h)
 have hc10:((cO (fR (nx s 1)) (dQ (nx s 1))).take (nI ims+2)).length≤10:=by rw[hcl];exact ai (Nat.add_le_add_right hnf 2) rfl
 have z0:z1 s (i3+2)≤20:=Nat.le_trans (Nat.add_le_add (Nat.succ_le_succ (Nat.add_le_add_right hi3 2)) (Nat.le_of_lt (aj (by decide)))) (by decide)
 have z1':z1 s (z1 s (i3+2))≤30:=Nat.le_trans (Nat.add_le_add (Nat.succ_le_succ z0) (Nat.le_of_lt (aj (by decide)))) (by decide)
 have hfk:∀k∈abL ims++[fkO (nx s i3),fkO (nx s (i3+1))],k<4:=λk h=>(List.mem_append.mp h).elim (GF hio k) (uU (P:=(· <4)) (aj (by decide)) (aj (by decide)) k)
 have h20:=l_20 (cx:=cx) (mm:=mm) (x:=nx s 1) (b:=fR (nx s 1)) (mark:=modS (nnA (fR (nx s 1)) (nx s 1) (nI ims) (ysA ks s (i3+2) (nx s i3)) (ysA ks s (z1 s (i3+2)) (nx s (i3+1))))) (mD:=eG (d9 (nx s 1))) (fA:= .v (.dict (bp (aR ((nx s 1).fdiv 3) 5)))) (r0:= .list (sD (ks.map knS))) (r2:= .list (sD (az (cO (fR (nx s 1)) (dQ (nx s 1))) 0 ims))) (r3:= .list (sD (ks.map knS)++sD (az (cO (fR (nx s 1)) (dQ (nx s 1))) 0 ims))) (le_trans' hn rfl) hs (ai (Nat.add_le_add_right hi3 2) rfl) hks hko hil hfk hc10 hc4 (by rw[hcl];exact Nat.lt_succ_self _)
 obtain⟨j,h21⟩:=rI (cx:=cx) (n:=mm) (i:=z1 s (z1 s (i3+2))) (s:=s) (k2:= .frz (.list (ks.map knD))) (k3:= .frz (.list (ims.map imD))) (k4:= .lrefs [19,20]) (cu:= .list []) (rest:=[nmO (eG (d9 (nx s 1))) (.v (.dict (bp (aR ((nx s 1).fdiv 3) 5)))),.dict [],.dict (dO [(nI ims,ysA ks s (i3+2) (nx s i3)),(nI ims+1,ysA ks s (z1 s (i3+2)) (nx s (i3+1)))]),.list (sD (ks.map knS)),.frz (.list (ks.map tkL)),.list (sD (az (cO (fR (nx s 1)) (dQ (nx s 1))) 0 ims)),.list (sD (ks.map knS)++sD (az (cO (fR (nx s 1)) (dQ (nx s 1))) 0 ims)),.frz (fuD (fuA s (i3+2) (nx s i3))),.frz (fuD (fuA s (z1 s (i3+2)) (nx s (i3+1))))]) h2 hs (ai z1' rfl) hc10 hc4
 have M:=BN (s:=s) (i:=z1 s (z1 s (i3+2))) (f0:=fuA s (i3+2) (nx s i3)) (f1:=fuA s (z1 s (i3+2)) (nx s (i3+1))) hko hks hio hil Ai Ai
 have e1:=E0 (s:=s) (i:=i3+2) (x:=nx s 1) (y0:=nx s i3) (y1:=nx s (i3+1)) (ks:=ks) (rs:=j2 s (z1 s (z1 s (i3+2)))) (b:=fR (nx s 1)) (D5 (l:=ims)) hnf
 have e2:=E1 (s:=s) (i:=i3+2) (x:=nx s 1) (y0:=nx s i3) (y1:=nx s (i3+1)) (ks:=ks) (rs:=j2 s (z1 s (z1 s (i3+2)))) (b:=fR (nx s 1)) (D5 (l:=ims)) hnf
 have p7:=λ{n:Nat} {y:Int} {i:Nat}=>Nat.le_trans (Nat.le_of_eq (vh (b:=fR (nx s 1)) (ks:=ks) (ids:=(cO (fR (nx s 1)) (dQ (nx s 1))).take (nI ims+2)) (n:=n) (y:=y) (z:=nx s i) (l:=iM s i))) (Nat.add_le_add_right dJ 2)
 have f7:=λ{n:Nat} {y:Int} {i:Nat}=>Nat.le_trans (wc (b:=fR (nx s 1)) (ks:=ks) (n:=n) (y:=y) (z:=nx s i) (c:=ku ks (abL ims++[fkO (nx s i3),fkO (nx s (i3+1))])) (EW (s:=s) (i:=i) (j:=0) hc4)) (Nat.add_le_add_right dJ 2)
 have lR:(ks.map knS++az (cO (fR (nx s 1)) (dQ (nx s 1))) 0 ims).length≤3+3:=lL (gF hks) (Nat.le_trans (Nat.le_of_eq eI) hil)
 exact lawC (mark:=modS (nnA (fR (nx s 1)) (nx s 1) (nI ims) (ysA ks s (i3+2) (nx s i3)) (ysA ks s (z1 s (i3+2)) (nx s (i3+1))))) h1 h0 (λl=>fq h1 hs (by decide)) (λl=>fq h1 hs (ai hi3 rfl)) (λl=>fq h1 hs (ai (Nat.succ_le_succ hi3) rfl)) hm4 f4 h6 (cz (by decide)) (λled=>mF h2 (by decide)) (λled=>rJ h1) (cz (by decide)) mod_e
  mR rfl (aj (by decide)) (bW (f:=λi=>Nat.ble (bN i).1.length 10) (g:=λ_=>true) (by kernel_rfl) (aj (x:=nx s 1) (m:=7) (by decide)) |> Nat.le_of_ble_eq_true) (Cn (aj (by decide)) (aj (by decide))).symm (him hi5 hi4)
  (by rw[aF,aF,←List.length_append];exact ae lR rfl) hil (cz (by decide)) (cz (by decide)) (λled=>ef h2 (aj (by decide))) (cz (by decide)) (cz (by decide)) (λled=>ef h2 (aj (by decide))) hi5 (eE' (show cutI (cO (fR (nx s 1)) (dQ (nx s 1))) (nI ims)=sD _ from CF) h20) h21
  (y8 h13 frz1 M vp vr vq) (sf h13 frz2 M vp vr vq) fO rD (e1▸j3 M bU) (e2▸j3 M bU) (ai (lL (lL lR (lL p7 p7)) ma) rfl) (ai (lL (lL lR (lL f7 f7)) ma) rfl) (u0 e1) (u0 e2)
end
theorem Fx {n:Nat} {s:List Int} (hn:14≤n) (hs:s.length≤63):∃a l,fJ cx n (dfD 140) [scD s] [] a l∧a= .v (.bool true):=
 lawM (i3:=3+md (nx s 2) 4) hn hs (λl=>fq (le_trans' hn rfl) hs (by decide)) (cz (by decide)) (ae (Nat.le_of_lt (aj (m:=4) (by decide))) rfl) (l_6 (le_trans' hn rfl) (aj (by decide))) (eW (m:=3) (by decide)) zw (eW (m:=3) (by decide)) zL (Nat.add_le_add_left (Nat.le_of_lt (aj (by decide))) 3)
  λ{nm ids} h1 h2=>mC (i:=2) (st:= .v .none) (ko:= .list ((kI (nx s 0) (md (nx s 0) 4)).map knD)) (rest:=[.list [],.list [],.list [],.list [],.list [],.list [],.list [],.list [],nm,.dict [],.dict [],.list (sD ((kI (nx s 0) (md (nx s 0) 4)).map knS)),.list ((kI (nx s 0) (md (nx s 0) 4)).map tkL)]) (le_trans' hn rfl) hs (by decide) h1 h2
end Mine
end
section
open PySem PySem.W PySem.Calls PyProof.Rows
namespace Mine
theorem get_mem {α:Type} {x:Str} {a:α}:∀{l:List (Str×α)},get l x=some a→(x,a)∈l
 | [],h=>nE h
 | p::l,h=>cE (eqS p.1 x) (λe=>by rw[aB e]at h;rw[←aG.mp e,←Option.some.inj h];exact List.mem_cons_self) λe=>List.mem_cons_of_mem _ (get_mem ((ak e).symm.trans h))
theorem vW {x:Str}:∀{l:List Str},has l x=true→x∈l
 | [],h=>ftE h
 | y::l,h=>cE (eqS y x) (λe=>aG.mp e▸List.mem_cons_self) λe=>List.mem_cons_of_mem _ (vW (by unfold has at h;rw[e]at h;exact h))
theorem iO {x:Str} (e:gP x=true):(x==("__debug__":Str))=false:=(Bool.not_eq_true' _).mp e
section
variable {ca:Str→Addr} {F:FH} {f:Value→Option D} {KF:Frag} {h:Heap}
theorem keyE {e:DictEntry} {i:Int} (h:FC e=some i):∃t,e.key= .int i t:=by
 unfold FC at h
 cases q:e.key with
 | int j t=>rw[q]at h;exact⟨t,Option.some.inj h▸rfl⟩
 | _=>rw[q]at h;exact nE h
theorem tH (H:∀v d,f v=some d→Rep ca F d v):∀{vs:List Value} {ds:List D},kR f vs=some ds→aJ ca F ds vs
 | [],_,e=>sE e rfl
 | v::vs,_,e=>bE e λd hd e=>bE e λr hr e=>sE e ⟨H v d hd,tH H hr⟩
theorem y6 (H:∀v d,f v=some d→Rep ca F d v):∀{es:List DictEntry} {l:List (Int×D)},kR (rdE f) es=some l→∃ps,cX ca F l ps∧All2 qx es ps∧ps.map (·.1)=l.map (·.1)
 | [],_,e=>sE e ⟨[],rfl,.nil,rfl⟩
 | en::es,_,e=>bE e λp hp e=>bE e λr hr e=>sE e (bE hp λi hi hp=>iE hp (λhh hp=>mE hp λd hd hp=>sE hp ((y6 H hr).elim λps z=>⟨(i,en.val)::ps,⟨rfl,H _ _ hd,z.1⟩,.cons ⟨keyE hi,hh,rfl⟩ z.2.1,congrArg (i:: ·) z.2.2⟩)) λ_ z=>nE z)
theorem clsE {v:Value} {t:String} (h:clsT v=some t):v= .type t:=by
 cases v with
 | type _=>exact congrArg _ (Option.some.inj h)
 | _=>exact nE h
theorem e0E {α:Type} {l:List α} {u:Unit} (h:isE0 l=some u):l=[]:=by
 cases l with
 | nil=>rfl
 | cons _ _=>exact nE h
theorem n0E {α:Type} {l:Option α} {u:Unit} (h:isN0 l=some u):l=none:=by
 cases l with
 | none=>rfl
 | some _=>exact nE h
theorem Fb (H:∀v d,f v=some d→Rep ca F d v) {a:Addr} {t:String} {d:D} {x:Data} (hs:(a==sysModules)=false) (ho:F a=some ⟨.type t,none,x,#[]⟩) (e:rdD f t x=some d):Rep ca F d (.ref a):=cF λP kk=>by
 cases x with
 | seq vs n=>
   have k:∀{u},t=u→F a=some ⟨.type u,none,.seq vs.toList.toArray n,#[]⟩:=λq=>by rw[Array.toArray_toList,←q];exact ho
   exact bE e λds hv e=>iE e (λq e=>kk (sE e ⟨a,vs.toList,n,rfl,k q,tH H hv⟩)) λ_ e=>iE e (λq e=>kk (sE e ⟨a,vs.toList,n,rfl,k q,tH H hv⟩)) λ_ e=>nE e
 | dict es n=>exact bE e λl hl e=>iE e (λq e=>tE e λhk e=>kk (sE e ((y6 H hl).elim λps z=>⟨a,_,ps,rfl,hs,ho,⟨⟨congrArg Value.type q,rfl,rfl⟩,es,n,rfl,z.2.1,z.2.2▸eK hk⟩,z.1⟩))) λ_ e=>nE e
 | _=>exact nE e
theorem E9 (H:∀v d,f v=some d→Rep ca F d v) {a:Addr} {o:Obj} {d:D} (ho:F a=some o) (hs:(a==sysModules)=false) (e:rdO f o=some d):Rep ca F d (.ref a):=
 bE e λt ht e=>bE e λ_ hd e=>bE e λ_ hz e=>Fb H hs (x:=o.data) (by rw[←clsE ht,←n0E hd,←Array.toList_eq_nil_iff.mp (e0E hz)];exact ho) e
theorem DX (X:KF.In h):∀(k:Nat) (v:Value) (d:D),rd KF k v=some d→Rep ca h.get? d v
 | 0,_,_,e=>nE e
 | k+1,v,d,e=>by
   cases v with
   | none=>exact sE e rfl
   | bool b=>exact sE e rfl
   | int i t=>exact sE e ⟨t,rfl⟩
   | str i t=>exact sE e ⟨t,rfl⟩
   | ref a=>exact bmE (show (match a==sysModules with | true=>none | false=>(KF.lookup a).bind (rdO (rd KF k)))=some d from e) (λ_ e=>nE e) λhs e=>bE e λo ho e=>E9 (DX X k) (X _ _ ho) hs e
   | _=>exact nE e
end
theorem jK {t:List (Str×List Str)} {c m:Str} (h:vT t c m=true):(c,m)∈flat t:=by
 unfold vT at h
 cases e:get t c with
 | none=>rw[e]at h;exact ftE h
 | some l=>rw[e]at h;exact List.mem_flatMap_of_mem (get_mem e) (List.mem_map_of_mem (vW h))
theorem j6:∀{l:List Str},pJ l=true→l.Nodup
 | [],_=>List.nodup_nil
 | x::l,h=>aE h λh1 h2=>List.nodup_cons.mpr ⟨λhm=>Bool.false_ne_true (((Bool.not_eq_true' _).mp h1).symm.trans (mem_has hm)),j6 h2⟩
where mem_has {x:Str}:∀{l:List Str},x∈l→has l x=true
 | y::l,h=>cE (eqS y x) (λe=>by unfold has;rw[e]) λe=>(List.mem_cons.mp h).elim (λq=>ftE (e.symm.trans (aG.mpr q.symm))) λq=>by unfold has;rw[e];exact mem_has q
section
variable {KF:Frag} {h:Heap} {mg mb:Str→Option Value}
theorem FJ {k:ScopeKind} (e:isFun k=true):k= .function:=by
 cases k with
 | function=>rfl
 | _=>exact ftE e
theorem locE {k:Option NameKind} (e:vH k=true):k=some .local∨k=some .cell:=by
 cases k with
 | none=>exact ftE e
 | some k=>cases k with
   | «local»=>exact .inl rfl
   | cell=>exact .inr rfl
   | _=>exact ftE e
theorem dflE {v:Value} (X:KF.In h) (e:D9 KF v=true):v= .none∨∃T o items n,v= .ref T∧h.get? T=some o∧o.data= .seq items n:=(Bool.or_eq_true _ _).mp e |>.imp (λe=>by
 cases v with
 | none=>rfl
 | _=>exact ftE e) λe=>j4 (((refA v).bind λT=>KF.lookup T).map vQ) (λz=>by rw[z]at e;exact ftE e) λb z=>mE z λo hz q=>bE hz λT hT ho=>by
   rw[z]at e
   have e:vQ o=true:=(Option.some.inj q).trans e
   have hT:v= .ref T:=by
    cases v with
    | ref _=>exact congrArg _ (Option.some.inj hT)
    | _=>exact nE hT
   unfold vQ at e
   cases q:o.data with
   | seq i n=>exact⟨T,o,i,n,hT,X _ _ ho,q⟩
   | _=>rw[q]at e;exact ftE e
theorem funcE {o:Obj} {fd:FuncData} (h:D6 o.data=some fd):o.data= .func fd:=by
 cases q:o.data with
 | func fd'=>rw[q]at h;exact congrArg _ (Option.some.inj h)
 | _=>rw[q]at h;exact nE h
theorem BM {d:Df} (h:yZ d=true):d.params.Nodup∧d.sc.kind= .function∧d.sc.isCoroutine=false∧d.sc.isGenerator=false∧(∀y∈d.sc.names,y.2≠ .free∧y.1≠("__debug__":Str))∧(∀x∈d.params,d.sc.names.lookup x=some .local∨d.sc.names.lookup x=some .cell)∧((cellsFrom 0 d.sc.names []).map (·.1)).Nodup:=
 cF λP k=>aE h λh a7=>aE h λh a6=>aE h λh a5=>aE h λh a4=>aE h λh a3=>aE h λa1 a2=>k ⟨j6 a1,FJ a2,(Bool.not_eq_true' _).mp a3,(Bool.not_eq_true' _).mp a4,
  λy hy=>aE (List.all_eq_true.mp a5 y hy) λb1 b2=>⟨λe=>ftE ((congrArg vm e).symm.trans b1),λe=>ftE ((congrArg gP e).symm.trans b2)⟩,λx hx=>locE (List.all_eq_true.mp a6 x hx),j6 a7⟩
theorem C8 (X:KF.In h) {f:Addr} {d:Df} (e1:(funO KF f).map (yW KF)=some (Ga d)) (e2:yZ d=true):DfIn h f d:=
 have k:=BM e2
 ⟨mE e1 λfd hf e=>bE hf λo ho hf=>
   have e:yW KF fd=Ga d:=Option.some.inj e
   ⟨o,fd,X _ _ ho,funcE hf,(congrArg (λx:Sig=>x.1) e:),(congrArg (λx:Sig=>x.2.1) e:),(congrArg (λx:Sig=>x.2.2.1) e:),(congrArg (λx:Sig=>x.2.2.2.1) e:),(congrArg (λx:Sig=>x.2.2.2.2.1) e:),codeRec_of X (congrArg (λx:Sig=>x.2.2.2.2.2.2.2.2.2.2.1) e:),
     (congrArg (λx:Sig=>x.2.2.2.2.2.1) e:),(congrArg (λx:Sig=>x.2.2.2.2.2.2.1) e:),(congrArg (λx:Sig=>x.2.2.2.2.2.2.2.1) e:),(congrArg (λx:Sig=>x.2.2.2.2.2.2.2.2.1) e:),(congrArg (λx:Sig=>x.2.2.2.2.2.2.2.2.2.1) e:),dflE X (congrArg (λx:Sig=>x.2.2.2.2.2.2.2.2.2.2.2) e:)⟩,
   k.1,k.2.1,k.2.2.1,k.2.2.2.1,k.2.2.2.2.1,k.2.2.2.2.2.1,k.2.2.2.2.2.2⟩
theorem EI (H:Facts KF) (X:KF.In h) (g:h.Ns mainGlobals mg) (b:h.Ns builtinsNs mb) (hB:∀x:Str,x≠ "__name__"→mb x=bootBuiltins x):Wld KF h (caF KF) (fvF KF) mg mb where
 frag:=X
 g:=g
 b:=b
 glob:=λx d e=>bE e λa ha e=>by
  have q:=Prod.mk.inj (List.map_inj_left.mp H.gl _ (get_mem ha))
  exact⟨iO q.1,mE q.2 λd' hd e2=>bE hd λo ho hd=>bE hd λv hv hd=>⟨v,mg_of X g (ho.trans (congrArg some hv)),DX X 8 v d (hd.trans ((congrArg bY (Option.some.inj e2)).trans e))⟩⟩
 fn:=λx e=>by
  unfold vP at e
  cases hn:rq x.cps.toList with
  | false=>rw[hn]at e;exact ftE e
  | true=>
    rw[hn]at e
    exact j4 (get tab x) (λz=>by rw[z]at e;exact ftE e) λf z=>
     have q:=Prod.mk.inj (List.map_inj_left.mp H.fn (x,f) (List.mem_filter.mpr ⟨get_mem z,hn⟩))
     ⟨iO q.1,mg_of X g (Prod.mk.inj q.2).1,(Prod.mk.inj q.2).2⟩
 cls:=λc x e=>by
  have q:=Prod.mk.inj (List.map_inj_left.mp H.fl _ (jK e))
  exact mE q.1 λcd hc e=>⟨cd,hc,Option.some.inj e,(Prod.mk.inj q.2).1⟩
 ga:=λc x e=>by
  have q:=Prod.mk.inj (Prod.mk.inj (Prod.mk.inj (List.map_inj_left.mp H.fl _ (jK e))).2).2
  exact⟨q.1,(Prod.mk.inj q.2).1⟩
 sa:=λc x e=>Prod.mk.inj (Prod.mk.inj (Prod.mk.inj (Prod.mk.inj (Prod.mk.inj (List.map_inj_left.mp H.fl _ (jK e))).2).2).2).2
 meth:=λc m e=>by
  have q:=Prod.mk.inj (List.map_inj_left.mp H.mt _ (jK e))
  have r:=Prod.mk.inj q.2
  have u:=Prod.mk.inj r.2
  have v:=Prod.mk.inj u.2
  have w:=Prod.mk.inj v.2
  refine⟨q.1,mE r.1 λx _ e=>⟨x,Option.some.inj e⟩,_,u.1,v.1,?_,?_⟩
  · rw[←u.1];exact w.1
  · rw[←u.1];exact w.2
 blt:=λx k e=>by
  have q:=Prod.mk.inj (List.map_inj_left.mp H.bl _ (get_mem e))
  have r:=Prod.mk.inj q.2
  have u:=Prod.mk.inj r.2
  exact⟨iO q.1,mg_none_of X g u.1,(hB x λz=>by have r:=r.1;rw[z]at r;exact tfE r).trans u.2⟩
theorem tab_of (H:Facts KF) (X:KF.In h):∀x f,get tab x=some f→FnOk KF h (caF KF) (fvF KF x) f:=λx f e=>by
 have r:=List.map_inj_left.mp H.th _ (get_mem e)
 have D:=C8 X (List.map_inj_left.mp H.tb _ (get_mem e)) (List.map_inj_left.mp EY _ (get_mem e))
 cases f with
 | pure d mt=>exact⟨_,(Prod.mk.inj r).1,D⟩
 | led d mt=>exact⟨_,(Prod.mk.inj r).1,D⟩
 | cls c d mt=>
   have u:=Prod.mk.inj r
   have v:=Prod.mk.inj u.2
   have w:=Prod.mk.inj v.2
   exact⟨_,u.1,v.1,w.1,w.2,D⟩
 | obj c d mt=>
   have u:=Prod.mk.inj r
   have v:=Prod.mk.inj u.2
   have w:=Prod.mk.inj v.2
   exact⟨_,u.1,v.1,w.1,w.2,D⟩
end
end Mine
end
section
open PySem PySem.W PySem.Calls PyProof.Rows
namespace Mine
theorem vS:∀{xs:List WData},WShape.hasItems [] xs .int=true→∃s:List Int,xs=s.map .int
 | [],_=>⟨[],rfl⟩
 | x::xs,h=>by
   unfold WShape.hasItems at h
   refine aE h λh1 h2=>(vS h2).elim λs e=>?_
   cases x with
   | int i=>exact⟨i::s,congrArg _ e⟩
   | _=>exact ftE h1
theorem B2 {x:WData} (h:WShape.hasAll [] [x] [.list .int]=true):∃s:List Int,x= .list (s.map .int):=by
 unfold WShape.hasAll at h
 refine aE h λh1 _=>?_
 cases x with
 | list xs=>
   have h1:(WShape.hasItems [] xs .int || false)=true:=h1
   rw[Bool.or_false]at h1
   exact(vS h1).imp λs e=>congrArg _ e
 | _=>exact ftE h1
theorem w8 {args:List WData} (h:rwN.row.toRowW.claim.pre args=true):∃s:List Int,args=[.list (s.map .int)]∧s.length≤63:=by
 have h:(WShape.hasAll [] args [.list .int]&&rwN.row.toRowW.pre.holds [] {args})=true:=h
 refine aE h λh1 h2=>?_
 cases args with
 | nil=>exact ftE h1
 | cons x r=>cases r with
   | cons y r=>unfold WShape.hasAll at h1;exact aE h1 λ_ h=>ftE (show false=true from h)
   | nil=>exact(B2 h1).elim λs e=>⟨s,congrArg (λx=>[x]) e,by
      rw[e]at h2
      rw[show rwN.row.toRowW.pre= .and (.not (.lt (.lit (.int 63)) (.len (.arg 0)))) (.lit (.bool true))by kernel_rfl]at h2
      refine Nat.not_lt.mp λq=>?_
      have hv:less? (.int 63) (.int (s.length:Int))=some true:=congrArg some (decide_eq_true (Int.ofNat_lt.mpr q))
      unfold WTm.holds at h2
      simp[WTm.value,hv]at h2⟩
section
variable {P:Params} {h K:Heap} {ca:Str→Addr} {F:FH} {c:Cx} {a:Addr} {o:Obj}
noncomputable def DN (P:Params) (h:Heap) (v:Value) (d:WData):Prop:=match d with
 | .int i=>∃t,v= .int i t
 | .list xs=>∃a vs,v= .ref a∧h.get? a=some (aX vs 0)∧WellAll P h vs xs
 | _=>True
theorem DO {v:Value} {d:WData} (w:Well P h v d):DN P h v d:=w.casesOn (motive_1:=λv d _=>DN P h v d) trivial (λ_=>trivial) (λi t=>⟨t,rfl⟩) (λ_ _=>trivial) (λ_ _=>trivial) (λ_ _=>trivial) (λ_=>trivial) (λe w=>⟨_,_,rfl,e,w⟩) (λ_ _=>trivial) (λ_ _=>trivial) (λ_ _ _ _=>trivial) (λ_ _ _ _=>trivial) (λ_ _ _ _=>trivial)
noncomputable def DM (P:Params) (h:Heap) (vs:List Value) (ds:List WData):Prop:=match ds with
 | []=>vs=[]
 | d::ds=>∃v us,vs=v::us∧Well P h v d∧WellAll P h us ds
theorem pj {vs:List Value} {ds:List WData} (w:WellAll P h vs ds):DM P h vs ds:=w.casesOn (motive_2:=λv d _=>DM P h v d) rfl λw r=>⟨_,_,rfl,w,r⟩
theorem og:∀{s:List Int} {vs:List Value},WellAll P h vs (s.map .int)→aJ ca F (s.map .int) vs
 | [],_,w=>pj w
 | i::s,_,w=>Exists.elim (pj w) λv z=>z.elim λus z=>z.1▸⟨DO z.2.1,og z.2.2⟩
noncomputable def gh0 (K:Heap):Gh:=⟨λa=>(K.get? a).map .fz,λ_=>0,λ_=>0,0⟩
theorem Ac (e:K.get? a=some o):(gh0 K).tag a=some (.fz o):=congrArg (Option.map Tag.fz) e
theorem CW:Inv c (gh0 c.K) [] c.K where
 len:=rfl
 fz:=λa o e=>mE e λo' h q=>h.trans (congrArg fzO (Option.some.inj q))
 dom:=λa t e=>mE e λo' h q=>⟨o',h⟩
 led:=λn lo e=>nE e
 kin:=λa o e=>Ac e
end
theorem AOk0:AOk 16 callerA:=⟨rfl,by decide+kernel,by decide+kernel⟩
theorem Fw {c:Cx} {s₁:Shared} {fa a:Addr} {s:List Int} {vs:List Value} {Q:Value→Shared→Prop} (hK:s₁.heap=c.K) (hG:s₁.gens=c.gs) (hO:s₁.os=c.os) (hmg:c.mg "law"=some (.ref fa)) (hs:s.length≤63)
 (ha:s₁.heap.get? a=some (aX vs 0)) (hl:aJ c.ca s₁.heap.get? (s.map .int) vs) (hQ:∀s',(∀b o,s₁.heap.get? b=some o→s'.heap.get? b=some o)→s'.gens=s₁.gens→s'.os=s₁.os→Q (.bool true) s'):wp c callerA (PySem.call (.ref fa) [.ref a]) Q s₁:=by
 obtain⟨b,l,hB,hb⟩:=Fx (cx:=c) (n:=15) (s:=s) (by decide) hs
 obtain⟨f,hf,hD⟩:=c.T "law" (.pure (dfD 140) ["pen","rows","told_kinds"]) (by kernel_rfl)
 have hfa:=Option.some.inj (hmg.symm.trans (c.W.fn "law" (by kernel_rfl)).2.1)
 rw[hfa,hf]
 have I:Inv c (gh0 c.K) [] s₁.heap:=by rw[hK];exact CW
 have ra:aQ c (gh0 c.K) [scD s] [.ref a]:=⟨⟨a,vs,0,rfl,Gh.F_iff.mpr (Ac (hK▸ha)),aJ.mono (λa o e=>Gh.F_iff.mpr (Ac (hK▸e))) hl⟩,rfl⟩
 refine iw (fH hB hD AOk0.deeper AOk0.room I hG hO ra λv s' g₂ I₂ X₂ e1 e2 rv=>?_)
 rw[hb]at rv
 have rv:v= .bool true:=rv
 rw[rv]
 exact hQ s' (λb o e=>I₂.frag b o (hK▸e)) (e1.trans hG.symm) (e2.trans hO.symm)
theorem Ff {args:List WData}:rwN.row.toRowW.claim.post args (.bool true) args=true:=by
 show WTm.holds [] (.eq .res (.lit (.bool true))) {args:=args,res:=some (.bool true),after:=args}=true
 first
  | kernel_rfl
  | (unfold WTm.holds;simp[WTm.value];done)
theorem rL {cl:Str→Option Addr} {mean:ExcName→Option Value} {args:List WData} {s₁ s':Shared} (k:∀b o,s₁.heap.get? b=some o→s'.heap.get? b=some o) (ho:s'.os=s₁.os) (hg:s'.gens= #[]):
 GoodWG rwN.row.toRowW.claim cl mean args s₁ (.ok (.ret (.bool true))) s':=
 ⟨.inl ⟨.bool true,.bool true,[],rfl,λ_=>rfl,ReadsW.bool true,Ff,λ_=>⟨List.nodup_nil,λa ha=>nomatch ha⟩⟩,.of_keep k,ho,.of_eq hg⟩
theorem Ct:uy:=λ{prog P w KF mg mb cl mean s₁ fa args vals} X g b hB NL hg hmg hpre hwl H=>by
 refine⟨rL (λ_ _ e=>e) rfl hg,(w8 hpre).elim λs z=>?_⟩
 rw[z.1]at hwl
 exact Exists.elim (pj hwl) λv y=>y.elim λus y=>Exists.elim (DO y.2.1) λa x=>x.elim λvs x=>by
  rw[y.1,x.1,show us=[] from pj y.2.2]
  exact Fw (c:=⟨prog,w,s₁.heap,caF KF,s₁.gens,s₁.os,KF,fvF KF,mg,mb,EI H X g b hB,tab_of H X,NL⟩) rfl rfl rfl hmg z.2 x.2.1 (og x.2.2) λs' k e1 e2=>rL k e2 (e1.trans hg)
end Mine
end
theorem PySem.Challenge.cw_nm0164_01_holds : PySem.Challenge.rw_nm0164_01.Holds :=
  Mine.fin Mine.Ct
