import PyProof.Rows.All
import Wide.All
import OpenK.AllK
import Open.Tops
import Wide.FinOn
import KE.KIsAll
import KE.KRevSl
import PyProof.ZipIter
import PyProof.ListNew
import Lean
import PySem.Challenge.RW_rg0187_01
open PySem PySem.W PySem.Calls PyProof.Rows
set_option Elab.async false
set_option maxRecDepth 100000
set_option linter.all false
set_option genSizeOf false
set_option genInjectivity false
set_option bootstrap.genMatcherCode false
noncomputable section
section
namespace Mine
abbrev pw:Program:=PySem.Challenge.pw_rg0187_01
inductive Ty where
 | none | bool | int | str | tuple | list | range | zip
noncomputable def Ty.id:Ty→String
 | .none => "NoneType" | .bool => "bool" | .int => "int" | .str => "str" | .tuple => "tuple" | .list => "list" | .range => "range" | .zip => "zip"
noncomputable def Ty.n:Ty→Nat
 | .none=>0 | .bool=>1 | .int=>2 | .str=>3 | .tuple=>4 | .list=>5 | .range=>6 | .zip=>7
inductive Bl where
 | len | ord | chr | isi | max | sum
noncomputable def Bl.id:Bl→String
 | .len => "len" | .ord => "ord" | .chr => "chr" | .isi => "isinstance" | .max => "max" | .sum => "sum"
inductive FV where
 | none | bool (b:Bool) | int (i:Int) | str (s:List Nat)
 | tup (vs:List FV) | lst (vs:List FV) | obj (C:Nat) (fs:List (Str × FV)) | dct (es:List (FV × FV))
 | top (a:Nat) | typ (n:Ty) | blt (n:Bl)
inductive PV where
 | f (x:FV) | ref (k:Nat) | loc (k:Nat)
inductive MO where
 | inst (C:Nat) (fs:List (Str × PV)) | lst (vs:List FV) | dead
inductive O (α:Type) where
 | stuck | raise | ok (a:α)
noncomputable def O.bind {α β:Type} (x:O α) (f:α→O β):O β:=@O.rec α (fun _=>O β) .stuck .raise f x
theorem nk1 {α:Type}{r:α}{P:Prop} (e:O.stuck=O.ok r):P:=by cases e
theorem nk2 {α:Type}{r:α}{P:Prop} (e:O.raise=O.ok r):P:=by cases e
theorem nk3 {α:Type u}{r:α}{P:Prop} (e:none=some r):P:=by cases e
theorem nk4 {α:Type u}{r:α}{P:Prop} (e:some r=none):P:=by cases e
theorem nk5 {P:Prop} (e:true=false):P:=by cases e
theorem nk6 {P:Prop} (e:false=true):P:=by cases e
theorem iJ {α:Type u}{p:α→Prop}:∀ e ∈ ([]:List α),p e:=fun _ h=>absurd h List.not_mem_nil
theorem nE {α:Type}{a b:α} (e:O.ok a=O.ok b):a=b:=congrArg (fun x=>@O.rec α (fun _=>α) a a (fun y=>y) x) e
noncomputable def gd {β:Type} (b:Bool) (x:Option β):Option β:=@Bool.rec (fun _=>Option β) none x b
noncomputable def oe {α:Type}{γ:Type} (x:Option α) (s:α→γ) (n:γ):γ:=@Option.rec α (fun _=>γ) n s x
theorem ob {α β:Type}{x:Option α}{f:α→Option β}{r:β}{P:Prop} (h:x.bind f=some r) (k:∀ a,x=some a→f a=some r→P):P:=by
 cases x with
 | none=>exact nk3 h
 | some a=>exact k a rfl h
theorem aD {β:Type}{b:Bool}{x:Option β}{r:β}{P:Prop} (h:gd b x=some r) (k:b=true→x=some r→P):P:=by
 cases b with
 | false=>exact nk3 h
 | true=>exact k rfl h
theorem qP {α:Type}{γ:Type}{x:Option α}{s:α→γ}{n:γ}{P:γ→Prop} (k:∀ a,x=some a→P (s a)) (m:x=none→P n):P (oe x s n):=by
 cases x with
 | none=>exact m rfl
 | some a=>exact k a rfl
noncomputable def gF (x y:List Nat):Bool:=PySem.W.Fast.lEq x y
noncomputable def seq (a b:Str):Bool:=gF a.cps.toList b.cps.toList
noncomputable def lk {α:Type} (x:Str) (l:List (Str × α)):Option α:=@List.rec (Str × α) (fun _=>Option α) none (fun p _ ih=>@Bool.rec (fun _=>Option α) ih (some p.2) (seq x p.1)) l
noncomputable def put {α:Type} (x:Str) (v:α) (l:List (Str × α)):List (Str × α):=@List.rec (Str × α) (fun _=>List (Str × α)) [(x,v)] (fun p r ih=>@Bool.rec (fun _=>List (Str × α)) (p::ih) ((x,v)::r) (seq x p.1)) l
noncomputable def iU {α:Type} (a:Nat) (l:List (Nat × α)):Option α:=@List.rec (Nat × α) (fun _=>Option α) none (fun p _ ih=>@Bool.rec (fun _=>Option α) ih (some p.2) (Nat.beq a p.1)) l
noncomputable def nth {α:Type} (l:List α) (n:Nat):Option α:=@List.rec α (fun _=>Nat→Option α) (fun _=>none) (fun x _ ih n=>@Nat.rec (fun _=>Option α) (some x) (fun m _=>ih m) n) l n
noncomputable def e9 {α:Type} (l:List α) (n:Nat) (v:α):List α:=@List.rec α (fun _=>Nat→List α) (fun _=>[]) (fun x r ih n=>@Nat.rec (fun _=>List α) (v::r) (fun m _=>x::ih m) n) l n
noncomputable def d5 (a:Nat) (l:List Nat):Bool:=@List.rec Nat (fun _=>Bool) false (fun b _ ih=>@Bool.rec (fun _=>Bool) ih true (Nat.beq a b)) l
noncomputable def BY (a:Str) (l:List Str):Bool:=@List.rec Str (fun _=>Bool) false (fun b _ ih=>@Bool.rec (fun _=>Bool) ih true (seq a b)) l
noncomputable def one {α:Type} (l:List α):Option α:=@List.rec α (fun _=>Option α) none (fun x r _=>@List.rec α (fun _=>Option α) (some x) (fun _ _ _=>none) r) l
noncomputable def mM {α:Type} (l:List α):Option (α × α):=@List.rec α (fun _=>Option (α × α)) none (fun x r _=>(one r).bind fun y=>some (x,y)) l
structure St where
 g:List MO
 l:List MO
 v:List (Str × PV)
 c:List (Str × PV)
abbrev bW:=Nat→List PV→List MO→O (PV × List MO)
structure Cx where
 f:Nat
 sc:Scope
 m:Nat
noncomputable def eJ {α:Type} (x:Option α):O α:=@Option.rec α (fun _=>O α) .stuck .ok x
noncomputable def iS {α:Type} (x:FV) (none_:α) (bool_:Bool→α) (int_:Int→α) (str_:List Nat→α) (tup_:List FV→α) (lst_:List FV→α) (obj_:Nat→List (Str × FV)→α) (dct_:List (FV × FV)→α) (top_:Nat→α) (typ_:Ty→α) (blt_:Bl→α):α:=@FV.casesOn (fun _=>α) x none_ bool_ int_ str_ tup_ lst_ obj_ dct_ top_ typ_ blt_
noncomputable def nF {α:Type} (e:Expr) (df:α) (bo:BoolOp→List Expr→α) (bi:Expr→Operator→Expr→α) (un:UnaryOp→Expr→α) (ie:Expr→Expr→Expr→α) (di:List (Option Expr)→List Expr→α) (se:α) (lc:Expr→List Comprehension→Scope→α) (sd:α) (cm:Expr→List CmpOp→List Expr→α) (cl:Expr→List Expr→List Keyword→Pos→α) (cn:Const→α) (at_:Expr→Str→Pos→α) (su:Expr→Expr→Pos→α) (sr:α) (nm:Str→α) (li:List Expr→Pos→α) (tu:List Expr→α) (sl:Option Expr→Option Expr→Option Expr→α):α:=@Expr.casesOn (fun _=>α) e (fun a b _=>bo a b) (fun _ _ _=>df) (fun a b c _=>bi a b c) (fun a b _=>un a b) (fun _ _ _ _=>df) (fun a b c _=>ie a b c) (fun a b _=>di a b) (fun _ _ _=>se) (fun a b c _=>lc a b c) (fun _ _ _ _=>sd) (fun _ _ _ _ _=>sd) (fun _ _ _ _=>df) (fun _ _=>df) (fun _ _=>df) (fun _ _=>df) (fun a b c _=>cm a b c) (fun a b c d=>cl a b c d) (fun _ _ _ _=>df) (fun _ _=>df) (fun a _ _=>cn a) (fun a b c=>at_ a b c) (fun a b c=>su a b c) (fun _ _=>sr) (fun a _=>nm a) (fun a b=>li a b) (fun a _ _=>tu a) (fun a b c _=>sl a b c)
noncomputable def sF {α:Type} (e:Stmt) (df:α) (fd:Arguments→List Stmt→Scope→α) (cd:List Stmt→α) (re:Option Expr→α) (as_:List Expr→Expr→α) (au:Expr→Operator→Expr→α) (fo:Expr→Expr→List Stmt→List Stmt→α) (wh:Expr→List Stmt→List Stmt→α) (fi:Expr→List Stmt→List Stmt→α) (ra:Option Expr→Option Expr→α) (tr:List Stmt→List ExceptHandler→List Stmt→List Stmt→α) (ex:Expr→α) (br:α) (co:α):α:=@Stmt.casesOn (fun _=>α) e (fun _ a b _ _ _ c _ _ _=>fd a b c) (fun _ _ _ _ _ _ _ _ _ _=>df) (fun _ _ _ a _ _ _ _ _ _ _=>cd a) (fun a _=>re a) (fun _ _=>df) (fun a b _=>as_ a b) (fun _ _ _ _ _ _ _=>df) (fun a b c _=>au a b c) (fun _ _ _ _ _=>df) (fun a b c d _=>fo a b c d) (fun _ _ _ _ _=>df) (fun a b c _=>wh a b c) (fun a b c _=>fi a b c) (fun _ _ _=>df) (fun _ _ _=>df) (fun _ _ _=>df) (fun a b _=>ra a b) (fun a b c d _=>tr a b c d) (fun _ _ _ _ _=>df) (fun _ _ _=>df) (fun _ _=>df) (fun _ _ _ _=>df) (fun _ _=>df) (fun _ _=>df) (fun a _=>ex a) (fun _=>df) (fun _=>br) (fun _=>co)
structure bP where
 glob:List (Str × FV)
 fns:List (Nat × Nat × Option Nat)
 meths:List (Nat × List (Str × Nat))
 fields:List (Nat × List Str)
 clss:List (Nat × Bool × Nat)  -- class,made frozen?,__init__
 inits:List Nat
 mutDisp:List Nat
 mutCall:List Nat
 globDisp:List Nat
 isiC:List Nat
 fail:Nat
structure FI where
 ps:List Str
 body:List Stmt
 sc:Scope
noncomputable def wR (s:Stmt):Option FI:=sF s none (fun a b c=>some ⟨a.args.map (·.arg),b,c⟩) (fun _=>none) (fun _=>none) (fun _ _=>none) (fun _ _ _=>none) (fun _ _ _ _=>none) (fun _ _ _=>none) (fun _ _ _=>none) (fun _ _=>none) (fun _ _ _ _=>none) (fun _=>none) none none
noncomputable def jO (s:Stmt):List Stmt:=sF s [] (fun _ _ _=>[]) (fun b=>b) (fun _=>[]) (fun _ _=>[]) (fun _ _ _=>[]) (fun _ _ _ _=>[]) (fun _ _ _=>[]) (fun _ _ _=>[]) (fun _ _=>[]) (fun _ _ _ _=>[]) (fun _=>[]) [] []
noncomputable def t8 (i:Nat) (j:Option Nat):Option FI:=(nth pw.main.body i).bind fun s=>oe j (fun j=>(nth (jO s) j).bind wR) (wR s)
noncomputable def dO (x:FV):Option Int:=iS x none (fun _=>none) some (fun _=>none) (fun _=>none) (fun _=>none) (fun _ _=>none) (fun _=>none) (fun _=>none) (fun _=>none) (fun _=>none)
noncomputable def dF (x:FV):Option (List Nat):=iS x none (fun _=>none) (fun _=>none) some (fun _=>none) (fun _=>none) (fun _ _=>none) (fun _=>none) (fun _=>none) (fun _=>none) (fun _=>none)
noncomputable def jW (x:FV):Option (List FV):=iS x none (fun _=>none) (fun _=>none) (fun _=>none) (fun _=>none) some (fun _ _=>none) (fun _=>none) (fun _=>none) (fun _=>none) (fun _=>none)
noncomputable def i9 (x:FV):Option (List FV):=iS x none (fun _=>none) (fun _=>none) (fun _=>none) some (fun _=>none) (fun _ _=>none) (fun _=>none) (fun _=>none) (fun _=>none) (fun _=>none)
noncomputable def qJ (x:FV):Option (List (FV × FV)):=iS x none (fun _=>none) (fun _=>none) (fun _=>none) (fun _=>none) (fun _=>none) (fun _ _=>none) some (fun _=>none) (fun _=>none) (fun _=>none)
noncomputable def Gz (x:FV):Option (Nat × List (Str × FV)):=iS x none (fun _=>none) (fun _=>none) (fun _=>none) (fun _=>none) (fun _=>none) (fun C fs=>some (C,fs)) (fun _=>none) (fun _=>none) (fun _=>none) (fun _=>none)
noncomputable def BQ (x:FV):Option Nat:=iS x none (fun _=>none) (fun _=>none) (fun _=>none) (fun _=>none) (fun _=>none) (fun _ _=>none) (fun _=>none) some (fun _=>none) (fun _=>none)
noncomputable def vZ (x:FV):Option Ty:=iS x none (fun _=>none) (fun _=>none) (fun _=>none) (fun _=>none) (fun _=>none) (fun _ _=>none) (fun _=>none) (fun _=>none) some (fun _=>none)
noncomputable def pH (x:FV):Option Bool:=iS x none some (fun _=>none) (fun _=>none) (fun _=>none) (fun _=>none) (fun _ _=>none) (fun _=>none) (fun _=>none) (fun _=>none) (fun _=>none)
noncomputable def cQ (x:PV):Option FV:=@PV.rec (fun _=>Option FV) some (fun _=>none) (fun _=>none) x
noncomputable def sM (x:PV):Option Nat:=@PV.rec (fun _=>Option Nat) (fun _=>none) some (fun _=>none) x
noncomputable def nY (x:PV):Option Nat:=@PV.rec (fun _=>Option Nat) (fun _=>none) (fun _=>none) some x
noncomputable def oK (w:PV):Option (List Nat):=(cQ w).bind dF
noncomputable def mX (w:PV):Option Int:=(cQ w).bind dO
noncomputable def sD (i:Int):Option Nat:=@Int.rec (fun _=>Option Nat) some (fun _=>none) i
noncomputable def pG (m:MO):Option (Nat × List (Str × PV)):=@MO.rec (fun _=>Option (Nat × List (Str × PV))) (fun C fs=>some (C,fs)) (fun _=>none) none m
noncomputable def Lq (m:MO):Option (List FV):=@MO.rec (fun _=>Option (List FV)) (fun _ _=>none) some none m
noncomputable def jK (g:List MO) (k:Nat):Option (Nat × List (Str × PV)):=(nth g k).bind pG
noncomputable def f8 (g:List MO) (k:Nat):Option (List FV):=(nth g k).bind Lq
noncomputable def FM (x:FV):Bool:=iS x true (fun _=>false) (fun _=>false) (fun _=>false) (fun _=>false) (fun _=>false) (fun _ _=>false) (fun _=>false) (fun _=>false) (fun _=>false) (fun _=>false)
noncomputable def isNone (x:PV):Bool:=oe (cQ x) FM false
noncomputable def O8 (x y:FV):Option Bool:=iS x (gd (FM y) (some true)) (fun a=>(pH y).bind fun b=>some (a == b)) (fun a=>(dO y).bind fun b=>some (a == b)) (fun a=>(dF y).bind fun b=>some (gF a b)) (fun _=>none) (fun _=>none) (fun _ _=>none) (fun _=>none) (fun _=>none) (fun _=>none) (fun _=>none)
noncomputable def O7 (x y:FV):Option Bool:=iS x none (fun a=>(pH y).bind fun b=>some (a != b)) (fun a=>(dO y).bind fun b=>some (a != b)) (fun a=>(dF y).bind fun b=>some (!gF a b)) (fun _=>none) (fun _=>none) (fun _ _=>none) (fun _=>none) (fun _=>none) (fun _=>none) (fun _=>none)
noncomputable def LC (x:Int) (l:List FV):Option Bool:=@List.rec FV (fun _=>Option Bool) (some false) (fun a _ ih=>(dO a).bind fun y=>ih.bind fun b=>some ((y == x)||b)) l
noncomputable def Jz (x:List Nat) (l:List FV):Option Bool:=@List.rec FV (fun _=>Option Bool) (some false) (fun a _ ih=>(dF a).bind fun y=>ih.bind fun b=>some (gF y x||b)) l
noncomputable def zU (x:FV) (l:List FV):Option Bool:=oe (dO x) (fun i=>LC i l) ((dF x).bind fun s=>Jz s l)
noncomputable def GD (x:Int) (l:List (FV × FV)):Option (Option FV):=@List.rec (FV × FV) (fun _=>Option (Option FV)) (some none) (fun p _ ih=>(dO p.1).bind fun y=>ih.bind fun o=>some (bif y == x then some p.2 else o)) l
noncomputable def G6 (x:List Nat) (l:List (FV × FV)):Option (Option FV):=@List.rec (FV × FV) (fun _=>Option (Option FV)) (some none) (fun p _ ih=>(dF p.1).bind fun y=>ih.bind fun o=>some (bif gF y x then some p.2 else o)) l
noncomputable def wS (k:FV) (l:List (FV × FV)):Option (Option FV):=oe (dO k) (fun i=>GD i l) ((dF k).bind fun s=>G6 s l)
noncomputable def fits (n:Nat):Bool:=Nat.ble n 16777216
noncomputable def ND (x:FV):Option Bool:=iS x (some false) some (fun _=>none) (fun _=>none) (fun _=>none) (fun _=>none) (fun _ _=>none) (fun _=>none) (fun _=>none) (fun _=>none) (fun _=>none)
noncomputable def s8 (w:PV):Option Bool:=(cQ w).bind ND
noncomputable def frozen (l:List PV):Option (List FV):=@List.rec PV (fun _=>Option (List FV)) (some []) (fun a _ ih=>(cQ a).bind fun x=>ih.bind fun xs=>some (x::xs)) l
noncomputable def nT (l:List (Str × PV)):Option (List (Str × FV)):=@List.rec (Str × PV) (fun _=>Option (List (Str × FV))) (some []) (fun a _ ih=>(cQ a.2).bind fun x=>ih.bind fun xs=>some ((a.1,x)::xs)) l
noncomputable def J1 (w:PV) (st:St):Option (PV × St):=oe (nY w) (fun k=>(f8 st.l k).bind fun vs=>some (.f (.lst vs),{ st with l:=e9 st.l k .dead })) (some (w,st))
noncomputable def tM (l:List PV):St→Option (List PV × St):=@List.rec PV (fun _=>St→Option (List PV × St)) (fun st=>some ([],st)) (fun w _ ih st=>(J1 w st).bind fun r=>(ih r.2).bind fun q=>some (r.1::q.1,q.2)) l
noncomputable def fY (w:PV) (st:St):Option (List FV):=@PV.rec (fun _=>Option (List FV)) jW (f8 st.g) (f8 st.l) w
noncomputable def Bw (x:FV):Option (List FV):=oe (jW x) some (oe (i9 x) some ((dF x).bind fun s=>some (s.map fun c=>.str [c])))
noncomputable def xG (fz:Bool) (w:PV) (st:St):Option (List FV):=@PV.rec (fun _=>Option (List FV)) Bw (fun _=>none) (fun k=>@Bool.rec (fun _=>Option (List FV)) (f8 st.l k) none fz) w
noncomputable def B9 (i:Int) (n:Nat):Option Nat:=@Int.rec (fun _=>Option Nat) (fun k=>gd (Nat.blt k n) (gd (fits k) (some k))) (fun k=>gd (Nat.blt k n) (gd (fits k) (some (n - (k + 1))))) i
noncomputable def cut {α:Type} (xs:List α) (lo hi:Option Int):List α :=
 (xs.drop (lo.elim 0 (clipAt xs.length))).take (hi.elim xs.length (clipAt xs.length) - lo.elim 0 (clipAt xs.length))
noncomputable def Ay (op:Operator):Bool:=match op with
 | .Add=>true
 | _=>false
noncomputable def G9 (op:Operator):Bool:=match op with
 | .Mult=>true
 | _=>false
noncomputable def OR (op:Operator) (x y:Int):Option Int:=match op with
 | .Add=>some (x + y)
 | .Sub=>some (x - y)
 | .Mult=>gd (decide (Builtin.Int.intBits x ≤ 64)||decide (Builtin.Int.intBits y ≤ 64)) (some (x * y))
 | .FloorDiv=>gd (decide (y ≠ 0)) (gd (!Builtin.divisionGoesByPylong x y) (some (Int.fdiv x y)))
 | .Mod=>gd (decide (y ≠ 0)) (some (Int.fmod x y))
 | .LShift=>gd (decide (0 ≤ y)) (gd (decide ((Builtin.Int.intBits x:Int) + y ≤ 2 ^ 27)) (some (x * 2 ^ y.toNat)))
 | .RShift=>gd (decide (0 ≤ y)) (some (x.fdiv (2 ^ y.toNat)))
 | .BitOr=>some (Builtin.bitOr x y)
 | .BitAnd=>some (Builtin.bitAnd x y)
 | .Pow=>gd (decide (0 ≤ y)) (gd (decide ((Builtin.Int.intBits x:Int) * y ≤ 2 ^ 27)) (some (x ^ y.toNat)))
 | .Div=>none
 | .MatMult=>none
 | .BitXor=>none
noncomputable def Pq (a b:List Nat):Option FV:=gd (fits (a.length + b.length)) (some (.str (a++b)))
noncomputable def rV (a b:List Nat):Option PV:=(Pq a b).bind fun z=>some (.f z)
noncomputable def BS (op:Operator) (a b:FV):Option FV :=
 oe (dO a) (fun x=>(dO b).bind fun y=>(OR op x y).bind fun z=>some (.int z))
  (oe (dF a) (fun x=>(dO b).bind fun i=>(sD i).bind fun n=>gd (G9 op) (gd (Nat.blt x.length 2) (gd (Nat.blt n 1000000) (some (.str ((List.replicate n x).flatten))))))
   ((jW a).bind fun x=>(jW b).bind fun y=>gd (Ay op) (gd (fits (x.length + y.length)) (some (.lst (x++y))))))
noncomputable def HC (op:Operator) (a b:FV):Option (List Nat × List Nat):=gd (Ay op) ((dF a).bind fun x=>(dF b).bind fun y=>some (x,y))
noncomputable def A4 (op:Operator) (a b:FV):Option FV:=(dO a).bind fun x=>(dO b).bind fun y=>match op with
 | .Add=>some (.int (x + y))
 | .Sub=>some (.int (x - y))
 | _=>none
noncomputable def w6 (x y:FV) (f:Int→Int→Bool):Option Bool:=(dO x).bind fun a=>(dO y).bind fun b=>some (f a b)
noncomputable def Gv (a b:FV):Option Bool:=oe (jW b) (zU a) (oe (i9 b) (zU a) (oe (qJ b) (fun es=>(wS a es).bind fun x=>some x.isSome)
 ((dF b).bind fun s=>(dF a).bind fun c=>some (!(Builtin.Str.occurrences ⟨s.toArray⟩ ⟨c.toArray⟩ 0 s.length 1).isEmpty))))
noncomputable def RY (x y:List Nat):Option Bool:=(one x).bind fun i=>(one y).bind fun j=>some (!Nat.blt j i)
noncomputable def Gk (op:CmpOp) (a b:FV):Option Bool:=match op with
 | .Eq=>O8 a b
 | .NotEq=>O7 a b
 | .Lt=>w6 a b fun x y=>decide (x < y)
 | .LtE=>oe (dF a) (fun x=>(dF b).bind (RY x)) (w6 a b fun x y=>decide (x ≤ y))
 | .Gt=>w6 a b fun x y=>decide (y < x)
 | .GtE=>w6 a b fun x y=>decide (y ≤ x)
 | .In=>Gv a b
 | .NotIn=>(i9 b).bind fun vs=>(zU a vs).bind fun x=>some (!x)
 | .Is=>none
 | .IsNot=>none
noncomputable def Kj (op:CmpOp) (a b:PV):Option Bool:=(cQ a).bind fun x=>(cQ b).bind fun y=>Gk op x y
noncomputable def cM (op:CmpOp) (a b:PV):Option Bool:=match op with
 | .Is=>gd (isNone b) (some (isNone a))
 | .IsNot=>gd (isNone b) (some (!isNone a))
 | op=>Kj op a b
noncomputable def mY (l:List FV):Option Nat:=@List.rec FV (fun _=>Option Nat) (some 0) (fun a _ ih=>(dF a).bind fun x=>ih.bind fun n=>some (x.length + n)) l
noncomputable def n0 (s:List Nat) (l:List FV):Option (List Nat):=@List.rec FV (fun _=>Option (List Nat)) (some []) (fun a r ih=>(dF a).bind fun x=>@List.rec FV (fun _=>Option (List Nat)) (some x) (fun _ _ _=>ih.bind fun y=>some (x++s++y)) r) l
noncomputable def oO (s:List Nat) (vs:List FV):Option PV:=(mY vs).bind fun n=>gd (fits (n + vs.length * s.length)) ((n0 s vs).bind fun t=>some (.f (.str t)))
noncomputable def yD (l:List FV):Option Int:=@List.rec FV (fun _=>Option Int) (some 0) (fun a _ ih=>(dO a).bind fun i=>ih.bind fun j=>some (i + j)) l
noncomputable def eX (x:List FV):List FV→List FV:=@List.rec FV (fun _=>List FV→List FV) (fun _=>[]) (fun a _ ih y=>@List.rec FV (fun _=>List FV) [] (fun b y _=>.tup [a,b]::ih y) y) x
noncomputable def Cs (a b:Int):List FV:=(List.range (b - a).toNat).map fun (i:Nat)=>FV.int (a + (i:Int))
noncomputable def gG (e:Expr):Option Str:=nF e none (fun _ _=>none) (fun _ _ _=>none) (fun _ _=>none) (fun _ _ _=>none) (fun _ _=>none) none (fun _ _ _=>none) none (fun _ _ _=>none) (fun _ _ _ _=>none) (fun _=>none) (fun _ _ _=>none) (fun _ _ _=>none) none some (fun _ _=>none) (fun _=>none) (fun _ _ _=>none)
noncomputable def A5 (e:Expr):Option (Expr × Str × Pos):=nF e none (fun _ _=>none) (fun _ _ _=>none) (fun _ _=>none) (fun _ _ _=>none) (fun _ _=>none) none (fun _ _ _=>none) none (fun _ _ _=>none) (fun _ _ _ _=>none) (fun _=>none) (fun o a p=>some (o,a,p)) (fun _ _ _=>none) none (fun _=>none) (fun _ _=>none) (fun _=>none) (fun _ _ _=>none)
noncomputable def yH (e:Expr):Option (Expr × List Expr × List Keyword × Pos):=nF e none (fun _ _=>none) (fun _ _ _=>none) (fun _ _=>none) (fun _ _ _=>none) (fun _ _=>none) none (fun _ _ _=>none) none (fun _ _ _=>none) (fun f a k p=>some (f,a,k,p)) (fun _=>none) (fun _ _ _=>none) (fun _ _ _=>none) none (fun _=>none) (fun _ _=>none) (fun _=>none) (fun _ _ _=>none)
noncomputable def FR (e:Expr):Option (Option Expr × Option Expr × Option Expr):=nF e none (fun _ _=>none) (fun _ _ _=>none) (fun _ _=>none) (fun _ _ _=>none) (fun _ _=>none) none (fun _ _ _=>none) none (fun _ _ _=>none) (fun _ _ _ _=>none) (fun _=>none) (fun _ _ _=>none) (fun _ _ _=>none) none (fun _=>none) (fun _ _=>none) (fun _=>none) (fun a b c=>some (a,b,c))
noncomputable def KO (e:Expr):Option (UnaryOp × Expr):=nF e none (fun _ _=>none) (fun _ _ _=>none) (fun op x=>some (op,x)) (fun _ _ _=>none) (fun _ _=>none) none (fun _ _ _=>none) none (fun _ _ _=>none) (fun _ _ _ _=>none) (fun _=>none) (fun _ _ _=>none) (fun _ _ _=>none) none (fun _=>none) (fun _ _=>none) (fun _=>none) (fun _ _ _=>none)
noncomputable def E2 (e:Expr):Option Const:=nF e none (fun _ _=>none) (fun _ _ _=>none) (fun _ _=>none) (fun _ _ _=>none) (fun _ _=>none) none (fun _ _ _=>none) none (fun _ _ _=>none) (fun _ _ _ _=>none) some (fun _ _ _=>none) (fun _ _ _=>none) none (fun _=>none) (fun _ _=>none) (fun _=>none) (fun _ _ _=>none)
noncomputable def xQ (e:Expr):Option (List Expr):=nF e none (fun _ _=>none) (fun _ _ _=>none) (fun _ _=>none) (fun _ _ _=>none) (fun _ _=>none) none (fun _ _ _=>none) none (fun _ _ _=>none) (fun _ _ _ _=>none) (fun _=>none) (fun _ _ _=>none) (fun _ _ _=>none) none (fun _=>none) (fun _ _=>none) some (fun _ _ _=>none)
noncomputable def JX (e:Expr):Bool:=nF e false (fun _ _=>false) (fun _ _ _=>false) (fun _ _=>false) (fun _ _ _=>false) (fun _ _=>false) false (fun _ _ _=>false) false (fun _ _ _=>false) (fun _ _ _ _=>false) (fun _=>false) (fun _ _ _=>false) (fun _ _ _=>false) false (fun _=>false) (fun _ _=>true) (fun _=>false) (fun _ _ _=>false)
noncomputable def v4 (op:UnaryOp):Bool:=match op with
 | .USub=>true
 | _=>false
noncomputable def MI (op:UnaryOp):Bool:=match op with
 | .Not=>true
 | _=>false
noncomputable def Ox (c:Const):Bool:=match c with
 | .int i=>oe (sD i) (fun n=>Nat.beq n 1) false
 | _=>false
noncomputable def Pu (c:Const):Bool:=match c with
 | .none=>true
 | _=>false
noncomputable def Fm (e:Expr):Bool:=oe (KO e) (fun q=>oe (E2 q.2) (fun c=>v4 q.1&&Ox c) false) false
noncomputable def bV {α:Type} (l:List α):Bool:=@List.rec α (fun _=>Bool) true (fun _ _ _=>false) l
inductive Qn where
 | call (f:Nat) (ws:List PV) (g:List MO) | pb (x:Option Bool) | pv (x:St→Option PV) (st:St) | ps (x:Option (PV × St)) | cat (a b:List Nat) | jo (s:List Nat) (vs:List FV)
@[reducible] def Qn.A (q:Qn):Type:=@Qn.rec (fun _=>Type) (fun _ _ _=>PV × List MO) (fun _=>Bool) (fun _ _=>PV) (fun _=>PV × St) (fun _ _=>PV) (fun _ _=>PV) q
noncomputable def Qn.run (C:bW) (q:Qn):O q.A:=@Qn.rec (fun q=>O q.A) (fun f ws g=>C f ws g) eJ (fun x st=>eJ (x st)) eJ (fun a b=>eJ (rV a b)) (fun s vs=>eJ (oO s vs)) q
inductive Pg (α:Type):Type where
 | stuck | raise | ok (a:α) | ask (c:Bool) (m:Nat) (q:Qn) (k:q.A→Pg α)
noncomputable def Pg.bind {α β:Type} (x:Pg α) (h:α→Pg β):Pg β:=@Pg.rec α (fun _=>Pg β) .stuck .raise h (fun c m q _ ih=>.ask c m q ih) x
noncomputable def calm {α:Type} (x:O α):O α:=@O.rec α (fun _=>O α) .stuck .stuck .ok x
noncomputable def kI {α:Type} (c:Bool) (x:O α):O α:=@Bool.rec (fun _=>O α) x (calm x) c
noncomputable def aN {α:Type} (C:bW) (x:Pg α):O α:=@Pg.rec α (fun _=>O α) .stuck .raise .ok (fun c _ q _ ih=>(kI c (q.run C)).bind ih) x
noncomputable def fB {α:Type} (x:Pg α):Pg α:=@Pg.rec α (fun _=>Pg α) .stuck .stuck .ok (fun _ m q _ ih=>.ask true m q ih) x
noncomputable def opt {α β:Type} (x:Option α) (k:α→Pg β):Pg β:=@Option.rec α (fun _=>Pg β) .stuck k x
noncomputable def gp {β:Type} (b:Bool) (x:Pg β):Pg β:=@Bool.rec (fun _=>Pg β) .stuck x b
noncomputable def qB {β:Type} (m:Nat) (x:Option Bool) (k:Bool→Pg β):Pg β:=.ask false m (.pb x) k
noncomputable def qV {β:Type} (m:Nat) (x:St→Option PV) (st:St) (k:PV→Pg β):Pg β:=.ask false m (.pv x st) k
noncomputable def qS (m:Nat) (x:Option (PV × St)):Pg (PV × St):=.ask false m (.ps x) .ok
noncomputable def qC {β:Type} (m:Nat) (f:Nat) (ws:List PV) (g:List MO) (k:PV × List MO→Pg β):Pg β:=.ask false m (.call f ws g) k
noncomputable def Qj:Str := "__debug__"
noncomputable def Qy:Str := "__classdict__"
noncomputable def kindOf (sc:Scope) (x:Str):Option NameKind:=gd (!seq x Qj) (gd (!seq x Qy) (lk x sc.names))
noncomputable def bO (e:Expr):Bool:=nF e true (fun _ _=>true) (fun _ _ _=>true) (fun _ _=>true) (fun _ _ _=>true) (fun _ _=>true) false (fun _ _ _=>true) true (fun _ _ _=>true) (fun _ _ _ _=>true) (fun _=>true) (fun _ _ _=>true) (fun _ _ _=>true) false (fun _=>true) (fun _ _=>true) (fun _=>true) (fun _ _ _=>true)
noncomputable def sA (e:Expr):Bool:=oe (yH e) (fun q=>!(oe (gG q.1) (fun _=>bV q.2.1&&bV q.2.2.1) false)) true
section
variable (T:bP)
noncomputable def gR (cx:Cx) (x:Str) (st:St):Option PV:=(kindOf cx.sc x).bind fun k=>match k with
 | .local=>lk x st.v
 | .cell=>lk x st.c
 | .free=>lk x st.c
 | .globalImplicit=>(lk x T.glob).bind fun y=>some (.f y)
 | .globalExplicit=>none
noncomputable def gO (cx:Cx) (x:Str) (w:PV) (st:St):Option St:=(kindOf cx.sc x).bind fun k=>match k with
 | .local=>some { st with v:=put x w st.v }
 | .cell=>some { st with c:=put x w st.c }
 | _=>none
noncomputable def mW (C:Nat) (a:Str):Bool:=oe (iU C T.fields) (BY a) false
noncomputable def vV (w:PV):Bool:=oe (cQ w) (fun x=>iS x true (fun _=>true) (fun _=>true) (fun _=>true) (fun _=>true) (fun _=>true) (fun _ _=>true) (fun _=>true) (fun _=>true) (fun _=>true) (fun _=>false)) true
noncomputable def yF (w:PV) (a:Str) (st:St):Option PV:=@PV.rec (fun _=>Option PV)
 (fun x=>(Gz x).bind fun q=>gd (mW T q.1 a) ((lk a q.2).bind fun y=>gd (vV (.f y)) (some (.f y))))
 (fun k=>(jK st.g k).bind fun q=>gd (mW T q.1 a) ((lk a q.2).bind fun y=>gd (vV y) (some y)))
 (fun _=>none) w
noncomputable def mO (w:PV):Bool:=oe (nY w) (fun _=>false) true
noncomputable def Ax (w:PV) (a:Str) (y:PV) (st:St):Option St:=(sM w).bind fun k=>(jK st.g k).bind fun q=>gd (mW T q.1 a) (gd (Nat.blt q.2.length 100) (gd (mO y) (some { st with g:=e9 st.g k (.inst q.1 (put a y q.2)) })))
noncomputable def wM (i:Int) (vs:List FV):Option PV:=(B9 i vs.length).bind fun j=>(nth vs j).bind fun y=>some (.f y)
noncomputable def Po (s:List Nat) (i:Int):Option PV:=(B9 i s.length).bind fun j=>(nth s j).bind fun c=>some (.f (.str [c]))
noncomputable def getD (es:List (FV × FV)) (k:FV):Option PV:=(wS k es).bind fun o=>o.bind fun y=>some (.f y)
noncomputable def bJ (w i:PV) (st:St):Option PV:=(cQ i).bind fun k=>oe ((cQ w).bind qJ) (fun es=>getD es k)
 ((dO k).bind fun i=>oe (oK w) (fun s=>Po s i) (oe ((cQ w).bind i9) (wM i) ((fY w st).bind (wM i))))
noncomputable def xK (i:Int) (n:Nat):Option Nat:=(sD i).bind fun k=>gd (Nat.blt k n) (gd (fits k) (some k))
noncomputable def JY (w i:PV) (y:PV) (st:St):Option St:=(mX i).bind fun i=>(cQ y).bind fun y=>@PV.rec (fun _=>Option St) (fun _=>none)
 (fun k=>(f8 st.g k).bind fun vs=>(xK i vs.length).bind fun j=>some { st with g:=e9 st.g k (.lst (e9 vs j y)) })
 (fun k=>(f8 st.l k).bind fun vs=>(xK i vs.length).bind fun j=>some { st with l:=e9 st.l k (.lst (e9 vs j y)) }) w
noncomputable def gS (isMut:Bool) (isGlob:Bool) (vs:List FV) (st:St):Option (PV × St):=gd (fits vs.length) (some (bif isGlob then (.ref st.g.length,{ st with g:=st.g++[.lst vs] }) else bif isMut then (.loc st.l.length,{ st with l:=st.l++[.lst vs] }) else (.f (.lst vs),st)))
noncomputable def yB (s:List Nat) (i j:Option Int):Option PV:=gd (fits s.length) (some (.f (.str (cut s i j))))
noncomputable def eH (m:Bool) (w:PV) (i j:Option Int) (st:St):Option (PV × St):=(fY w st).bind fun vs=>gd (fits vs.length) (gS m false (cut vs i j) st)
noncomputable def F2 (x:Option PV):Option (Option Int):=oe x (fun w=>(cQ w).bind fun x=>iS x (some none) (fun _=>none) (fun i=>some (some i)) (fun _=>none) (fun _=>none) (fun _=>none) (fun _ _=>none) (fun _=>none) (fun _=>none) (fun _=>none) (fun _=>none)) (some none)
noncomputable def rF (x:FV):Option (Nat ⊕ Ty):=iS x (some (.inr .none)) (fun _=>some (.inr .bool)) (fun _=>some (.inr .int)) (fun _=>some (.inr .str)) (fun _=>some (.inr .tuple)) (fun _=>some (.inr .list)) (fun D _=>gd (d5 D T.isiC) (some (.inl D))) (fun _=>none) (fun _=>none) (fun _=>none) (fun _=>none)
noncomputable def jE (x:Nat ⊕ Ty):Value:=@Sum.rec Nat Ty (fun _=>Value) .ref (fun m=>.type m.id) x
noncomputable def QD (n:Ty):Bool:=match n with
 | .list=>true
 | .tuple=>true
 | .bool=>true
 | _=>false
noncomputable def FS (x:Nat ⊕ Ty) (c:Nat ⊕ Ty):Bool:=@Sum.rec Nat Ty (fun _=>Bool) (fun D=>@Sum.rec Nat Ty (fun _=>Bool) (fun C=>Nat.beq D C) (fun _=>false) c) (fun m=>@Sum.rec Nat Ty (fun _=>Bool) (fun _=>false) (fun n=>Nat.beq m.n n.n) c) x
noncomputable def Ag (t:FV):Option (Nat ⊕ Ty):=iS t none (fun _=>none) (fun _=>none) (fun _=>none) (fun _=>none) (fun _=>none) (fun _ _=>none) (fun _=>none) (fun C=>gd (d5 C T.isiC) (some (.inl C))) (fun n=>gd (QD n) (some (.inr n))) (fun _=>none)
noncomputable def yN (x:FV) (t:FV):Option Bool:=(rF T x).bind fun tv=>(Ag T t).bind fun c=>some (FS tv c)
noncomputable def z0 (x:FV) (l:List FV):Option Bool:=@List.rec FV (fun _=>Option Bool) (some false) (fun t _ ih=>(yN T x t).bind fun b=>bif b then some true else ih) l
noncomputable def zF (x t:FV):Option Bool:=oe (i9 t) (fun l=>gd (!bV l) (z0 T x l)) (yN T x t)
noncomputable def oZ (n:Bl) (ws:List PV) (st:St):Option PV:=match n with
 | .len=>(one ws).bind fun w=>oe (oK w) (fun s=>gd (fits s.length) (some (.f (.int s.length)))) ((fY w st).bind fun vs=>gd (fits vs.length) (some (.f (.int vs.length))))
 | .ord=>(one ws).bind fun w=>(oK w).bind fun s=>(one s).bind fun c=>some (.f (.int c))
 | .chr=>(one ws).bind fun w=>(mX w).bind fun i=>(sD i).bind fun c=>gd (Nat.blt c 0x110000) (some (.f (.str [c])))
 | .isi=>(mM ws).bind fun q=>(cQ q.1).bind fun x=>(cQ q.2).bind fun t=>(zF T x t).bind fun b=>some (.f (.bool b))
 | .max=>(mM ws).bind fun q=>(mX q.1).bind fun a=>(mX q.2).bind fun b=>some (.f (.int (if b > a then b else a)))
 | .sum=>(one ws).bind fun w=>(fY w st).bind fun vs=>(yD vs).bind fun i=>some (.f (.int i))
noncomputable def jR (n:Ty) (line:Nat) (ws:List PV) (st:St):Option (PV × St):=(one ws).bind fun w=>match n with
 | .list=>(fY w st).bind fun vs=>gS (d5 line T.mutCall) false vs st
 | .str=>(mX w).bind fun a=>gd (Nat.blt a.natAbs.log2 1920) (some (.f (.str (Str.ofString (toString a)).cps.toList),st))
 | .int=>((cQ w).bind pH).bind fun b=>some (.f (.int (if b then 1 else 0)),st)
 | _=>none
inductive qZ where
 | fn (a:Nat) | app | pop | ext | join | starts | lstrip | get
noncomputable def Ar (w:PV) (ws:List PV) (st:St):Option (PV × St):=(nY w).bind fun k=>(one ws).bind fun u=>(cQ u).bind fun x=>(f8 st.l k).bind fun vs=>gd (fits vs.length) (some (.f .none,{ st with l:=e9 st.l k (.lst (vs++[x])) }))
noncomputable def mJ (w:PV) (ws:List PV) (st:St):Option (PV × St):=(nY w).bind fun k=>gd (bV ws) ((f8 st.l k).bind fun vs=>gd (fits vs.length) (@List.rec FV (fun _=>Option (PV × St)) none (fun x r _=>some (.f x,{ st with l:=e9 st.l k (.lst r.reverse) })) vs.reverse))
noncomputable def rH (w:PV) (ws:List PV) (st:St):Option (PV × St):=(nY w).bind fun k=>(one ws).bind fun u=>((cQ u).bind jW).bind fun xs=>(f8 st.l k).bind fun vs=>gd (fits (vs.length + xs.length)) (some (.f .none,{ st with l:=e9 st.l k (.lst (vs++xs)) }))
noncomputable def tV (w:PV) (ws:List PV):Option PV:=(oK w).bind fun s=>(mM ws).bind fun q=>(oK q.1).bind fun p=>(mX q.2).bind fun i=>some (.f (.bool (decide (fromIndex s.length i + p.length ≤ s.length)&&Builtin.Str.subAt ⟨s.toArray⟩ ⟨p.toArray⟩ (fromIndex s.length i))))
noncomputable def DO (w:PV) (ws:List PV):Option PV:=(oK w).bind fun s=>(one ws).bind fun u=>(oK u).bind fun cs=>gd (fits s.length) (some (.f (.str (if PySem.stripSame cs.toArray.contains true false ⟨s.toArray⟩ then s else (PySem.stripped cs.toArray.contains true false ⟨s.toArray⟩).cps.toList))))
noncomputable def LG (w:PV) (ws:List PV):Option PV:=((cQ w).bind qJ).bind fun es=>oe (one ws) (fun u=>(cQ u).bind fun k=>(wS k es).bind fun r=>some (.f (r.getD .none)))
 ((mM ws).bind fun q=>(cQ q.1).bind fun k=>(cQ q.2).bind fun d=>(wS k es).bind fun r=>some (.f (r.getD d)))
noncomputable def sO (n:Nat) (w:PV):Bool:=@PV.rec (fun _=>Bool) (fun _=>true) (fun k=>Nat.blt k n) (fun _=>false) w
noncomputable def wV (n:Nat) (l:List (Str × PV)):Bool:=@List.rec (Str × PV) (fun _=>Bool) true (fun p _ ih=>@Bool.rec (fun _=>Bool) false ih (sO n p.2)) l
noncomputable def mP (n:Nat) (l:List MO):Bool:=@List.rec MO (fun _=>Bool) true (fun m _ ih=>@Bool.rec (fun _=>Bool) false ih (oe (pG m) (fun q=>wV n q.2) true)) l
noncomputable def PS (n:Nat) (g:List MO):Option (FV × List MO):=gd (Nat.beq g.length (n + 1)) (gd (mP n (g.take n)) ((jK g n).bind fun q=>(nT q.2).bind fun ys=>some (.obj q.1 ys,g.take n)))
noncomputable def zG (fz:Bool) (st:St) (q:PV × List MO):Option (PV × St):=gd (isNone q.1) (@Bool.rec (fun _=>Option (PV × St)) (some (.ref st.g.length,{ st with g:=q.2 })) ((PS st.g.length q.2).bind fun z=>some (.f z.1,{ st with g:=z.2 })) fz)
noncomputable def Bj (cx:Cx) (a:Nat) (pre:List PV) (ws:List PV) (st:St):Pg (PV × St):=opt (tM ws st) fun r=>qC cx.f a (pre++r.1) r.2.g fun q=>.ok (q.1,{ r.2 with g:=q.2 })
noncomputable def G1 (cx:Cx) (a:Nat) (fz:Bool) (ini:Nat) (ws:List PV) (st:St):Pg (PV × St):=opt (tM ws st) fun r=>qC cx.f ini (.ref r.2.g.length::r.1) (r.2.g++[.inst a []]) fun q=>opt (zG fz r.2 q) .ok
noncomputable def v7 (cx:Cx) (fv:FV) (line:Nat) (ws:List PV) (st:St):Pg (PV × St):=iS fv .stuck (fun _=>.stuck) (fun _=>.stuck) (fun _=>.stuck) (fun _=>.stuck) (fun _=>.stuck) (fun _ _=>.stuck) (fun _=>.stuck) (fun a=>oe (iU a T.clss) (fun p=>G1 cx a p.1 p.2 ws st) (opt (iU a T.fns) fun _=>Bj cx a [] ws st)) (fun n=>qS cx.f (jR T n line ws st)) (fun n=>qV cx.f (oZ T n ws) st fun v=>.ok (v,st))
noncomputable def Pk (n:Str):Option qZ:=bif seq n "append" then some .app else bif seq n "pop" then some .pop else gd (seq n "extend") (some .ext)
noncomputable def Pd (n:Str):Option qZ:=bif seq n "join" then some .join else bif seq n "startswith" then some .starts else gd (seq n "lstrip") (some .lstrip)
noncomputable def Fo (w:PV) (n:Str) (st:St):Option qZ:=@PV.rec (fun _=>Option qZ)
 (fun x=>oe (dF x) (fun _=>Pd n) ((qJ x).bind fun _=>gd (seq n "get") (some .get)))
 (fun k=>(jK st.g k).bind fun q=>oe (lk n q.2) (fun _=>none) ((iU q.1 T.meths).bind fun ms=>(lk n ms).bind fun a=>some (.fn a)))
 (fun k=>(f8 st.l k).bind fun _=>Pk n) w
noncomputable def Mw (cx:Cx) (cal:qZ) (w:PV) (ws:List PV) (st:St):Pg (PV × St):=match cal with
 | .fn a=>Bj cx a [w] ws st
 | .app=>qS cx.f (Ar w ws st)
 | .pop=>qS cx.f (mJ w ws st)
 | .ext=>qS cx.f (rH w ws st)
 | .join=>opt (oK w) fun s=>opt (one ws) fun u=>opt (fY u st) fun vs=>.ask false cx.f (.jo s vs) fun v=>.ok (v,st)
 | .starts=>qV cx.f (fun _=>tV w ws) st fun v=>.ok (v,st)
 | .lstrip=>qV cx.f (fun _=>DO w ws) st fun v=>.ok (v,st)
 | .get=>qV cx.f (fun _=>LG w ws) st fun v=>.ok (v,st)
noncomputable def CB (o:Expr) (ap p:Pos) (args:List Expr):Bool:=sA o&&(ap.endLine == p.line)&&decide (args.length < 20)&&args.all bO
variable (ih:Cx→Expr→St→Pg (PV × St))
noncomputable def oR (cx:Cx) (es:List Expr):St→Pg (List PV × St):=@List.rec Expr (fun _=>St→Pg (List PV × St)) (fun st=>.ok ([],st)) (fun e _ k st=>gp (bO e) ((ih cx e st).bind fun a=>(k a.2).bind fun q=>.ok (a.1::q.1,q.2))) es
noncomputable def Ca (cx:Cx) (e:Option Expr) (st:St):Pg (Option PV × St):=oe e (fun e=>(ih cx e st).bind fun a=>.ok (some a.1,a.2)) (.ok (none,st))
noncomputable def wD (op:BoolOp) (t:Bool):Bool:=@BoolOp.rec (fun _=>Bool) (!t) t op
noncomputable def t0 (cx:Cx) (op:BoolOp) (es:List Expr):St→Pg (PV × St):=@List.rec Expr (fun _=>St→Pg (PV × St)) (fun _=>.stuck) (fun e r k st=>bif bV r then ih cx e st else (ih cx e st).bind fun a=>opt (s8 a.1) fun t=>bif wD op t then .ok a else k a.2) es
noncomputable def BH (cx:Cx) (ops:List CmpOp):List Expr→PV→St→Pg (Bool × St):=@List.rec CmpOp (fun _=>List Expr→PV→St→Pg (Bool × St)) (fun _ _ _=>.stuck)
 (fun op ops k es left st=>@List.rec Expr (fun _=>Pg (Bool × St)) .stuck (fun e es _=>(ih cx e st).bind fun a=>qB cx.f (cM op left a.1) fun b=>bif bV ops then gp (bV es) (.ok (b,a.2)) else bif b then k es a.1 a.2 else .ok (false,a.2)) es) ops
noncomputable def wL (cx:Cx) (left:PV) (ops:List CmpOp) (es:List Expr) (st:St):Pg (Bool × St):=gp (!lastMarks ops es) (gp (Nat.beq ops.length es.length) (BH ih cx ops es left st))
noncomputable def Fb (wQ:Expr→St→Pg (Bool × St)) (op:BoolOp) (es:List Expr):St→Pg (Bool × St):=@List.rec Expr (fun _=>St→Pg (Bool × St)) (fun st=>.ok (wD op false,st)) (fun e _ k st=>(wQ e st).bind fun a=>bif wD op a.1 then .ok a else k a.2) es
noncomputable def fX (cx:Cx) (e:Expr) (st:St):Pg (Bool × St):=(ih cx e st).bind fun a=>opt (s8 a.1) fun b=>.ok (b,a.2)
noncomputable def QE (cx:Cx) (k:Expr→St→Pg (Bool × St)) (e:Expr) (st:St):Pg (Bool × St):=nF e (fX ih cx e st) (fun op es=>Fb k op es st) (fun _ _ _=>fX ih cx e st) (fun op x=>bif MI op then (k x st).bind fun a=>.ok (!a.1,a.2) else fX ih cx e st) (fun _ _ _=>.stuck) (fun _ _=>fX ih cx e st) (fX ih cx e st) (fun _ _ _=>fX ih cx e st) (fX ih cx e st) (fun a ops es=>(ih cx a st).bind fun r=>wL ih cx r.1 ops es r.2) (fun _ _ _ _=>fX ih cx e st) (fun _=>fX ih cx e st) (fun _ _ _=>fX ih cx e st) (fun _ _ _=>fX ih cx e st) (fX ih cx e st) (fun _=>fX ih cx e st) (fun _ _=>fX ih cx e st) (fun _=>fX ih cx e st) (fun _ _ _=>fX ih cx e st)
noncomputable def wQ (cx:Cx) (k:Nat):Expr→St→Pg (Bool × St):=@Nat.rec (fun _=>Expr→St→Pg (Bool × St)) (fun _ _=>.stuck) (fun _ k=>QE ih cx k) k
noncomputable def Hi (i j:Int):Bool:=decide (-1000000 ≤ i)&&decide (i ≤ 1000000)&&decide (-1000000 ≤ j)&&decide (j ≤ 1000000)
noncomputable def Ib (w:PV):Bool:=oe ((cQ w).bind vZ) (fun n=>match n with
 | .range=>true
 | _=>false) false
noncomputable def DP (e:Expr):Option (Str × List Expr):=(yH e).bind fun q=>(gG q.1).bind fun n=>gd (bV q.2.2.1) (gd (q.2.1.all bO) (some (n,q.2.1)))
noncomputable def xU (i j:Int):Option (List FV):=gd (Hi i j) (some (Cs i j))
noncomputable def Hw (ws:List PV):Option (List FV):=oe (one ws) (fun w=>(mX w).bind fun k=>xU 0 k) ((mM ws).bind fun q=>(mX q.1).bind fun i=>(mX q.2).bind fun j=>xU i j)
noncomputable def qR (cx:Cx) (e:Expr) (st:St):Option (List Expr):=(DP e).bind fun q=>(gR T cx q.1 st).bind fun w=>gd (Ib w) (some q.2)
noncomputable def jB (fz:Bool) (cx:Cx) (e:Expr) (st:St):Pg (List FV × St):=oe (qR T cx e st) (fun args=>(oR ih cx args st).bind fun a=>opt (Hw a.1) fun xs=>.ok (xs,a.2))
 (gp (bO e) ((ih cx e st).bind fun a=>opt (xG fz a.1 a.2) fun vs=>.ok (vs,a.2)))
noncomputable def wT (cx:Cx) (t:Expr) (x:FV) (st:St):Option St:=(gG t).bind fun n=>gO cx n (.f x) st
noncomputable def nL (cx:Cx) (es:List Expr):St→Pg (Bool × St):=@List.rec Expr (fun _=>St→Pg (Bool × St)) (fun st=>.ok (true,st)) (fun e _ k st=>(wQ ih cx 6 e st).bind fun t=>bif t.1 then k t.2 else .ok (false,t.2)) es
noncomputable def iW {α β:Type} (f:α→St→Pg (List β × St)) (l:List α):St→Pg (List β × St):=@List.rec α (fun _=>St→Pg (List β × St)) (fun st=>.ok ([],st)) (fun x _ k st=>(f x st).bind fun a=>(k a.2).bind fun q=>.ok (a.1++q.1,q.2)) l
noncomputable def lU (cx:Cx) (inner:St→Pg (List FV × St)) (g:Comprehension) (x:FV) (st:St):Pg (List FV × St):=opt (wT cx g.target x st) fun st=>(nL ih cx g.ifs st).bind fun a=>bif a.1 then inner a.2 else .ok ([],a.2)
noncomputable def vP (cx:Cx) (elt:Expr) (st:St):Pg (List FV × St):=(ih cx elt st).bind fun w=>opt (cQ w.1) fun y=>.ok ([y],w.2)
noncomputable def nN (cx:Cx) (elt:Expr) (rest:List Comprehension):Comprehension→List FV→St→Pg (List FV × St):=@List.rec Comprehension (fun _=>Comprehension→List FV→St→Pg (List FV × St)) (fun g=>iW (lU ih cx (vP ih cx elt) g))
 (fun g' _ k g=>iW (lU ih cx (fun st=>(jB T ih true cx g'.iter st).bind fun q=>k g' q.1 q.2) g)) rest
noncomputable def Kb (x:FV):Bool:=oe (vZ x) (fun n=>match n with
 | .list=>true
 | _=>false) false
noncomputable def Me (w:PV):Bool:=oe ((cQ w).bind vZ) (fun n=>match n with
 | .zip=>true
 | _=>false) false
noncomputable def Iu (args:List Expr):Option (Str × Expr × Expr):=(one args).bind fun e=>(yH e).bind fun q=>(gG q.1).bind fun k=>(mM q.2.1).bind fun p=>gd (bV q.2.2.1) (gd (bO p.1) (gd (bO p.2) (some (k,p))))
noncomputable def Ju (p:Str × NameKind):Bool:=p.2 == .free
noncomputable def iR (first:Bool) (g:Comprehension):Bool:=(g.is_async == 0)&&(gG g.target).isSome&&(first||bO g.iter)
noncomputable def DH (sc:Scope):Bool:=(sc.kind == .function)&&(sc.names.all fun p=>p.2 != .cell&&(p.2 != .local||lk p.1 sc.names == some .local)&&(p.2 != .free||lk p.1 sc.names == some .free))
noncomputable def BX (sc:Scope) (st:St):St:={ st with v:=[],l:=st.l.map fun _=>.dead,c:=st.c.filter fun p=>lk p.1 sc.names == some .free }
noncomputable def vW (cx:Cx) (elt:Expr) (gens:List Comprehension) (sc:Scope) (st:St):Pg (PV × St):=gp (DH sc) (gp (sc.names.all fun p=>!Ju p||(lk p.1 st.c).isSome) (@List.rec Comprehension (fun _=>Pg (PV × St)) .stuck (fun g r _=>gp (iR true g) (gp (r.all (iR false)) ((jB T ih false cx g.iter st).bind fun i=>(fB (nN T ih ⟨cx.f,sc,cx.m⟩ elt r g i.1 (BX sc i.2))).bind fun q =>
 gp (fits q.1.length) (gp (mP q.2.g.length q.2.g) (gp (Nat.ble i.2.g.length q.2.g.length) (.ok (.f (.lst q.1),{ i.2 with g:=q.2.g }))))))) gens))
noncomputable def wG (line:Nat) (xs ys:List FV) (st:St):Option (PV × St):=gd (fits xs.length) (gd (fits ys.length) (gd (!d5 line T.mutCall) (some (.f (.lst (eX xs ys)),st))))
noncomputable def On (cx:Cx) (a b:Expr) (line:Nat) (st:St):Pg (PV × St):=(ih cx a st).bind fun r=>(ih cx b r.2).bind fun q=>opt (fY r.1 q.2) fun xs=>opt (fY q.1 q.2) fun ys=>qS cx.f (wG T line xs ys q.2)
noncomputable def AC (cx:Cx) (x:FV) (args:List Expr) (st:St):Option (Expr × Expr):=gd (Kb x) ((Iu args).bind fun q=>(gR T cx q.1 st).bind fun z=>gd (Me z) (some q.2))
noncomputable def D3 (cx:Cx) (n:Str) (args:List Expr) (line:Nat) (st:St):Pg (PV × St):=gp (args.all bO) (gp (Nat.blt args.length 20) (opt (gR T cx n st) fun w=>opt (cQ w) fun x=>oe (AC T cx x args st) (fun q=>On T ih cx q.1 q.2 line st) ((oR ih cx args st).bind fun a=>v7 T cx x line a.1 a.2)))
noncomputable def Bx (c:Const):Option PV:=match c with
 | .none=>some (.f .none)
 | .bool b=>some (.f (.bool b))
 | .int i=>some (.f (.int i))
 | .str s=>some (.f (.str s.cps.toList))
 | _=>none
noncomputable def Jk (cx:Cx) (m:Bool) (w:PV) (a b:Option PV) (st:St):Pg (PV × St):=opt (F2 a) fun i=>opt (F2 b) fun j=>oe (oK w) (fun s=>qV cx.f (fun _=>yB s i j) st fun v=>.ok (v,st)) (qS cx.f (eH m w i j st))
noncomputable def KH (m:Bool) (w:PV) (st:St):Pg (PV × St):=opt (fY w st) fun vs=>gp (fits vs.length) (opt (gS m false vs.reverse st) .ok)
noncomputable def Ah (q:Option Expr × Option Expr × Option Expr):Bool:=oe q.2.2 (fun s=>oe q.1 (fun _=>false) (oe q.2.1 (fun _=>false) (Fm s))) false
noncomputable def FG (cx:Cx) (o i:Expr) (l:Nat) (st:St):Pg (PV × St):=(ih cx o st).bind fun r=>oe (FR i)
 (fun q=>oe q.2.2 (fun _=>gp (Ah q) (KH (d5 l T.mutCall) r.1 r.2)) ((Ca ih cx q.1 r.2).bind fun a=>(Ca ih cx q.2.1 a.2).bind fun b=>Jk cx (d5 l T.mutCall) r.1 a.1 b.1 b.2))
 ((ih cx i r.2).bind fun q=>qV cx.f (bJ r.1 q.1) q.2 fun w=>.ok (w,q.2))
noncomputable def J3 (cx:Cx) (op:Operator) (a b:PV) (st:St):Pg (PV × St):=opt (cQ a) fun x=>opt (cQ b) fun y=>oe (HC op x y) (fun q=>.ask false cx.f (.cat q.1 q.2) fun v=>.ok (v,st)) (qV cx.f (fun _=>(BS op x y).bind fun z=>some (.f z)) st fun v=>.ok (v,st))
noncomputable def HG (cx:Cx) (o:Expr) (n:Str) (ap:Pos) (args:List Expr) (p:Pos) (st:St):Pg (PV × St):=gp (CB o ap p args) ((ih cx o st).bind fun r=>opt (Fo T r.1 n r.2) fun m=>(oR ih cx args r.2).bind fun a=>Mw cx m r.1 a.1 a.2)
noncomputable def Nl (cx:Cx) (f:Expr) (args:List Expr) (ks:List Keyword) (p:Pos) (st:St):Pg (PV × St):=gp (bV ks) (oe (A5 f) (fun q=>HG T ih cx q.1 q.2.1 q.2.2 args p st) (opt (gG f) fun n=>D3 T ih cx n args p.line st))
noncomputable def DJ (cx:Cx) (e:Expr) (st:St):Pg (PV × St):=nF e .stuck (fun op es=>t0 ih cx op es st) (fun a op b=>(ih cx a st).bind fun r=>(ih cx b r.2).bind fun q=>J3 cx op r.1 q.1 q.2) (fun op a=>gp (v4 op) ((ih cx a st).bind fun r=>opt (mX r.1) fun i=>.ok (.f (.int (-i)),r.2))) (fun t a b=>(wQ ih cx 6 t st).bind fun r=>bif r.1 then ih cx a r.2 else ih cx b r.2) (fun ks vs=>gp (bV ks) (gp (bV vs) (.ok (.f (.dct []),st)))) .stuck (fun elt gens sc=>vW T ih cx elt gens sc st) .stuck (fun a ops es=>(ih cx a st).bind fun r=>(wL ih cx r.1 ops es r.2).bind fun b=>.ok (.f (.bool b.1),b.2)) (fun f args ks p=>Nl T ih cx f args ks p st) (fun c=>opt (Bx c) fun w=>.ok (w,st)) (fun o a _=>gp (sA o) ((ih cx o st).bind fun r=>opt (yF T r.1 a r.2) fun w=>.ok (w,r.2))) (fun o i p=>FG T ih cx o i p.line st) .stuck (fun x=>opt (gR T cx x st) fun w=>.ok (w,st)) (fun es p=>(oR ih cx es st).bind fun r=>opt (tM r.1 r.2) fun q=>opt (frozen q.1) fun xs=>opt (gS (d5 p.line T.mutDisp) (d5 p.line T.globDisp) xs q.2) .ok) (fun es=>(oR ih cx es st).bind fun r=>opt (frozen r.1) fun xs=>gp (fits xs.length) (.ok (.f (.tup xs),r.2))) (fun _ _ _=>.stuck)
end
noncomputable def ev (T:bP) (k:Nat):Cx→Expr→St→Pg (PV × St):=@Nat.rec (fun _=>Cx→Expr→St→Pg (PV × St)) (fun _ _ _=>.stuck) (fun _ k=>DJ T k) k
noncomputable def kK (e:Expr):Bool:=nF e false (fun _ _=>false) (fun _ _ _=>false) (fun _ _=>false) (fun _ _ _=>false) (fun _ _=>false) false (fun _ _ _=>true) true (fun _ _ _=>false) (fun _ _ _ _=>false) (fun _=>false) (fun _ _ _=>false) (fun _ _ _=>false) false (fun _=>false) (fun _ _=>false) (fun _=>false) (fun _ _ _=>false)
inductive Fl where
 | next | brk | cont | ret (w:PV)
section
variable (T:bP)
noncomputable def E0:Cx→Expr→St→Pg (PV × St):=ev T 40
noncomputable def rO (A:Expr→PV→St→Pg (Unit × St)) (ts:List Expr):List PV→St→Pg (Unit × St):=@List.rec Expr (fun _=>List PV→St→Pg (Unit × St)) (fun ws st=>gp (bV ws) (.ok ((),st))) (fun t _ k ws=>@List.rec PV (fun _=>St→Pg (Unit × St)) (fun _=>.stuck) (fun w ws _ st=>(A t w st).bind fun r=>k ws r.2) ws) ts
noncomputable def Go (st:St):Pg (Unit × St):=.ok ((),st)
noncomputable def Ie (cx:Cx) (A:Expr→PV→St→Pg (Unit × St)) (t:Expr) (w:PV) (st:St):Pg (Unit × St):=nF t .stuck (fun _ _=>.stuck) (fun _ _ _=>.stuck) (fun _ _=>.stuck) (fun _ _ _=>.stuck) (fun _ _=>.stuck) .stuck (fun _ _ _=>.stuck) .stuck (fun _ _ _=>.stuck) (fun _ _ _ _=>.stuck) (fun _=>.stuck) (fun o a _=>(E0 T cx o st).bind fun r=>opt (Ax T r.1 a w r.2) Go) (fun o i _=>(E0 T cx o st).bind fun r=>(E0 T cx i r.2).bind fun q=>opt (JY r.1 q.1 w q.2) Go) .stuck (fun n=>opt (gO cx n w st) Go) (fun _ _=>.stuck) (fun ts=>opt ((cQ w).bind i9) fun xs=>gp (Nat.beq ts.length xs.length) (gp (ts.all bO) (rO A ts (xs.map .f) st))) (fun _ _ _=>.stuck)
noncomputable def pI (cx:Cx) (k:Nat):Expr→PV→St→Pg (Unit × St):=@Nat.rec (fun _=>Expr→PV→St→Pg (Unit × St)) (fun _ _ _=>.stuck) (fun _ A=>Ie T cx A) k
noncomputable def As (cx:Cx) (e:Expr):Option Str:=(gG e).bind fun n=>(kindOf cx.sc n).bind fun k=>gd (k == .local) (some n)
noncomputable def wA (l:List Str):Bool:=@List.rec Str (fun _=>Bool) true (fun a r ih=>!BY a r&&ih) l
noncomputable def CX (cx:Cx) (ts:List Expr):Bool:=wA (ts.filterMap (As cx))
noncomputable def Gf (cx:Cx) (ts es:List Expr) (st:St):Pg (Unit × St):=gp (Nat.beq ts.length es.length) (gp (Nat.ble es.length 9) (gp (ts.all bO) (gp (CX cx ts) (gp (es.all (foldedForSure 8)||!es.all (constantsAlone 8)) ((oR (E0 T) cx es st).bind fun r=>rO (pI T cx 4) ts r.1 r.2)))))
noncomputable def zI (cx:Cx) (t:Expr) (e:Expr) (st:St):Pg (Unit × St):=oe (xQ t) (fun ts=>oe (xQ e) (fun es=>Gf T cx ts es st) (gp (!kK e) ((E0 T cx e st).bind fun r=>pI T cx 4 t r.1 r.2))) (gp (!JX t) (gp (bO t) (gp (!kK e||(gG t).isSome) ((E0 T cx e st).bind fun r=>pI T cx 4 t r.1 r.2))))
noncomputable def jJ (test:St→Pg (Bool × St)) (body:St→Pg (Fl × St)) (m:Nat):St→Pg (Fl × St):=@Nat.rec (fun _=>St→Pg (Fl × St)) (fun _=>.stuck) (fun _ k st=>(test st).bind fun t=>bif t.1 then (body t.2).bind fun r=>match r.1 with
   | .next=>k r.2
   | .cont=>k r.2
   | .brk=>.ok (.next,r.2)
   | .ret w=>.ok (.ret w,r.2)
  else .ok (.next,t.2)) m
noncomputable def KL (asgn:FV→St→Option St) (body:St→Pg (Fl × St)) (l:List FV):St→Pg (Fl × St):=@List.rec FV (fun _=>St→Pg (Fl × St)) (fun st=>.ok (.next,st)) (fun x _ k st=>opt (asgn x st) fun st=>(body st).bind fun r=>match r.1 with
   | .next=>k r.2
   | .ret w=>.ok (.ret w,r.2)
   | _=>.stuck) l
noncomputable def dS (ih:Cx→Stmt→St→Pg (Fl × St)) (cx:Cx) (l:List Stmt):St→Pg (Fl × St):=@List.rec Stmt (fun _=>St→Pg (Fl × St)) (fun st=>.ok (.next,st)) (fun s _ k st=>(ih cx s st).bind fun a=>match a.1 with
  | .next=>k a.2
  | _=>.ok a) l
noncomputable def gA (cx:Cx) (e:Expr) (st:St):Pg (Bool × St):=wQ (E0 T) cx 6 e st
noncomputable def Lf (cx:Cx) (n:Str) (args:List Expr) (st:St):Pg (Fl × St):=gp (Nat.beq args.length 2) (gp (args.all bO) (opt (gR T cx n st) fun w=>opt ((cQ w).bind BQ) fun a=>gp (Nat.beq a T.fail) ((oR (E0 T) cx args st).bind fun r=>opt (frozen r.1) fun _=>.raise)))
noncomputable def Ae (cx:Cx) (op:Operator) (w r:PV) (st:St) (k:PV→Pg (Fl × St)):Pg (Fl × St):=opt (cQ w) fun x=>opt (cQ r) fun y=>qV cx.f (fun _=>(A4 op x y).bind fun z=>some (.f z)) st k
noncomputable def Oo (cx:Cx) (t:Expr) (op:Operator) (e:Expr) (st:St):Pg (Fl × St):=oe (gG t) (fun n=>opt (gR T cx n st) fun w=>(E0 T cx e st).bind fun r=>Ae cx op w r.1 r.2 fun z=>opt (gO cx n z r.2) fun st=>.ok (.next,st))
 (opt (A5 t) fun p=>(E0 T cx p.1 st).bind fun q=>opt (yF T q.1 p.2.1 q.2) fun w=>(E0 T cx e q.2).bind fun r=>Ae cx op w r.1 r.2 fun z=>opt (Ax T q.1 p.2.1 z r.2) fun st=>.ok (.next,st))
noncomputable def LY (cx:Cx) (x:Expr) (st:St):Pg (Fl × St):=opt (yH x) fun q=>gp (bV q.2.2.1) (opt (gG q.1) fun n=>Lf T cx n q.2.1 st)
noncomputable def C0 (ih:Cx→Stmt→St→Pg (Fl × St)) (cx:Cx) (s:Stmt) (st:St):Pg (Fl × St):=sF s .stuck (fun _ _ _=>.stuck) (fun _=>.stuck) (fun v=>opt v fun e=>(E0 T cx e st).bind fun r=>.ok (.ret r.1,r.2)) (fun ts e=>opt (one ts) fun t=>(zI T cx t e st).bind fun r=>.ok (.next,r.2)) (fun t op e=>Oo T cx t op e st) (fun t it b o=>gp (bV o) (opt (gG t) fun n=>(jB T (E0 T) true cx it st).bind fun r=>fB (KL (fun x st=>gO cx n (.f x) st) (dS ih cx b) r.1 r.2))) (fun t b o=>gp (bV o) (jJ (gA T cx t) (dS ih cx b) cx.m st)) (fun t a b=>(gA T cx t st).bind fun r=>bif r.1 then dS ih cx a r.2 else dS ih cx b r.2) (fun e c=>oe c (fun _=>.stuck) (opt e fun x=>LY T cx x st)) (fun _ _ _ _=>.stuck) (fun e=>gp (!kK e) ((E0 T cx e st).bind fun r=>.ok (.next,r.2))) (.ok (.brk,st)) (.ok (.cont,st))
end
noncomputable def ex (T:bP) (k:Nat):Cx→Stmt→St→Pg (Fl × St):=@Nat.rec (fun _=>Cx→Stmt→St→Pg (Fl × St)) (fun _ _ _=>.stuck) (fun _ k=>C0 T k) k
noncomputable def MR (n:Nat) (w:PV) (st:St):Option FV:=@PV.rec (fun _=>Option FV) some (fun k=>gd (!Nat.blt k n) ((jK st.g k).bind fun q=>(nT q.2).bind fun ys=>some (.obj q.1 ys))) (fun k=>(f8 st.l k).bind fun vs=>some (.lst vs)) w
noncomputable def v3 (n:Nat) (w:PV) (st:St):Option (PV × List MO):=gd (mP n (st.g.take n)) ((MR n w st).bind fun x=>some (.f x,st.g.take n))
noncomputable def Ba (sc:Scope) (ps:List Str):List PV→List (Str × PV)→List (Str × PV)→Option (List (Str × PV) × List (Str × PV)):=@List.rec Str (fun _=>List PV→List (Str × PV)→List (Str × PV)→Option (List (Str × PV) × List (Str × PV))) (fun ws v c=>gd (bV ws) (some (v,c)))
 (fun p _ k ws v c=>@List.rec PV (fun _=>Option (List (Str × PV) × List (Str × PV))) none (fun w ws _=>gd (mO w) ((kindOf sc p).bind fun kd=>match kd with
  | .local=>k ws (v++[(p,w)]) c
  | .cell=>k ws v (c++[(p,w)])
  | _=>none)) ws) ps
noncomputable def gK (ini:Bool) (n:Nat) (r:Fl × St):Option (PV × List MO):=match r.1 with
 | .next=>bif ini then gd (mP r.2.g.length r.2.g) (some (.f .none,r.2.g)) else v3 n (.f .none) r.2
 | .ret w=>gd (!ini) (v3 n w r.2)
 | _=>none
noncomputable def GB (s:Stmt):Option (List Stmt × List ExceptHandler × List Stmt × List Stmt):=sF s none (fun _ _ _=>none) (fun _=>none) (fun _=>none) (fun _ _=>none) (fun _ _ _=>none) (fun _ _ _ _=>none) (fun _ _ _=>none) (fun _ _ _=>none) (fun _ _=>none) (fun b h o f=>some (b,h,o,f)) (fun _=>none) none none
noncomputable def Gi (s:Stmt):Option Expr:=sF s none (fun _ _ _=>none) (fun _=>none) (fun v=>v) (fun _ _=>none) (fun _ _ _=>none) (fun _ _ _ _=>none) (fun _ _ _=>none) (fun _ _ _=>none) (fun _ _=>none) (fun _ _ _ _=>none) (fun _=>none) none none
noncomputable def Ex (h:ExceptHandler):Option Expr × Option Str × List Stmt:=match h with
 | .ExceptHandler t n b _=>(t,n,b)
noncomputable def B8 (l:List Stmt):Option Expr:=(one l).bind Gi
noncomputable def Dc (l:List Stmt):Bool:=oe (B8 l) (fun u=>oe (E2 u) Pu false) false
noncomputable def OU (h:ExceptHandler):Option Str:=(Ex h).1.bind fun ty=>gd (Ex h).2.1.isNone (gd (Dc (Ex h).2.2) (gG ty))
noncomputable def Ou (q:List Stmt × List ExceptHandler × List Stmt × List Stmt):Option (Expr × Str):=(B8 q.1).bind fun e=>(one q.2.1).bind fun h=>(OU h).bind fun n=>gd (bV q.2.2.1) (gd (bV q.2.2.2) (some (e,n)))
noncomputable def cW (b:List Stmt):Option (Expr × Str):=(one b).bind fun s=>(GB s).bind Ou
noncomputable def sB (l:List (Str × PV)):Bool:=@List.rec (Str × PV) (fun _=>Bool) true (fun p _ ih=>oe (cQ p.2) (fun _=>ih) false) l
noncomputable def yC (T:bP) (cx:Cx) (n:Str):Option Nat:=(kindOf cx.sc n).bind fun k=>gd (k == .globalImplicit) ((lk n T.glob).bind BQ)
noncomputable def Ek (g:List MO) (r:O (PV × St)):O (PV × List MO):=match r with
 | .ok p=>eJ ((cQ p.1).bind fun x=>some (.f x,g))
 | .raise=>.ok (.f .none,g)
 | .stuck=>.stuck
noncomputable def AY (T:bP) (C:bW) (cx:Cx) (e:Expr) (n:Str) (g:List MO) (v c:List (Str × PV)):O (PV × List MO):=(eJ (gd (sB v) (gd (sB c) ((yC T cx n).bind fun a=>gd (Nat.beq a T.fail) (some ()))))).bind fun _=>Ek g (aN C (E0 T cx e ⟨[],[],v,c⟩))
noncomputable def i0 (T:bP) (f:Nat) (ws:List PV) (g:List MO):Option (FI × List (Str × PV) × List (Str × PV)):=(iU f T.fns).bind fun p=>(t8 p.1 p.2).bind fun fi=>gd (mP g.length g) ((Ba fi.sc fi.ps ws [] []).bind fun q=>some (fi,q))
noncomputable def iC (T:bP) (m f:Nat) (g:List MO) (q:FI × List (Str × PV) × List (Str × PV)):Pg (PV × List MO):=(dS (ex T 30) ⟨f,q.1.sc,m⟩ q.1.body ⟨g,[],q.2.1,q.2.2⟩).bind fun r=>opt (gK (d5 f T.inits) g.length r) .ok
noncomputable def Gn (T:bP) (m:Nat) (f:Nat) (ws:List PV) (g:List MO):Pg (PV × List MO):=opt (i0 T f ws g) fun q=>oe (cW q.1.body) (fun _=>.stuck) (iC T m f g q)
noncomputable def cG (T:bP) (C:bW) (m:Nat) (f:Nat) (ws:List PV) (g:List MO):O (PV × List MO):=(eJ (i0 T f ws g)).bind fun q=>oe (cW q.1.body) (fun p=>AY T C ⟨f,q.1.sc,m⟩ p.1 p.2 g q.2.1 q.2.2) (aN C (iC T m f g q))
noncomputable def run (T:bP) (m:Nat) (n:Nat):bW:=@Nat.rec (fun _=>bW) (fun _ _ _=>.stuck) (fun _ C=>cG T C m) n
end Mine
end
local macro_rules
 | `(tactic| cases $e:ident)=>`(tactic| first
  | exact Mine.nk1 $e | exact Mine.nk2 $e | exact Mine.nk3 $e | exact Mine.nk4 $e | exact Mine.nk5 $e | exact Mine.nk6 $e
  | (guard_hyp $e :~ _ = _;first
    | (replace $e := Mine.okI $e;subst $e)
    | (replace $e := Option.some.inj $e;subst $e)
    | (replace $e := Eq.symm $e;subst $e)
    | (have e1:=(Prod.mk.inj $e).1;have e2:=(Prod.mk.inj $e).2;clear $e;cases e1;cases e2)
    | focus (injection $e;done)
    | cases ($e))
  | cases ($e))
 | `(tactic| omega)=>`(tactic| first|lia|omega (config:={}))
section
namespace Mine
theorem gV {b:Bool} (h:(!b)=true):b=false:=by
 cases b with
 | false=>rfl
 | true=>exact nk6 h
theorem eK {n m:Nat} (h:Nat.blt n m=true):n < m:=Nat.le_of_ble_eq_true h
theorem pW {x y:List Nat}:gF x y=true ↔ x=y:=PySem.W.Fast.lEq_iff
theorem hO {a b:Str}:seq a b=true ↔ a=b:=pW.trans ⟨fun h=>by
 cases a;cases b;exact congrArg Str.mk (Array.toList_inj.mp h),fun h=>h ▸ rfl⟩
theorem n9 (a:Str):seq a a=true:=hO.mpr rfl
theorem Ds {a b:Str} (h:seq a b=false):a ≠ b:=fun e=>nk5 ((n9 b).symm.trans (e ▸ h))
theorem B7 {a b:Str} (h:a ≠ b):seq a b=false:=Bool.eq_false_iff.mpr fun e=>h (hO.mp e)
theorem mH {α:Type}{x:Str}{p:Str × α}{r:List (Str × α)} (h:x=p.1):lk x (p::r)=some p.2:=by
 show @Bool.rec (fun _=>Option α) (lk x r) (some p.2) (seq x p.1)=_
 rw[h,n9]
theorem iO {α:Type}{x:Str}{p:Str × α}{r:List (Str × α)} (h:x ≠ p.1):lk x (p::r)=lk x r:=by
 show @Bool.rec (fun _=>Option α) (lk x r) (some p.2) (seq x p.1)=_
 rw[B7 h]
theorem zO {α:Type}{x:Str}{p:Str × α}{r:List (Str × α)}{y:Option α}{P:Prop} (e:lk x (p::r)=y) (h1:x=p.1→some p.2=y→P) (h2:x ≠ p.1→lk x r=y→P):P :=
 (Classical.em (x=p.1)).elim (fun h=>h1 h ((mH h).symm.trans e)) fun h=>h2 h ((iO h).symm.trans e)
theorem fO {α:Type} (x:Str) (l:List (Str × α)):lk x l=l.lookup x:=by
 induction l with
 | nil=>rfl
 | cons p r ih =>
  rw[List.lookup_cons]
  by_cases h:x=p.1
  ·rw[mH h,beq_iff_eq.mpr h]
  ·rw[iO h,beq_eq_false_iff_ne.mpr h];exact ih
theorem BO {α:Type}{x:Str}{v:α}{p:Str × α}{r:List (Str × α)} (h:x=p.1):put x v (p::r)=(x,v)::r:=by
 show @Bool.rec (fun _=>List (Str × α)) (p::put x v r) ((x,v)::r) (seq x p.1)=_
 rw[h,n9]
theorem A3 {α:Type}{x:Str}{v:α}{p:Str × α}{r:List (Str × α)} (h:x ≠ p.1):put x v (p::r)=p::put x v r:=by
 show @Bool.rec (fun _=>List (Str × α)) (p::put x v r) ((x,v)::r) (seq x p.1)=_
 rw[B7 h]
theorem rS {α:Type}{x y:Str}{v:α} (e:y=x) (l:List (Str × α)):lk y (put x v l)=some v:=by
 induction l with
 | nil=>exact mH e
 | cons p r ih =>
  by_cases h:x=p.1
  ·rw[BO h];exact mH e
  ·rw[A3 h,iO fun z=>h (e.symm.trans z)];exact ih
theorem rN {α:Type}{x y:Str}{v:α} (e:y ≠ x) (l:List (Str × α)):lk y (put x v l)=lk y l:=by
 induction l with
 | nil=>exact iO e
 | cons p r ih =>
  by_cases h:x=p.1
  ·rw[BO h,iO e,iO fun z=>e (z.trans h.symm)]
  ·rw[A3 h]
   by_cases z:y=p.1
   ·rw[mH z,mH z]
   ·rw[iO z,iO z];exact ih
theorem AB {α:Type}{x y:Str}{v:α}{l:List (Str × α)}{u:Option α}{P:Prop} (e:lk y (put x v l)=u) (h1:y=x→some v=u→P) (h2:y ≠ x→lk y l=u→P):P :=
 (Classical.em (y=x)).elim (fun h=>h1 h ((rS h l).symm.trans e)) fun h=>h2 h ((rN h l).symm.trans e)
theorem nD {α:Type} (l:List α):∀ n,nth l n=l[n]?:=by
 induction l with
 | nil=>exact fun _=>rfl
 | cons x r ih=>intro n;cases n with
  | zero=>rfl
  | succ n=>exact ih n
theorem oE {α:Type} (l:List α) (v:α):∀ n,e9 l n v=l.set n v:=by
 induction l with
 | nil=>intro n;rfl
 | cons x r ih=>intro n;cases n with
  | zero=>rfl
  | succ n=>exact congrArg (x::·) (ih n)
theorem kZ {α:Type} (l:List α) (n:Nat) (v:α):(e9 l n v).length=l.length:=by rw[oE,List.length_set]
theorem dW {α:Type}{l:List α}{n m:Nat}{v:α}{x:Option α}{P:Prop} (e:(e9 l n v)[m]? = x) (h1:n=m→n < l.length→some v=x→P) (h2:n ≠ m→l[m]? = x→P) (h3:l[m]? = none→P):P:=by
 rw[oE]at e
 by_cases h:n=m
 ·by_cases q:n < l.length
  ·exact h1 h q ((List.getElem?_set_self q).symm.trans (by rw[h]at e ⊢;exact e))
  ·exact h3 (List.getElem?_eq_none (Nat.le_of_not_lt (h ▸ q)))
 ·exact h2 h ((List.getElem?_set_ne h).symm.trans e)
theorem rJ {a:Str}{l:List Str}:BY a l=true ↔ a ∈ l:=by
 induction l with
 | nil=>exact⟨nk6,fun h=>absurd h List.not_mem_nil⟩
 | cons b r ih =>
  show @Bool.rec (fun _=>Bool) (BY a r) true (seq a b)=true ↔ _
  by_cases h:a=b
  ·rw[h,n9];exact⟨fun _=>List.mem_cons_self,fun _=>rfl⟩
  ·rw[B7 h];exact⟨fun e=>List.mem_cons_of_mem _ (ih.mp e),fun e=>ih.mpr ((List.mem_cons.mp e).resolve_left h)⟩
theorem uB {a:Nat}{l:List Nat} (e:d5 a l=true):a ∈ l:=by
 induction l with
 | nil=>exact nk6 e
 | cons b r ih =>
  replace e : @Bool.rec (fun _=>Bool) (d5 a r) true (Nat.beq a b)=true:=e
  cases h:Nat.beq a b with
  | true=>rw[Nat.eq_of_beq_eq_true h];exact List.mem_cons_self
  | false=>rw[h]at e;exact List.mem_cons_of_mem _ (ih e)
theorem eA {α:Type}{l:List α}{x:α} (h:one l=some x):l=[x]:=by
 cases l with
 | nil=>exact nk3 h
 | cons a r=>cases r with
  | nil=>exact congrArg (fun y=>[y]) (Option.some.inj h)
  | cons=>exact nk3 h
theorem kB {α:Type}{l:List α}{x:α × α} (h:mM l=some x):l=[x.1,x.2]:=by
 cases l with
 | nil=>exact nk3 h
 | cons a r=>exact ob h fun y h1 h2=>by rw[eA h1,← Option.some.inj h2]
theorem bN {α:Type}{l:List α} (h:bV l=true):l=[]:=by
 cases l with
 | nil=>rfl
 | cons=>exact nk6 h
theorem mT {w:PV}{x:FV} (h:cQ w=some x):w=.f x:=by
 cases w with
 | f y=>exact congrArg PV.f (Option.some.inj h)
 | ref=>exact nk3 h
 | loc=>exact nk3 h
theorem pK {w:PV}{k:Nat} (h:sM w=some k):w=.ref k:=by
 cases w with
 | ref y=>exact congrArg PV.ref (Option.some.inj h)
 | f=>exact nk3 h
 | loc=>exact nk3 h
theorem uQ {w:PV}{k:Nat} (h:nY w=some k):w=.loc k:=by
 cases w with
 | loc y=>exact congrArg PV.loc (Option.some.inj h)
 | f=>exact nk3 h
 | ref=>exact nk3 h
theorem lY {x:FV}{i:Int} (h:dO x=some i):x=.int i:=by
 cases x with
 | int y=>exact congrArg FV.int (Option.some.inj h)
 | _=>exact nk3 h
theorem l9 {x:FV}{i:List Nat} (h:dF x=some i):x=.str i:=by
 cases x with
 | str y=>exact congrArg FV.str (Option.some.inj h)
 | _=>exact nk3 h
theorem D7 {x:FV}{i:List FV} (h:jW x=some i):x=.lst i:=by
 cases x with
 | lst y=>exact congrArg FV.lst (Option.some.inj h)
 | _=>exact nk3 h
theorem Bu {x:FV}{i:List FV} (h:i9 x=some i):x=.tup i:=by
 cases x with
 | tup y=>exact congrArg FV.tup (Option.some.inj h)
 | _=>exact nk3 h
theorem uX {x:FV}{i:List (FV × FV)} (h:qJ x=some i):x=.dct i:=by
 cases x with
 | dct y=>exact congrArg FV.dct (Option.some.inj h)
 | _=>exact nk3 h
theorem CO {x:FV}{i:Nat × List (Str × FV)} (h:Gz x=some i):x=.obj i.1 i.2:=by
 cases x with
 | obj C fs=>rw[← Option.some.inj h]
 | _=>exact nk3 h
theorem vF {x:FV}{i:Nat} (h:BQ x=some i):x=.top i:=by
 cases x with
 | top y=>exact congrArg FV.top (Option.some.inj h)
 | _=>exact nk3 h
theorem pS {x:FV}{i:Ty} (h:vZ x=some i):x=.typ i:=by
 cases x with
 | typ y=>exact congrArg FV.typ (Option.some.inj h)
 | _=>exact nk3 h
theorem BW {x:FV}{i:Bool} (h:pH x=some i):x=.bool i:=by
 cases x with
 | bool y=>exact congrArg FV.bool (Option.some.inj h)
 | _=>exact nk3 h
theorem fR {α:Type}{f:FV→Option α}{w:PV}{x:α}{P:Prop} (h:(cQ w).bind f=some x) (k:∀ y,w=.f y→f y=some x→P):P:=ob h fun y h1 h2=>k y (mT h1) h2
theorem IU {w:PV}{x:List Nat} (h:oK w=some x):w=.f (.str x):=fR h fun y h1 h2=>by rw[h1,l9 h2]
theorem Hu {w:PV}{x:Int} (h:mX w=some x):w=.f (.int x):=fR h fun y h1 h2=>by rw[h1,lY h2]
theorem oH {m:MO}{x:Nat × List (Str × PV)} (h:pG m=some x):m=.inst x.1 x.2:=by
 cases m with
 | inst=>rw[← Option.some.inj h]
 | lst=>exact nk3 h
 | dead=>exact nk3 h
theorem FE {m:MO}{x:List FV} (h:Lq m=some x):m=.lst x:=by
 cases m with
 | lst=>rw[← Option.some.inj h]
 | inst=>exact nk3 h
 | dead=>exact nk3 h
theorem nZ {g:List MO}{k:Nat}{x:Nat × List (Str × PV)} (h:jK g k=some x):g[k]? = some (.inst x.1 x.2):=ob h fun m h1 h2=>by rw[← nD,h1,oH h2]
theorem fQ {g:List MO}{k:Nat}{x:List FV} (h:f8 g k=some x):g[k]? = some (.lst x):=ob h fun m h1 h2=>by rw[← nD,h1,FE h2]
abbrev PM:=Addr→Option Obj
noncomputable def PM.le (B B':PM):Prop:=∀ a o,B a=some o→B' a=some o
theorem PM.le.refl (B:PM):B.le B:=fun _ _ h=>h
theorem PM.le.trans {B B' B'':PM} (h:B.le B') (h':B'.le B''):B.le B'':=fun a o e=>h' a o (h a o e)
noncomputable def n6 (w:World) (e:DictEntry) (k:FV):Prop:=match k with
 | .int i=>∃ t,e.key=.int i t∧e.hash=hashInt i
 | .str s=>∃ t,e.key=.str ⟨s.toArray⟩ t∧e.hash=hashStr w ⟨s.toArray⟩
 | _=>False
noncomputable def aO (w:World) (B:PM) (v:Value) (x:FV):Prop:=@FV.rec (fun _=>Value→Prop) (fun _=>List Value→Prop) (fun _=>List DictEntry→Prop) (fun _=>List DictEntry→Prop) (fun _=>DictEntry→Prop) (fun _=>DictEntry→Prop)
 (fun v=>v=.none) (fun b v=>v=.bool b) (fun i v=>∃ t,v=.int i t) (fun s v=>∃ t,v=.str ⟨s.toArray⟩ t)
 (fun _ k v=>∃ a n us,v=.ref a∧B a=some ⟨.type "tuple",none,.seq us.toArray n,#[]⟩∧k us) (fun _ k v=>∃ a n us,v=.ref a∧B a=some (PySem.W.listOf us.toArray n)∧k us)
 (fun C _ k v=>∃ a d n es,v=.ref a∧B a=some (instObj C d)∧B d=some (dictOf es n)∧k es) (fun _ k v=>∃ a n es,v=.ref a∧(a == sysModules)=false∧B a=some (dictOf es n)∧k es)
 (fun a v=>v=.ref a) (fun n v=>v=.type n.id) (fun n v=>v=.builtin n.id) (fun us=>us=[]) (fun _ _ p q us=>∃ v r,us=v::r∧p v∧q r)
 (fun es=>es=[]) (fun _ _ p q es=>∃ e r,es=e::r∧p e∧q r) (fun es=>es=[]) (fun _ _ p q es=>∃ e r,es=e::r∧p e∧q r) (fun n _ p e=>(∃ t,e.key=.str n t)∧p e.val) (fun k _ _ p e=>n6 w e k∧p e.val) x v
noncomputable def aQ (w:World) (B:PM) (us:List Value) (x:List FV):Prop:=@FV.rec_1 (fun _=>Value→Prop) (fun _=>List Value→Prop) (fun _=>List DictEntry→Prop) (fun _=>List DictEntry→Prop) (fun _=>DictEntry→Prop) (fun _=>DictEntry→Prop)
 (fun v=>v=.none) (fun b v=>v=.bool b) (fun i v=>∃ t,v=.int i t) (fun s v=>∃ t,v=.str ⟨s.toArray⟩ t)
 (fun _ k v=>∃ a n us,v=.ref a∧B a=some ⟨.type "tuple",none,.seq us.toArray n,#[]⟩∧k us) (fun _ k v=>∃ a n us,v=.ref a∧B a=some (PySem.W.listOf us.toArray n)∧k us)
 (fun C _ k v=>∃ a d n es,v=.ref a∧B a=some (instObj C d)∧B d=some (dictOf es n)∧k es) (fun _ k v=>∃ a n es,v=.ref a∧(a == sysModules)=false∧B a=some (dictOf es n)∧k es)
 (fun a v=>v=.ref a) (fun n v=>v=.type n.id) (fun n v=>v=.builtin n.id) (fun us=>us=[]) (fun _ _ p q us=>∃ v r,us=v::r∧p v∧q r)
 (fun es=>es=[]) (fun _ _ p q es=>∃ e r,es=e::r∧p e∧q r) (fun es=>es=[]) (fun _ _ p q es=>∃ e r,es=e::r∧p e∧q r) (fun n _ p e=>(∃ t,e.key=.str n t)∧p e.val) (fun k _ _ p e=>n6 w e k∧p e.val) x us
noncomputable def iM (w:World) (B:PM) (es:List DictEntry) (x:List (Str × FV)):Prop:=@FV.rec_2 (fun _=>Value→Prop) (fun _=>List Value→Prop) (fun _=>List DictEntry→Prop) (fun _=>List DictEntry→Prop) (fun _=>DictEntry→Prop) (fun _=>DictEntry→Prop)
 (fun v=>v=.none) (fun b v=>v=.bool b) (fun i v=>∃ t,v=.int i t) (fun s v=>∃ t,v=.str ⟨s.toArray⟩ t)
 (fun _ k v=>∃ a n us,v=.ref a∧B a=some ⟨.type "tuple",none,.seq us.toArray n,#[]⟩∧k us) (fun _ k v=>∃ a n us,v=.ref a∧B a=some (PySem.W.listOf us.toArray n)∧k us)
 (fun C _ k v=>∃ a d n es,v=.ref a∧B a=some (instObj C d)∧B d=some (dictOf es n)∧k es) (fun _ k v=>∃ a n es,v=.ref a∧(a == sysModules)=false∧B a=some (dictOf es n)∧k es)
 (fun a v=>v=.ref a) (fun n v=>v=.type n.id) (fun n v=>v=.builtin n.id) (fun us=>us=[]) (fun _ _ p q us=>∃ v r,us=v::r∧p v∧q r)
 (fun es=>es=[]) (fun _ _ p q es=>∃ e r,es=e::r∧p e∧q r) (fun es=>es=[]) (fun _ _ p q es=>∃ e r,es=e::r∧p e∧q r) (fun n _ p e=>(∃ t,e.key=.str n t)∧p e.val) (fun k _ _ p e=>n6 w e k∧p e.val) x es
noncomputable def nH (w:World) (B:PM) (es:List DictEntry) (x:List (FV × FV)):Prop:=@FV.rec_3 (fun _=>Value→Prop) (fun _=>List Value→Prop) (fun _=>List DictEntry→Prop) (fun _=>List DictEntry→Prop) (fun _=>DictEntry→Prop) (fun _=>DictEntry→Prop)
 (fun v=>v=.none) (fun b v=>v=.bool b) (fun i v=>∃ t,v=.int i t) (fun s v=>∃ t,v=.str ⟨s.toArray⟩ t)
 (fun _ k v=>∃ a n us,v=.ref a∧B a=some ⟨.type "tuple",none,.seq us.toArray n,#[]⟩∧k us) (fun _ k v=>∃ a n us,v=.ref a∧B a=some (PySem.W.listOf us.toArray n)∧k us)
 (fun C _ k v=>∃ a d n es,v=.ref a∧B a=some (instObj C d)∧B d=some (dictOf es n)∧k es) (fun _ k v=>∃ a n es,v=.ref a∧(a == sysModules)=false∧B a=some (dictOf es n)∧k es)
 (fun a v=>v=.ref a) (fun n v=>v=.type n.id) (fun n v=>v=.builtin n.id) (fun us=>us=[]) (fun _ _ p q us=>∃ v r,us=v::r∧p v∧q r)
 (fun es=>es=[]) (fun _ _ p q es=>∃ e r,es=e::r∧p e∧q r) (fun es=>es=[]) (fun _ _ p q es=>∃ e r,es=e::r∧p e∧q r) (fun n _ p e=>(∃ t,e.key=.str n t)∧p e.val) (fun k _ _ p e=>n6 w e k∧p e.val) x es
section
variable {w:World}{B B':PM}{v:Value}
theorem aO.noneI (h:aO w B v .none):v=.none:=h
theorem aO.boolI {b:Bool} (h:aO w B v (.bool b)):v=.bool b:=h
theorem aO.intsI {i:Int} (h:aO w B v (.int i)):∃ t,v=.int i t:=h
theorem aO.strI {s:List Nat} (h:aO w B v (.str s)):∃ t,v=.str ⟨s.toArray⟩ t:=h
theorem aO.tupI {x:List FV} (h:aO w B v (.tup x)):∃ a n us,v=.ref a∧B a=some ⟨.type "tuple",none,.seq us.toArray n,#[]⟩∧aQ w B us x:=h
theorem aO.lstI {x:List FV} (h:aO w B v (.lst x)):∃ a n us,v=.ref a∧B a=some (PySem.W.listOf us.toArray n)∧aQ w B us x:=h
theorem aO.objI {C:Nat}{x:List (Str × FV)} (h:aO w B v (.obj C x)):∃ a d n es,v=.ref a∧B a=some (instObj C d)∧B d=some (dictOf es n)∧iM w B es x:=h
theorem aO.dctI {x:List (FV × FV)} (h:aO w B v (.dct x)):∃ a n es,v=.ref a∧(a == sysModules)=false∧B a=some (dictOf es n)∧nH w B es x:=h
theorem aO.int (i:Int) (t:Tok):aO w B (.int i t) (.int i):=⟨t,rfl⟩
theorem aO.str (s:List Nat) (t:Tok):aO w B (.str ⟨s.toArray⟩ t) (.str s):=⟨t,rfl⟩
theorem aO.strS (s:Str) (t:Tok):aO w B (.str s t) (.str s.cps.toList):=⟨t,rfl⟩
theorem aO.tup {a:Addr}{n:Nat}{us:List Value}{xs:List FV} (h:B a=some ⟨.type "tuple",none,.seq us.toArray n,#[]⟩) (r:aQ w B us xs):aO w B (.ref a) (.tup xs):=⟨a,n,us,rfl,h,r⟩
theorem aO.lst {a:Addr}{n:Nat}{us:List Value}{xs:List FV} (h:B a=some (PySem.W.listOf us.toArray n)) (r:aQ w B us xs):aO w B (.ref a) (.lst xs):=⟨a,n,us,rfl,h,r⟩
theorem aO.obj {a d C n:Nat}{es:List DictEntry}{fs:List (Str × FV)} (h:B a=some (instObj C d)) (h':B d=some (dictOf es n)) (r:iM w B es fs):aO w B (.ref a) (.obj C fs):=⟨a,d,n,es,rfl,h,h',r⟩
theorem aO.dct {a n:Nat}{es:List DictEntry}{fs:List (FV × FV)} (hm:(a == sysModules)=false) (h:B a=some (dictOf es n)) (r:nH w B es fs):aO w B (.ref a) (.dct fs):=⟨a,n,es,rfl,hm,h,r⟩
theorem aQ.nil:aQ w B [] []:=rfl
theorem aQ.cons {x:FV}{us:List Value}{xs:List FV} (h:aO w B v x) (r:aQ w B us xs):aQ w B (v::us) (x::xs):=⟨_,_,rfl,h,r⟩
theorem aQ.n {us:List Value} (h:aQ w B us []):us=[]:=h
theorem aQ.c {us:List Value}{x:FV}{xs:List FV} (h:aQ w B us (x::xs)):∃ v r,us=v::r∧aO w B v x∧aQ w B r xs:=h
@[elab_as_elim] theorem aO.iE {P:Value→Prop}{x:FV}{i:Int} (p:aO w B v x) (h:dO x=some i) (k:∀ t,P (.int i t)):P v:=by obtain⟨t,rfl⟩:=(lY h ▸ p).intsI;exact k t
@[elab_as_elim] theorem aO.sE {P:Value→Prop}{x:FV}{i:List Nat} (p:aO w B v x) (h:dF x=some i) (k:∀ t,P (.str ⟨i.toArray⟩ t)):P v:=by obtain⟨t,rfl⟩:=(l9 h ▸ p).strI;exact k t
@[elab_as_elim] theorem aO.lE {P:Value→Prop}{x:FV}{i:List FV} (p:aO w B v x) (h:jW x=some i) (k:∀ a n us,B a=some (PySem.W.listOf us.toArray n)→aQ w B us i→P (.ref a)):P v:=by obtain⟨a,n,us,rfl,h1,h2⟩:=(D7 h ▸ p).lstI;exact k a n us h1 h2
@[elab_as_elim] theorem aO.tE {P:Value→Prop}{x:FV}{i:List FV} (p:aO w B v x) (h:i9 x=some i) (k:∀ a n us,B a=some ⟨.type "tuple",none,.seq us.toArray n,#[]⟩→aQ w B us i→P (.ref a)):P v:=by obtain⟨a,n,us,rfl,h1,h2⟩:=(Bu h ▸ p).tupI;exact k a n us h1 h2
@[elab_as_elim] theorem aO.bE {P:Value→Prop}{x:FV}{i:Bool} (p:aO w B v x) (h:pH x=some i) (k:P (.bool i)):P v:=by obtain rfl:=(BW h ▸ p).boolI;exact k
theorem aO.mono (l:B.le B') {x:FV}:aO w B v x→aO w B' v x :=
 @FV.rec (fun x=>∀ v,aO w B v x→aO w B' v x) (fun x=>∀ v,aQ w B v x→aQ w B' v x) (fun x=>∀ v,iM w B v x→iM w B' v x) (fun x=>∀ v,nH w B v x→nH w B' v x) (fun p=>∀ v,aO w B v p.2→aO w B' v p.2) (fun p=>∀ v,aO w B v p.2→aO w B' v p.2)
  (fun _ h=>h) (fun _ _ h=>h) (fun _ _ h=>h) (fun _ _ h=>h)
  (fun _ ih _ h=>h.imp fun a h=>h.imp fun n h=>h.imp fun us h=>⟨h.1,l _ _ h.2.1,ih us h.2.2⟩) (fun _ ih _ h=>h.imp fun a h=>h.imp fun n h=>h.imp fun us h=>⟨h.1,l _ _ h.2.1,ih us h.2.2⟩)
  (fun _ _ ih _ h=>h.imp fun a h=>h.imp fun d h=>h.imp fun n h=>h.imp fun es h=>⟨h.1,l _ _ h.2.1,l _ _ h.2.2.1,ih es h.2.2.2⟩)
  (fun _ ih _ h=>h.imp fun a h=>h.imp fun n h=>h.imp fun es h=>⟨h.1,h.2.1,l _ _ h.2.2.1,ih es h.2.2.2⟩)
  (fun _ _ h=>h) (fun _ _ h=>h) (fun _ _ h=>h) (fun _ h=>h) (fun _ _ p q _ h=>h.imp fun v h=>h.imp fun r h=>⟨h.1,p v h.2.1,q r h.2.2⟩)
  (fun _ h=>h) (fun _ _ p q _ h=>h.imp fun e h=>h.imp fun r h=>⟨h.1,⟨h.2.1.1,p _ h.2.1.2⟩,q r h.2.2⟩)
  (fun _ h=>h) (fun _ _ p q _ h=>h.imp fun e h=>h.imp fun r h=>⟨h.1,⟨h.2.1.1,p _ h.2.1.2⟩,q r h.2.2⟩) (fun _ _ p=>p) (fun _ _ _ p=>p) x v
theorem aQ.mono (l:B.le B') {xs:List FV}:∀ {us:List Value},aQ w B us xs→aQ w B' us xs:=by
 induction xs with
 | nil=>exact fun h=>h
 | cons x r ih=>exact fun h=>h.c.imp fun v h=>h.imp fun r h=>⟨h.1,h.2.1.mono l,ih h.2.2⟩
theorem aQ.length {xs:List FV}:∀ {us:List Value},aQ w B us xs→us.length=xs.length:=by
 induction xs with
 | nil=>exact fun h=>congrArg List.length h
 | cons x r ih=>intro us h;obtain⟨v,q,rfl,_,h⟩:=h.c;exact congrArg (· + 1) (ih h)
theorem aQ.get {xs:List FV}:∀ {us:List Value},aQ w B us xs→∀ {n:Nat}{x:FV},xs[n]? = some x→∃ v,us[n]? = some v∧aO w B v x:=by
 induction xs with
 | nil=>exact fun _ _ _ e=>nk3 e
 | cons y r ih =>
  intro us h n x e
  obtain⟨v,q,rfl,p,h⟩:=h.c
  cases n with
  | zero=>exact⟨v,rfl,Option.some.inj e ▸ p⟩
  | succ n=>exact ih h e
theorem aQ.append {ys:List FV}{vs:List Value} (q:aQ w B vs ys) {xs:List FV}:∀ {us:List Value},aQ w B us xs→aQ w B (us++vs) (xs++ys):=by
 induction xs with
 | nil=>intro us h;obtain rfl:=h.n;exact q
 | cons x r ih=>intro us h;obtain⟨v,u,rfl,p,h⟩:=h.c;exact .cons p (ih h)
theorem aQ.set {x:FV} (p:aO w B v x) {xs:List FV}:∀ {us:List Value},aQ w B us xs→∀ n,aQ w B (us.set n v) (xs.set n x):=by
 induction xs with
 | nil=>intro us h n;obtain rfl:=h.n;exact .nil
 | cons y r ih =>
  intro us h n;obtain⟨u,q,rfl,p',h⟩:=h.c
  cases n with
  | zero=>exact .cons p h
  | succ n=>exact .cons p' (ih h n)
theorem aQ.take {xs:List FV}:∀ {us:List Value},aQ w B us xs→∀ n,aQ w B (us.take n) (xs.take n):=by
 induction xs with
 | nil=>intro us h n;obtain rfl:=h.n;rw[List.take_nil,List.take_nil];exact .nil
 | cons y r ih =>
  intro us h n;obtain⟨u,q,rfl,p',h⟩:=h.c
  cases n with
  | zero=>exact .nil
  | succ n=>exact .cons p' (ih h n)
theorem aQ.drop {xs:List FV}:∀ {us:List Value},aQ w B us xs→∀ n,aQ w B (us.drop n) (xs.drop n):=by
 induction xs with
 | nil=>intro us h n;obtain rfl:=h.n;rw[List.drop_nil,List.drop_nil];exact .nil
 | cons y r ih =>
  intro us h n;obtain⟨u,q,rfl,p',h'⟩:=h.c
  cases n with
  | zero=>exact h
  | succ n=>exact ih h' n
theorem aQ.reverse {xs:List FV}:∀ {us:List Value},aQ w B us xs→aQ w B us.reverse xs.reverse:=by
 induction xs with
 | nil=>intro us h;obtain rfl:=h.n;exact .nil
 | cons x r ih=>intro us h;obtain⟨v,u,rfl,p,h⟩:=h.c;rw[List.reverse_cons,List.reverse_cons];exact aQ.append (.cons p .nil) (ih h)
end
inductive Slot where
 | o (a d:Addr) | l (a:Addr)
inductive bZ where
 | v | c (x:Str) | g (k:Nat) | d (k:Nat) | l (k:Nat)
noncomputable def Slot.addr (s:Slot):Addr:=@Slot.rec (fun _=>Addr) (fun a _=>a) (fun a=>a) s
structure Cf where
 B:PM
 ow:Addr→Option bZ
 S:List Slot
 L:List Addr
 ro:Bool
 fs:List Addr
structure Cf.le (c c':Cf):Prop where
 b:c.B.le c'.B
 s:c.S <+: c'.S
 l:c.L <+: c'.L
 ro:c.ro=c'.ro
 fs:c.fs=c'.fs
theorem Cf.le.refl (c:Cf):c.le c:=⟨.refl _,List.prefix_refl _,List.prefix_refl _,rfl,rfl⟩
theorem Cf.le.trans {c c' c'':Cf} (h:c.le c') (h':c'.le c''):c.le c'':=⟨h.b.trans h'.b,h.s.trans h'.s,h.l.trans h'.l,h.ro.trans h'.ro,h.fs.trans h'.fs⟩
theorem kD {α:Type}{l l':List α} (h:l <+: l') {n:Nat}{x:α} (e:l[n]? = some x):l'[n]? = some x:=by
 obtain⟨t,rfl⟩:=h
 rw[List.getElem?_append_left (List.getElem?_eq_some_iff.mp e).1];exact e
noncomputable def aH (w:World) (c:Cf) (v:Value) (x:PV):Prop:=@PV.rec (fun _=>Prop) (aO w c.B v) (fun k=>∃ s:Slot,v=.ref s.addr∧c.S[k]? = some s) (fun k=>∃ a,v=.ref a∧c.L[k]? = some a) x
noncomputable def aX (w:World) (c:Cf) (vs:List Value) (ws:List PV):Prop:=@List.rec PV (fun _=>List Value→Prop) (fun vs=>vs=[]) (fun x _ ih vs=>∃ v r,vs=v::r∧aH w c v x∧ih r) ws vs
noncomputable def fJ {α:Type} (R:Value→α→Prop) (es:List DictEntry) (fs:List (Str × α)):Prop:=@List.rec (Str × α) (fun _=>List DictEntry→Prop) (fun es=>es=[]) (fun x _ ih es=>∃ e r,es=e::r∧((∃ t,e.key=.str x.1 t)∧R e.val x.2)∧ih r) fs es
theorem fJ.cI {α:Type}{R:Value→α→Prop}{es:List DictEntry}{x:Str × α}{fs:List (Str × α)} (h:fJ R es (x::fs)):∃ e r,es=e::r∧((∃ t,e.key=.str x.1 t)∧R e.val x.2)∧fJ R r fs:=h
abbrev iA (w:World) (c:Cf) (es:List DictEntry) (fs:List (Str × PV)):Prop:=fJ (aH w c) es fs
section
variable {w:World}{c c':Cf}{v:Value}
theorem aH.f {x:FV} (h:aO w c.B v x):aH w c v (.f x):=h
theorem aH.fI {x:FV} (h:aH w c v (.f x)):aO w c.B v x:=h
theorem aH.refI {k:Nat} (h:aH w c v (.ref k)):∃ s:Slot,v=.ref s.addr∧c.S[k]? = some s:=h
theorem aH.locI {k:Nat} (h:aH w c v (.loc k)):∃ a,v=.ref a∧c.L[k]? = some a:=h
theorem aH.ref {k:Nat}{sl:Slot} (h:c.S[k]? = some sl):aH w c (.ref sl.addr) (.ref k):=⟨sl,rfl,h⟩
theorem aH.loc {k:Nat}{a:Addr} (h:c.L[k]? = some a):aH w c (.ref a) (.loc k):=⟨a,rfl,h⟩
theorem aH.none:aH w c .none (.f .none):=rfl
theorem aH.bool (b:Bool):aH w c (.bool b) (.f (.bool b)):=rfl
theorem aH.int (i:Int) (t:Tok):aH w c (.int i t) (.f (.int i)):=⟨t,rfl⟩
theorem aH.str (s:List Nat) (t:Tok):aH w c (.str ⟨s.toArray⟩ t) (.f (.str s)):=⟨t,rfl⟩
theorem aH.strS (s:Str) (t:Tok):aH w c (.str s t) (.f (.str s.cps.toList)):=⟨t,rfl⟩
theorem aH.mono (l:c.le c') {x:PV} (h:aH w c v x):aH w c' v x:=by
 cases x with
 | f x=>exact h.fI.mono l.b
 | ref k=>exact h.refI.imp fun s q=>⟨q.1,kD l.s q.2⟩
 | loc k=>exact h.locI.imp fun s q=>⟨q.1,kD l.l q.2⟩
theorem aX.nil:aX w c [] []:=rfl
theorem aX.cons {x:PV}{vs:List Value}{ws:List PV} (h:aH w c v x) (r:aX w c vs ws):aX w c (v::vs) (x::ws):=⟨_,_,rfl,h,r⟩
theorem aX.c0 {vs:List Value} (p:aX w c vs []):vs=[]:=p
theorem aX.cI {vs:List Value}{x:PV}{xs:List PV} (p:aX w c vs (x::xs)):∃ v us,vs=v::us∧aH w c v x∧aX w c us xs:=p
theorem aX.c1 {vs:List Value}{x:PV} (p:aX w c vs [x]):∃ v,vs=[v]∧aH w c v x:=p.cI.elim fun v h=>h.elim fun us h=>⟨v,h.1.trans (congrArg _ h.2.2.c0),h.2.1⟩
theorem aX.c2 {vs:List Value}{x y:PV} (p:aX w c vs [x,y]):∃ v u,vs=[v,u]∧aH w c v x∧aH w c u y:=p.cI.elim fun v h=>h.elim fun us h=>h.2.2.c1.elim fun u q=>⟨v,u,h.1.trans (congrArg _ q.1),h.2.1,q.2⟩
@[elab_as_elim] theorem aH.iE {P:Value→Prop}{x:PV}{i:Int} (p:aH w c v x) (h:mX x=some i) (k:∀ t,P (.int i t)):P v:=by obtain⟨t,rfl⟩:=(Hu h ▸ p).fI.intsI;exact k t
@[elab_as_elim] theorem aH.sE {P:Value→Prop}{x:PV}{i:List Nat} (p:aH w c v x) (h:oK x=some i) (k:∀ t,P (.str ⟨i.toArray⟩ t)):P v:=by obtain⟨t,rfl⟩:=(IU h ▸ p).fI.strI;exact k t
theorem aH.fE {x:PV}{y:FV} (p:aH w c v x) (h:cQ x=some y):aO w c.B v y:=(mT h ▸ p).fI
@[elab_as_elim] theorem aX.oneE {P:List Value→Prop}{vs:List Value}{ws:List PV}{u:PV} (p:aX w c vs ws) (h:one ws=some u) (k:∀ v,aH w c v u→P [v]):P vs:=by obtain⟨v,rfl,q⟩:=(eA h ▸ p).c1;exact k v q
@[elab_as_elim] theorem aX.twoE {P:List Value→Prop}{vs:List Value}{ws:List PV}{u:PV × PV} (p:aX w c vs ws) (h:mM ws=some u) (k:∀ v v',aH w c v u.1→aH w c v' u.2→P [v,v']):P vs:=by obtain⟨v,v',rfl,q,q'⟩:=(kB h ▸ p).c2;exact k v v' q q'
theorem aX.mono (l:c.le c') {ws:List PV}:∀ {vs:List Value},aX w c vs ws→aX w c' vs ws:=by
 induction ws with
 | nil=>exact fun h=>h
 | cons x r ih=>exact fun h=>h.cI.imp fun v h=>h.imp fun r h=>⟨h.1,h.2.1.mono l,ih h.2.2⟩
theorem aX.length {ws:List PV}:∀ {vs:List Value},aX w c vs ws→vs.length=ws.length:=by
 induction ws with
 | nil=>exact fun h=>congrArg List.length h
 | cons x r ih=>intro us h;obtain⟨v,q,rfl,_,h⟩:=h.cI;exact congrArg (· + 1) (ih h)
theorem iA.nil:iA w c [] []:=rfl
theorem iA.map {fs:List (Str × PV)} (f:∀ x u,x ∈ fs→aH w c u x.2→aH w c' u x.2):∀ {es:List DictEntry},iA w c es fs→iA w c' es fs:=by
 induction fs with
 | nil=>exact fun h=>h
 | cons x r ih=>exact fun h=>(fJ.cI h).imp fun e h=>h.imp fun r h=>⟨h.1,⟨h.2.1.1,f _ _ List.mem_cons_self h.2.1.2⟩,ih (fun x u m=>f x u (List.mem_cons_of_mem _ m)) h.2.2⟩
theorem iA.mono (l:c.le c') {es:List DictEntry}{fs:List (Str × PV)} (h:iA w c es fs):iA w c' es fs:=iA.map (fun _ _ _ p=>p.mono l) h
end
noncomputable def jI (w:World) (c:Cf) (cc:List (Str × PV)) (x:Str) (o:Obj):Prop:=∃ v₀,o.data=.cell v₀∧∀ u,lk x cc=some u→∃ v,v₀=some v∧aH w c v u
noncomputable def jD (w:World) (c:Cf) (sl:Slot) (o:Obj) (m:MO):Prop:=@MO.rec (fun _=>Prop) (fun C _=>∃ a d,sl=.o a d∧o=instObj C d) (fun xs=>∃ a vs n,sl=.l a∧o=PySem.W.listOf vs.toArray n∧aQ w c.B vs xs) True m
noncomputable def Own (w:World) (env:Env) (c:Cf) (st:St) (a:Addr) (o:Obj) (t:bZ):Prop:=@bZ.rec (fun _=>Prop)
 (a=env.locals∧∃ es ep,o.data=.dict es ep∧StrKeys es∧∀ x u,lk x st.v=some u→∃ v,nsFind es x=some v∧aH w c v u)
 (fun x=>env.cells.lookup x=some a∧jI w c st.c x o)
 (fun k=>∃ sl:Slot,c.S[k]? = some sl∧sl.addr=a∧∀ m,st.g[k]? = some m→jD w c sl o m)
 (fun k=>∃ a',c.S[k]? = some (.o a' a)∧∀ C fs,st.g[k]? = some (.inst C fs)→∃ es n,o=dictOf es n∧iA w c es fs)
 (fun k=>c.L[k]? = some a∧∀ xs,st.l[k]? = some (.lst xs)→∃ vs n,o=PySem.W.listOf vs.toArray n∧aQ w c.B vs xs) t
noncomputable def tT (ow:Addr→Option bZ) (k:Nat) (sl:Slot):Prop:=@Slot.rec (fun _=>Prop) (fun a d=>ow a=some (.g k)∧ow d=some (.d k)) (fun a=>ow a=some (.g k)) sl
noncomputable def nS (w:World) (H:PM) (c:Cf) (cc:List (Str × PV)) (x:Str) (a:Addr):Prop:=c.ow a=some (.c x)∨(c.ro=true∧∃ o,H a=some o∧jI w c cc x o)
structure Ix (w:World) (H:PM) (env:Env) (c:Cf) (G M:List MO) (cc:List (Str × PV)):Prop where
 loc:c.ow env.locals=some .v
 cel:∀ x a,env.cells.lookup x=some a→nS w H c cc x a
 celd:∀ x u,lk x cc=some u→(env.cells.lookup x).isSome=true
 gl:c.S.length=G.length
 g:∀ k sl,c.S[k]? = some sl→tT c.ow k sl
 ll:c.L.length=M.length
 l:∀ k a xs,c.L[k]? = some a→M[k]? = some (.lst xs)→c.ow a=some (.l k)
 nol:∀ (k C:Nat) (fs:List (Str × PV)),M[k]? ≠ some (MO.inst C fs)
noncomputable def oJ (fs:List Addr) (h:Heap) (a:Addr) (o:Obj):Prop:=h.get? a=some o∨(a ∈ fs∧∃ sl,h.get? a=some { o with slots:=sl })
theorem oJ.slots {fs:List Addr}{h:Heap}{a:Addr}{o:Obj} (x:oJ fs h a o):∃ sl,h.get? a=.some { o with slots:=sl }:=x.elim (fun x=>⟨_,x⟩) fun x=>x.2
theorem oJ.is {fs:List Addr}{h:Heap}{a:Addr}{o:Obj} (x:oJ fs h a o) (n:a ∉ fs):h.get? a=.some o:=x.elim id fun x=>absurd x.1 n
structure aC (w:World) (H:PM) (env:Env) (c:Cf) (st:St) (h:Heap):Prop where
 b:∀ a o,c.B a=some o→h.get? a=some o
 bh:∀ a o,c.B a=some o→H a=none
 hh:∀ a o,H a=some o→oJ c.fs h a o
 fsH:∀ a,a ∈ c.fs→(H a).isSome=true
 own:∀ a t,c.ow a=some t→c.B a=none∧H a=none∧∃ o,h.get? a=some o∧Own w env c st a o t
 ix:Ix w H env c st.g st.l st.c
noncomputable def aY (h h':Heap):Prop:=∀ a o,h.get? a=some o→h'.get? a=some o
theorem aY.refl (h:Heap):aY h h:=fun _ _ e=>e
theorem aY.trans {h h' h'':Heap} (x:aY h h') (y:aY h' h''):aY h h'':=fun a o e=>y a o (x a o e)
theorem aY.push (h:Heap) (o:Obj):aY h (h.push o):=fun _ _ e=>Heap.get?_push_of_some _ e
theorem oJ.grows {fs:List Addr}{h h':Heap} (x:aY h h') {a:Addr}{o:Obj} (y:oJ fs h a o):oJ fs h' a o:=y.imp (x _ _) fun q=>⟨q.1,q.2.imp fun _=>x _ _⟩
noncomputable def iP {α:Type} (f:Addr→Option α) (a:Addr) (x:Option α):Addr→Option α:=fun b=>if b=a then x else f b
theorem gQ {α:Type}{f:Addr→Option α}{a:Addr}{x:Option α}:iP f a x a=x:=if_pos rfl
theorem eW {α:Type}{f:Addr→Option α}{a b:Addr}{x:Option α} (h:b ≠ a):iP f a x b=f b:=if_neg h
theorem jS {α:Type}{f:Addr→Option α}{a b:Addr}{x y:Option α}{P:Prop} (e:iP f a x b=y) (h1:b=a→x=y→P) (h2:b ≠ a→f b=y→P):P :=
 (Classical.em (b=a)).elim (fun h=>h1 h (by rw[h,gQ]at e;exact e)) fun h=>h2 h ((eW h).symm.trans e)
theorem pZ {α:Type}{f:Addr→Option α}{a b:Addr}{x:Option α}{y:α} (n:f a=none) (e:f b=some y):iP f a x b=some y:=(eW fun z=>nk3 (n.symm.trans (z ▸ e))).trans e
theorem lK {w:World}{c c':Cf} (l:c.le c') {v₀:Option Value}{u:PV} (h:∃ v,v₀=some v∧aH w c v u):∃ v,v₀=some v∧aH w c' v u:=h.imp fun _ q=>⟨q.1,q.2.mono l⟩
section
variable {w:World}{H:PM}{env:Env}{c c':Cf}{st:St}{h h':Heap}
theorem jI.mono {cc:List (Str × PV)}{x:Str}{o:Obj} (l:c.le c') (h:jI w c cc x o):jI w c' cc x o:=h.imp fun _ q=>⟨q.1,fun u e=>lK l (q.2 u e)⟩
theorem jD.mono {sl:Slot}{o:Obj}{m:MO} (l:c.B.le c'.B) (h:jD w c sl o m):jD w c' sl o m:=by
 cases m with
 | inst=>exact h
 | lst xs=>exact Exists.imp (fun a q=>q.imp fun vs q=>q.imp fun n q=>⟨q.1,q.2.1,q.2.2.mono l⟩) h
 | dead=>exact h
theorem Own.mono {a:Addr}{o:Obj}{t:bZ} (l:c.le c') (h:Own w env c st a o t):Own w env c' st a o t:=by
 cases t with
 | v=>exact And.imp_right (fun q=>q.imp fun _ q=>q.imp fun _ q=>⟨q.1,q.2.1,fun x u e=>lK l (q.2.2 x u e)⟩) h
 | c x=>exact And.imp_right (jI.mono l) h
 | g k=>exact Exists.imp (fun sl q=>⟨kD l.s q.1,q.2.1,fun m e=>(q.2.2 m e).mono l.b⟩) h
 | d k=>exact Exists.imp (fun sl q=>⟨kD l.s q.1,fun C fs e=>(q.2 C fs e).imp fun _ q=>q.imp fun _ q=>⟨q.1,q.2.mono l⟩⟩) h
 | l k=>exact⟨kD l.l h.1,fun xs e=>(h.2 xs e).imp fun _ q=>q.imp fun _ q=>⟨q.1,q.2.mono l.b⟩⟩
theorem jD.instI {a d C:Addr}{fs:List (Str × PV)}:jD w c (.o a d) (instObj C d) (.inst C fs):=⟨a,d,rfl,rfl⟩
theorem jD.lstI {a:Addr}{vs:List Value}{n:Nat}{xs:List FV} (f:aQ w c.B vs xs):jD w c (.l a) (PySem.W.listOf vs.toArray n) (.lst xs):=⟨a,vs,n,rfl,rfl,f⟩
theorem Own.gI {a:Addr}{o:Obj}{k:Nat}{sl:Slot} (hS:c.S[k]? = some sl) (ha:sl.addr=a) (f:∀ m,st.g[k]? = some m→jD w c sl o m):Own w env c st a o (.g k):=⟨sl,hS,ha,f⟩
theorem Own.dI {a a':Addr}{o:Obj}{k:Nat} (hS:c.S[k]? = some (.o a' a)) (f:∀ C fs,st.g[k]? = some (.inst C fs)→∃ es n,o=dictOf es n∧iA w c es fs):Own w env c st a o (.d k):=⟨a',hS,f⟩
theorem Own.lI {a:Addr}{o:Obj}{k:Nat} (hL:c.L[k]? = some a) (f:∀ xs,st.l[k]? = some (.lst xs)→∃ vs n,o=PySem.W.listOf vs.toArray n∧aQ w c.B vs xs):Own w env c st a o (.l k):=⟨hL,f⟩
theorem aC.owB (R:aC w H env c st h) {a:Addr}{t:bZ} (e:c.ow a=some t):c.B a=none:=(R.own a t e).1
theorem aC.owH (R:aC w H env c st h) {a:Addr}{t:bZ} (e:c.ow a=some t):H a=none:=(R.own a t e).2.1
theorem aC.owG (R:aC w H env c st h) {a:Addr}{t:bZ} (e:c.ow a=some t):∃ o,h.get? a=some o∧Own w env c st a o t:=(R.own a t e).2.2
theorem aC.frz (R:aC w H env c st h) (g:aY h h') {B':PM} (hb:c.B.le B') (hB:∀ a o,B' a=some o→h'.get? a=some o∧H a=none∧c.ow a=none):c.le { c with B:=B' }∧aC w H env { c with B:=B' } st h':=by
 have l:c.le { c with B:=B' }:=⟨hb,List.prefix_refl _,List.prefix_refl _,rfl,rfl⟩
 refine⟨l,fun a o e=>(hB a o e).1,fun a o e=>(hB a o e).2.1,fun a o e=>(R.hh a o e).grows g,R.fsH,fun a t e=>⟨?_,R.owH e,(R.owG e).imp fun o q=>⟨g _ _ q.1,q.2.mono l⟩⟩,R.ix.loc,fun x a e=>(R.ix.cel x a e).imp id fun q=>⟨q.1,q.2.imp fun o q=>⟨q.1,q.2.mono l⟩⟩,R.ix.celd,R.ix.gl,R.ix.g,R.ix.ll,R.ix.l,R.ix.nol⟩
 cases q:B' a with
 | none=>exact q
 | some o=>exact nk3 ((hB a o q).2.2.symm.trans e)
theorem aC.grows (R:aC w H env c st h) (g:aY h h'):aC w H env c st h':=(R.frz g (.refl _) fun a o e=>⟨g _ _ (R.b a o e),R.bh a o e,by
 cases q:c.ow a with
 | none=>rfl
 | some t=>exact nk3 ((R.owB q).symm.trans e)⟩).2
noncomputable def Cf.freeze (c:Cf) (a:Addr) (o:Obj):Cf:={ c with B:=iP c.B a (some o) }
theorem aC.free (R:aC w H env c st h) {a:Addr} (ha:h.get? a=none):c.B a=none∧H a=none∧c.ow a=none:=by
 refine⟨?_,?_,?_⟩
 ·cases q:c.B a with
  | none=>rfl
  | some o=>exact nk3 (ha.symm.trans (R.b _ _ q))
 ·cases q:H a with
  | none=>rfl
  | some o=>obtain⟨sl,e⟩:=(R.hh _ _ q).slots;exact nk3 (ha.symm.trans e)
 ·cases q:c.ow a with
  | none=>rfl
  | some t=>obtain⟨o,e,_⟩:=R.owG q;exact nk3 (ha.symm.trans e)
theorem get?_size (h:Heap):h.get? h.objs.size=none:=by
 cases q:h.get? h.objs.size with
 | none=>rfl
 | some o=>exact absurd (Heap.lt_size q) (Nat.lt_irrefl _)
theorem aC.none_of_size (R:aC w H env c st h):c.B h.objs.size=none∧H h.objs.size=none∧c.ow h.objs.size=none:=R.free (get?_size h)
theorem aC.freezeAt (R:aC w H env c st h) {a:Addr}{o:Obj} (g:aY h h') (ho:h'.get? a=some o) (hB:c.B a=none) (hH:H a=none) (hw:c.ow a=none):aC w H env (c.freeze a o) st h'∧c.le (c.freeze a o)∧(c.freeze a o).B a=some o :=
 have R':=R.grows g
 have q:=R.frz g (B':=iP c.B a (some o)) (fun b x e=>pZ hB e) fun b x e=>jS e (fun z1 z2=>⟨z1 ▸ z2 ▸ ho,z1 ▸ hH,z1 ▸ hw⟩) fun _ z=>⟨R'.b _ _ z,R'.bh _ _ z,by
  cases q:c.ow b with
  | none=>rfl
  | some t=>exact nk3 ((R.owB q).symm.trans z)⟩
 ⟨q.2,q.1,gQ⟩
theorem aC.newAt (R:aC w H env c st h) {a:Addr}{o:Obj} (g:aY h h') (ha:h.get? a=none) (ho:h'.get? a=some o):aC w H env (c.freeze a o) st h'∧c.le (c.freeze a o)∧(c.freeze a o).B a=some o :=
 R.freezeAt g ho (R.free ha).1 (R.free ha).2.1 (R.free ha).2.2
theorem aC.newF (R:aC w H env c st h) (o:Obj) (ho:o.isFreed=false:=by rfl):aC w H env (c.freeze h.objs.size o) st (h.push o)∧c.le (c.freeze h.objs.size o)∧(c.freeze h.objs.size o).B h.objs.size=some o :=
 R.newAt (aY.push h o) (get?_size h) (Heap.get?_push_size _ ho)
theorem aC.set (R:aC w H env c st h) {a:Addr}{t:bZ}{o':Obj}{st':St} (hw:c.ow a=some t) (hs:∀ b,b ≠ a→h'.get? b=h.get? b) (ha:h'.get? a=some o') (ho:Own w env c st' a o' t) (ix:Ix w H env c st'.g st'.l st'.c) (k:∀ b o u,b ≠ a→Own w env c st b o u→Own w env c st' b o u):aC w H env c st' h' where
 b b o e:=(hs b fun z=>nk3 ((R.owB hw).symm.trans (z ▸ e))).trans (R.b b o e)
 bh:=R.bh
 hh b o e:=by unfold oJ;rw[hs b fun z=>nk3 ((R.owH hw).symm.trans (z ▸ e))];exact R.hh b o e
 fsH:=R.fsH
 own b u e:=⟨R.owB e,R.owH e,(Classical.em (b=a)).elim (fun z=>⟨o',z ▸ ha,by rw[z,hw]at e;rw[z,← Option.some.inj e];exact ho⟩) fun z=>(R.owG e).imp fun o q=>⟨(hs b z).trans q.1,k b o u z q.2⟩⟩
 ix:=ix
theorem dJ {α:Type}{l:List α}{n:Nat}{x:α} (e:l[n]? = some x):n < l.length:=(List.getElem?_eq_some_iff.mp e).1
theorem aC.setV (R:aC w H env c st h) {x:Str}{v:Value}{u:PV} (hs:Heap.SameBut env.locals h h') (hn:h.Ns env.locals m) (hn':h'.Ns env.locals (fun y=>if y=x then some v else m y)) (p:aH w c v u):aC w H env c { st with v:=put x u st.v } h':=by
 obtain⟨o',es',ep',e1,e2,e3,e4⟩:=hn'
 obtain⟨o,es,ep,f1,f2,f3,f4⟩:=hn
 obtain⟨o₂,q1,_,es₂,ep₂,q2,q3,q4⟩:=R.owG R.ix.loc
 obtain rfl:=Option.some.inj (f1.symm.trans q1)
 have hes:es=es₂:=by rw[f2]at q2;injection q2
 subst hes
 refine R.set R.ix.loc hs.2 e1 ⟨rfl,es',ep',e2,e3,fun y z e=>AB e (fun a b=>⟨v,(e4 y).trans (if_pos a),Option.some.inj b ▸ p⟩) fun a b=>(q4 y z b).imp fun u' q=>⟨((e4 y).trans (if_neg a)).trans ((f4 y).symm.trans q.1),q.2⟩⟩ ⟨R.ix.loc,R.ix.cel,R.ix.celd,R.ix.gl,R.ix.g,R.ix.ll,R.ix.l,R.ix.nol⟩ fun b o t nb q=>?_
 cases t with
 | v=>exact absurd q.1 nb
 | _=>exact q
theorem aC.setC (R:aC w H env c st h) {x:Str}{a:Addr}{v:Value}{u:PV} (hx:env.cells.lookup x=some a) (hw:c.ow a=some (.c x)) (hs:Heap.SameBut a h h') (hc:h'.IsCell a (some v)) (p:aH w c v u):aC w H env c { st with c:=put x u st.c } h':=by
 obtain⟨o',e1,e2⟩:=hc
 have other:∀ {y:Str}{o:Obj},y ≠ x→jI w c st.c y o→jI w c (put x u st.c) y o:=fun n q=>q.imp fun _ q=>⟨q.1,fun z e=>q.2 z ((rN n _).symm.trans e)⟩
 have ne:∀ {y:Str}{b:Addr},b ≠ a→env.cells.lookup y=some b→y ≠ x:=fun n e z=>n (Option.some.inj (e.symm.trans (z ▸ hx)))
 refine R.set hw hs.2 e1 ⟨hx,some v,e2,fun z e=>⟨v,rfl,Option.some.inj ((rS rfl _).symm.trans e) ▸ p⟩⟩ ⟨R.ix.loc,fun y b e=>?_,fun y z e=>AB e (fun q _=>by rw[q,hx];rfl) fun _ q=>R.ix.celd y z q,R.ix.gl,R.ix.g,R.ix.ll,R.ix.l,R.ix.nol⟩ fun b o t nb q=>?_
 ·by_cases n:b=a
  ·refine(R.ix.cel y b e).elim .inl fun q=>?_
   obtain⟨_,o,q,_⟩:=q
   exact nk3 ((R.owH hw).symm.trans (n ▸ q))
  ·exact(R.ix.cel y b e).imp id fun q=>⟨q.1,q.2.imp fun o q=>⟨q.1,other (ne n e) q.2⟩⟩
 ·cases t with
  | c y=>exact⟨q.1,other (ne nb q.1) q.2⟩
  | _=>exact q
theorem aC.setL (R:aC w H env c st h) {k:Nat}{a:Addr}{m:MO}{xs:List FV}{vs:List Value}{n:Nat} (hL:c.L[k]? = some a) (hw:c.ow a=some (.l k)) (hs:∀ b,b ≠ a→h'.get? b=h.get? b) (ho:h'.get? a=some (PySem.W.listOf vs.toArray n)) (hf:aQ w c.B vs xs):aC w H env c { st with l:=e9 st.l k (.lst xs) } h':=by
 refine R.set hw hs ho ⟨hL,fun ys e=>dW e (fun _ _ q=>⟨vs,n,rfl,by cases Option.some.inj q;exact hf⟩) (fun z=>absurd rfl z) fun z=>?_⟩ ⟨R.ix.loc,R.ix.cel,R.ix.celd,R.ix.gl,R.ix.g,(R.ix.ll).trans (kZ _ _ _).symm,fun j b ys e1 e2=>dW e2 (fun q _ _=>?_) (fun _ q=>R.ix.l j b ys e1 q) fun q=>?_,fun j C fs e=>dW e (fun _ _ q=>by cases q) (fun _ q=>R.ix.nol j C fs q) fun q=>?_⟩ fun b o t nb q=>?_
 ·exact absurd (dJ hL) (Nat.not_lt.mpr (R.ix.ll ▸ List.getElem?_eq_none_iff.mp z))
 ·subst q;rw[← Option.some.inj (hL.symm.trans e1)];exact hw
 ·exact absurd (dJ e1) (Nat.not_lt.mpr (R.ix.ll ▸ List.getElem?_eq_none_iff.mp q))
 ·have:=dJ e;rw[kZ]at this;exact absurd this (Nat.not_lt.mpr (List.getElem?_eq_none_iff.mp q))
 ·cases t with
  | l j=>exact⟨q.1,fun ys e=>dW e (fun z=>by subst z;exact absurd (Option.some.inj (q.1.symm.trans hL)) nb) (fun _ z=>q.2 ys z) fun z=>absurd (dJ q.1) (Nat.not_lt.mpr (R.ix.ll ▸ List.getElem?_eq_none_iff.mp z))⟩
  | _=>exact q
end
end Mine
end
section
namespace Mine
structure zY where
 base:Heap
 H0:PM
structure Fr where
 A:Around
 env:Env
 fenv:Env
 outer:List Env
 ro:Bool
structure Gm where
 w:World
 K:Frag
 T:bP
 X:zY
 C:bW
 n:Nat
inductive L4 (base:Heap) (h:Heap) (e:Addr) (cls:Value) (LF:Addr):Prop where
 | new (oe:Obj) (vs:Array Value) (he:h.get? e=some oe) (hc:oe.cls=cls) (hd:oe.data=.fields vs) (h1:vs[1]? = some .none)
 | out (tr:h.Traced base e cls)
 | here (oe:Obj) (vs:Array Value) (T:Addr) (oT:Obj) (ts:Array Value) (he:h.get? e=some oe) (hc:oe.cls=cls) (hd:oe.data=.fields vs) (h1:vs[1]? = some (.ref T)) (hT:base.get? T=none) (hne:T ≠ e)
   (hoT:h.get? T=some oT) (hdT:oT.data=.fields ts) (h3:ts[3]? = some (rawInt LF))
noncomputable def aS (s s':Shared):Prop:=s'.gens=s.gens∧s'.os=s.os
theorem aS.refl (s:Shared):aS s s:=⟨rfl,rfl⟩
theorem aS.trans {s s' s'':Shared} (x:aS s s') (y:aS s' s''):aS s s'':=⟨y.1.trans x.1,y.2.trans x.2⟩
section
variable (Γ:Gm)
structure Up (F:Fr) (e:Value) (h:Heap):Prop where
 is:∃ a LF,e=.ref a∧F.fenv.frame=some LF∧Γ.X.base.get? a=none∧L4 Γ.X.base h a (.ref Γ.T.fail) LF
 stays:Γ.X.base.StaysIn h
 frames:h.FunFrames Γ.X.base (F.fenv::F.outer)
 keep:∀ a o,Γ.X.H0 a=some o→(∀ vs,o.data ≠ .fields vs)→∃ sl,h.get? a=some { o with slots:=sl }
structure Ok (H:PM) (F:Fr) (c:Cf):Prop where
 ro:c.ro=F.ro
 k:∀ a o,Γ.K.lookup a=some o→c.B a=some o
 base:∀ a o,Γ.X.base.get? a=some o→c.B a=some o∨(H a=some o∧a ∉ c.fs)
 h0:∀ a o,Γ.X.H0 a=some o→H a=some o
 outer:∀ e ∈ F.outer,e.scope.kind ≠ .module∧∃ L o,e.frame=some L∧Γ.X.base.get? L=none∧H L=some o∧L ∈ c.fs∧∀ vs,o.data ≠ .fields vs
 fkind:F.fenv.scope.kind ≠ .module
 fframe:∃ L,F.fenv.frame=some L∧Γ.X.base.get? L=none∧(L=F.env.locals∨∃ o,H L=some o∧L ∈ c.fs∧∀ vs,o.data ≠ .fields vs)
 fsD:∀ a,a ∈ c.fs→∃ o,H a=some o∧∀ vs,o.data ≠ .fields vs
theorem Ok.mono {H:PM}{F:Fr}{c c':Cf} (x:Ok Γ H F c) (l:c.le c'):Ok Γ H F c' :=
 ⟨l.ro ▸ x.ro,fun a o e=>l.b _ _ (x.k a o e),fun a o e=>(x.base a o e).imp (l.b _ _) fun q=>⟨q.1,l.fs ▸ q.2⟩,x.h0,l.fs ▸ x.outer,x.fkind,l.fs ▸ x.fframe,l.fs ▸ x.fsD⟩
structure aV (F:Fr) (cx:Cx):Prop where
 kind:F.env.scope.kind=.function
 names:∀ x k,kindOf cx.sc x=some k→k ≠ .free→F.env.kindOf x=some k
 free:∀ x,kindOf cx.sc x=some .free→F.env.kindOf x=some .free∨F.env.kindOf x=some .cell
 cells:∀ x,kindOf cx.sc x=some .cell→F.ro=false∧(F.env.cells.lookup x).isSome=true
 globals:F.env.globals=mainGlobals
 builtins:F.env.builtins=builtinsNs
 handled:F.A.handled=none
 frames:F.A.frames=some (F.fenv::F.outer)
 frame:F.env.frame=F.fenv.frame
 depth:F.A.depth + 3 * Γ.n + 6 ≤ recursionLimit
 units:F.A.units + 8 * Γ.n + 40 ≤ cLine
structure aG {α β:Type} (V:Cf→α→β→Prop) (H:PM) (F:Fr) (x:Pg (β × St)) (c:Cf) (s:Shared) (Q:α→Shared→Prop) (E:Value→Shared→Prop):Prop where
 ok:∀ b st',aN Γ.C x=.ok (b,st')→∀ c' a s',c.le c'→aC Γ.w H F.env c' st' s'.heap→V c' a b→aS s s'→Q a s'
 raise:aN Γ.C x=.raise→∀ e s',Up Γ F e s'.heap→aS s s'→E e s'
 go:aN Γ.C x ≠ .stuck
noncomputable def TG {α β:Type} (V:Cf→α→β→Prop) (H:PM) (F:Fr) (st:St) (x:Pg (β × St)) (t:Sem α):Prop :=
 ∀ (c:Cf) (s:Shared) (Q:α→Shared→Prop) (E:Value→Shared→Prop),Ok Γ H F c→aC Γ.w H F.env c st s.heap→aG Γ V H F x c s Q E→wpAny (model pw Γ.w) F.A t Q E s
end
theorem aZ {α β:Type} (C:bW) (x:Pg α) (f:α→Pg β):aN C (x.bind f)=(aN C x).bind fun a=>aN C (f a):=by
 induction x with
 | ask c m q k ih =>
  show(kI c (q.run C)).bind (fun r=>aN C ((k r).bind f))=((kI c (q.run C)).bind fun r=>aN C (k r)).bind fun a=>aN C (f a)
  cases kI c (q.run C) with
  | ok r=>exact ih r
  | _=>rfl
 | _=>rfl
theorem OW {α β:Type}{x:O α}{f:α→O β}{b:β}{P:Prop} (e:x.bind f=.ok b) (k:∀ a,x=.ok a→f a=.ok b→P):P:=by
 cases x with
 | ok a=>exact k a rfl e
 | stuck=>exact nk1 e
 | raise=>exact nk2 e
theorem uS {α β:Type}{C:bW}{x:Pg α}{f:α→Pg β}{b:β}{P:Prop} (e:aN C (x.bind f)=.ok b) (k:∀ a,aN C x=.ok a→aN C (f a)=.ok b→P):P:=OW ((aZ C x f).symm.trans e) k
theorem BJ {α β:Type}{C:bW}{x:Option α}{k:α→Pg β}{b:β}{P:Prop} (e:aN C (opt x k)=.ok b) (f:∀ a,x=some a→aN C (k a)=.ok b→P):P:=by
 cases x with
 | none=>exact nk1 e
 | some a=>exact f a rfl e
section
variable {Γ:Gm}{α β γ δ:Type}{V:Cf→α→β→Prop}{V₁:Cf→γ→δ→Prop}{H:PM}{F:Fr}{c c':Cf}{s s':Shared}{Q:α→Shared→Prop}{E:Value→Shared→Prop}{st:St}
theorem aG.mono {x:Pg (β × St)} (g:aG Γ V H F x c s Q E) (l:c.le c') (q:aS s s'):aG Γ V H F x c' s' Q E :=
 ⟨fun b st' e c'' a s'' l' R v z=>g.ok b st' e c'' a s'' (l.trans l') R v (q.trans z),fun e x s'' u z=>g.raise e x s'' u (q.trans z),g.go⟩
theorem aG.step {x:Pg (δ × St)}{k:δ × St→Pg (β × St)}{r:δ × St} (g:aG Γ V H F (x.bind k) c s Q E) (e:aN Γ.C x=.ok r) (l:c.le c') (z:aS s s'):aG Γ V H F (k r) c' s' Q E:=by
 have d:=aZ Γ.C x k
 rw[e]at d
 have g':=g.mono l z
 exact⟨fun b st' e=>g'.ok b st' (d.trans e),fun e=>g'.raise (d.trans e),fun e=>g'.go (d.trans e)⟩
theorem aG.bindC {x:Pg (δ × St)}{k:δ × St→Pg (β × St)}{Q₁:γ→Shared→Prop}{P:Prop} (g:aG Γ V H F (x.bind k) c s Q E) (h₁:aG Γ V₁ H F x c s Q₁ E→P) (o:Ok Γ H F c)
  (n:∀ b st' c' a s',aN Γ.C x=.ok (b,st')→c.le c'→Ok Γ H F c'→aC Γ.w H F.env c' st' s'.heap→V₁ c' a b→aS s s'→aG Γ V H F (k (b,st')) c' s' Q E→Q₁ a s'):P:=by
 have d:=aZ Γ.C x k
 exact h₁ ⟨fun b st' e c' a s' l R' v z=>n b st' c' a s' e l (o.mono _ l) R' v z (g.step e l z),fun e x s' u z=>g.raise (by rw[d,e];rfl) x s' u z,fun e=>g.go (by rw[d,e];rfl)⟩
theorem aG.bind {x:Pg (δ × St)}{k:δ × St→Pg (β × St)}{t₁:Sem γ}{Q₁:γ→Shared→Prop} (g:aG Γ V H F (x.bind k) c s Q E) (h₁:TG Γ V₁ H F st x t₁) (o:Ok Γ H F c) (R:aC Γ.w H F.env c st s.heap)
  (n:∀ b st' c' a s',aN Γ.C x=.ok (b,st')→c.le c'→Ok Γ H F c'→aC Γ.w H F.env c' st' s'.heap→V₁ c' a b→aS s s'→aG Γ V H F (k (b,st')) c' s' Q E→Q₁ a s'):wpAny (model pw Γ.w) F.A t₁ Q₁ E s :=
 g.bindC (fun a=>h₁ c s Q₁ E o R a) o n
theorem aG.bif {b:Bool}{x y:Pg (β × St)}{P:Prop} (g:aG Γ V H F (bif b then x else y) c s Q E) (k:b=true→aG Γ V H F x c s Q E→P) (m:b=false→aG Γ V H F y c s Q E→P):P:=by
 cases b with
 | true=>exact k rfl g
 | false=>exact m rfl g
theorem aG.opt {y:Option δ}{k:δ→Pg (β × St)}{P:Prop} (g:aG Γ V H F (Mine.opt y k) c s Q E) (f:∀ a,y=some a→aG Γ V H F (k a) c s Q E→P):P:=by
 cases y with
 | none=>exact absurd rfl g.go
 | some a=>exact f a rfl g
theorem aG.f {a:PV}{k:FV→Pg (β × St)}{P:Prop} (g:aG Γ V H F (Mine.opt (cQ a) k) c s Q E) (f:∀ x,a=.f x→aG Γ V H F (k x) c s Q E→P):P:=g.opt fun x e g=>f x (mT e) g
theorem aG.gp {b:Bool}{x:Pg (β × St)}{P:Prop} (g:aG Γ V H F (Mine.gp b x) c s Q E) (f:b=true→aG Γ V H F x c s Q E→P):P:=by
 cases b with
 | false=>exact absurd rfl g.go
 | true=>exact f rfl g
theorem aG.qB {m:Nat}{y:Option Bool}{k:Bool→Pg (β × St)}{P:Prop} (g:aG Γ V H F (Mine.qB m y k) c s Q E) (f:∀ a,y=some a→aG Γ V H F (k a) c s Q E→P):P:=by
 cases y with
 | none=>exact absurd rfl g.go
 | some a=>exact f a rfl ⟨g.ok,g.raise,g.go⟩
theorem aG.qV {m:Nat}{y:St→Option PV}{k:PV→Pg (β × St)}{P:Prop} (g:aG Γ V H F (Mine.qV m y st k) c s Q E) (f:∀ a,y st=some a→aG Γ V H F (k a) c s Q E→P):P:=by
 have e:∀ z,y st=z→aN Γ.C (Mine.qV m y st k)=(eJ z).bind fun r=>aN Γ.C (k r):=fun z e=>e ▸ rfl
 cases h:y st with
 | none=>exact absurd (e _ h) g.go
 | some a=>have e:=e _ h;exact f a h ⟨fun b st' q=>g.ok b st' (e.trans q),fun q=>g.raise (e.trans q),fun q=>g.go (e.trans q)⟩
theorem aG.qS {m:Nat}{y:Option (PV × St)}{V:Cf→α→PV→Prop}{P:Prop} (g:aG Γ V H F (Mine.qS m y) c s Q E) (f:∀ a st',y=some (a,st')→aG Γ V H F (.ok (a,st')) c s Q E→P):P:=by
 cases y with
 | none=>exact absurd rfl g.go
 | some a=>exact f a.1 a.2 rfl ⟨g.ok,g.raise,g.go⟩
theorem aG.done {b:β} (g:aG Γ V H F (.ok (b,st)) c s Q E) {a:α} (R:aC Γ.w H F.env c st s.heap) (v:V c a b):Q a s:=g.ok b st rfl c a s (.refl c) R v (.refl s)
theorem aG.done' {b:β} (g:aG Γ V H F (.ok (b,st)) c s Q E) {a:α} (l:c.le c') (R:aC Γ.w H F.env c' st s'.heap) (v:V c' a b) (z:aS s s'):Q a s':=g.ok b st rfl c' a s' l R v z
theorem aG.stuck {P:Prop} (g:aG Γ V H F (.stuck:Pg (β × St)) c s Q E):P:=absurd rfl g.go
theorem aG.oe {y:Option γ}{k:γ→Pg (β × St)}{x:Pg (β × St)}{P:Prop} (g:aG Γ V H F (Mine.oe y k x) c s Q E) (f:∀ a,y=some a→aG Γ V H F (k a) c s Q E→P) (n:y=none→aG Γ V H F x c s Q E→P):P:=by
 cases y with
 | none=>exact n rfl g
 | some a=>exact f a rfl g
end
inductive Az (K:Frag) (a:Addr) (fi:FI):Prop where
 | mk (o:Obj) (fd:FuncData) (h1:K.lookup a=some o) (h2:o.data=.func fd) (h3:fd.body=.stmts fi.body) (h4:fd.scope=fi.sc) (h5:fd.closure=[]) (h6:fd.globals=mainGlobals) (h7:fd.builtins=builtinsNs) (h8:codeIn K fd.code fd.qualname=true) (h9:fi.sc.isCoroutine=false) (h10:fi.sc.isGenerator=false) (h11:fi.sc.kind=.function) (h12:(∀ vals:List Value,vals.length=fi.ps.length→bindArgs fd ⟨vals,[]⟩=pure (fi.ps.zip vals))) (h13:fi.ps.Nodup):Az K a fi
structure cS (w:World) (K:Frag) (T:bP):Prop where
 glob:∀ x y,lk x T.glob=some y→∃ v,(nsIn K mainGlobals x=some (some v)∨(nsIn K mainGlobals x=some none∧nsIn K builtinsNs x=some (some v)))∧aO w (fun a=>K.lookup a) v y
 isi:∀ (tv c:Nat ⊕ Ty) (x t:FV),rF T x=some tv→Ag T t=some c→kitOne K (jE tv) (jE c)=some (FS tv c)
 isiO:∀ D,D ∈ T.isiC→plainGet K D "__class__" = true∧hasDictIn K D=true∧findIn K (.ref D) "__class__" = some (some (.builtin "object.__class__"))∧specialIn K (.builtin "object.__class__") "__get__" = some (some (.builtin "getset_descriptor.__get__"))∧takesIn K (.builtin "object.__class__")=some true∧mroIn K D (.type "object")=some true
 mods:∃ o,K.lookup sysModules=some o
 nolim:∀ h:Heap,K.In h→h.NoLimit
 fnI:∀ a p fi,iU a T.fns=some p→t8 p.1 p.2=some fi→Az K a fi
 fnK:∀ a p,iU a T.fns=some p→keepIn K (.ref a)=true
 clsK:∀ a p,iU a T.clss=some p→keepIn K (.ref a)=true∧makesIn K a=true∧findIn K (.ref a) "__init__" = some (some (.ref p.2))∧typeIn K (.ref p.2)=some (.type "function")
 meth:∀ C ms n a,iU C T.meths=some ms→lk n ms=some a→plainGet K C n=true∧findIn K (.ref C) n=some (some (.ref a))∧typeIn K (.ref a)=some (.type "function")∧keepIn K (.ref a)=true
 fld:∀ C a,mW T C a=true→plainGet K C a=true∧hasDictIn K C=true∧(∃ attr,findIn K (.ref C) a=some attr∧noGet K attr=true)∧findIn K (.ref C) "__setattr__" = some (some (.builtin "object.__setattr__"))∧plainOver K C=true∧takerIn K C a=some none
abbrev VB (c:Cf) (b:Bool) (b':Bool):Prop:=b=b'
abbrev VU (c:Cf) (b:Unit) (b':Unit):Prop:=True
noncomputable def cA (Γ:Gm) (H:PM) (ih:Cx→Expr→St→Pg (PV × St)):Prop :=
 ∀ (F:Fr) (cx:Cx) (e:Expr) (st:St),aV Γ F cx→TG Γ (aH Γ.w) H F st (ih cx e st) (eval e F.env)
abbrev Bo (Q:Value→Shared→Prop) (E:Value→Shared→Prop) (r:Result) (s:Shared):Prop:=match r with
 | .ok (.ret v)=>Q v s
 | .ok _=>False
 | .error e=>E e s
noncomputable def fH (w:World) (K:Frag) (T:bP) (n:Nat) (C:bW):Prop :=
 ∀ (A:Around) (X:zY) (H:PM) (F:Fr) (st:St) (m a:Nat) (vs:List Value) (ws:List PV) (c:Cf) (s:Shared) (Q:Value→Shared→Prop) (E:Value→Shared→Prop),A.frames=some (F.fenv::F.outer)→A.handled=none→A.depth + 3 * n + 4 ≤ recursionLimit→A.units + 8 * n + 36 ≤ cLine →
  Ok ⟨w,K,T,X,C,n⟩ H F c→aC w H F.env c st s.heap→aX w c vs ws →
  aG ⟨w,K,T,X,C,n⟩ (aH w) H F (qC m a ws st.g fun q=>.ok (q.1,{ st with g:=q.2 })) c s Q E→codeAny (model pw w) A (.call (.ref a) ⟨vs,[]⟩) (Bo Q E) s
end Mine
end
section
namespace Mine
section
variable {Γ:Gm}{H:PM}{F:Fr}{cx:Cx}{c:Cf}{s:Shared}{st:St}{Q:Value→Shared→Prop}{E:Value→Shared→Prop}
theorem Ok.kin {h:Heap} (o:Ok Γ H F c) (R:aC Γ.w H F.env c st h):Γ.K.In h:=fun a x e=>R.b a x (o.k a x e)
theorem FF {co:Const}{k:Nat}{p:Pos}:TG Γ (aH Γ.w) H F st (opt (Bx co) fun w=>.ok (w,st)) (eval (.Constant co k p) F.env):=by
 intro c s Q E o R g
 cases co with
 | none=>exact wpAny_Constant_none (g.done R .none)
 | bool b=>exact wpAny_Constant_bool (g.done R (.bool b))
 | int i=>exact wpAny_Constant_int (g.done' (.refl c) R (.int i _) ⟨rfl,rfl⟩)
 | str x=>exact Calls.Constant_str (g.done' (.refl c) R (.strS x _) ⟨rfl,rfl⟩)
 | _=>exact absurd rfl g.go
theorem iX {x:Str}{k:NameKind}{sc:Scope} (h:kindOf sc x=some k):(x == ("__debug__" : Str))=false∧(x == ("__classdict__" : Str))=false :=
 aD h fun h1 h=>aD h fun h2 _=>⟨beq_eq_false_iff_ne.mpr (Ds (gV h1)),beq_eq_false_iff_ne.mpr (Ds (gV h2))⟩
theorem dT {sc:Scope}{x:Str}{k:NameKind} (h:kindOf sc x=some k):sc.names.lookup x=some k:=aD h fun _ h=>aD h fun _ h=>(fO _ _).symm.trans h
theorem zB (hK:cS Γ.w Γ.K Γ.T) {env:Env} (hg:env.globals=mainGlobals) (hb:env.builtins=builtinsNs) (KI:Γ.K.In s.heap) {A:Around}{x:Str}{y:FV} (h:lk x Γ.T.glob=some y) (q:∀ v,aO Γ.w (fun a=>Γ.K.lookup a) v y→Q v s):wpAny (model pw Γ.w) A (loadGlobal env x) Q E s:=by
 obtain⟨v,hv,fv⟩:=hK.glob x y h
 unfold loadGlobal
 rw[hg,hb]
 exact hv.elim (fun hv=>wpAny_bind ((looks_nsIn KI hv).here (wpAny_pure (q v fv)))) fun h=>wpAny_bind ((looks_nsIn KI h.1).here (wpAny_bind ((looks_nsIn KI h.2).here (wpAny_pure (q v fv)))))
theorem zA (hK:cS Γ.w Γ.K Γ.T) (hF:aV Γ F cx) {x:Str}{pv:PV} (o:Ok Γ H F c) (R:aC Γ.w H F.env c st s.heap) (h:gR Γ.T cx x st=some pv) (q:∀ v,aH Γ.w c v pv→Q v s):(x == ("__debug__" : Str))=false∧wpAny (model pw Γ.w) F.A (loadName F.env x) Q E s:=by
 refine ob h fun k hk h=>⟨(iX hk).1,?_⟩
 have cell:∀ k',F.env.kindOf x=some k'→(k'=.cell∨k'=.free)→lk x st.c=some pv→wpAny (model pw Γ.w) F.A (loadName F.env x) Q E s:=by
  intro k' e1 e2 e4
  obtain⟨a,ha⟩:=Option.isSome_iff_exists.mp (R.ix.celd x pv e4)
  have hc:∃ o,s.heap.get? a=some o∧∃ v,o.data=.cell (some v)∧aH Γ.w c v pv:=by
   have fin:∀ {o ob:Obj},s.heap.get? a=some ob→ob.data=o.data→jI Γ.w c st.c x o→∃ o,s.heap.get? a=some o∧∃ v,o.data=.cell (some v)∧aH Γ.w c v pv:=fun e e' q=>by
    obtain⟨v₀,q1,q2⟩:=q
    obtain⟨v,q3,q4⟩:=q2 pv e4
    exact⟨_,e,v,e'.trans (q1.trans (congrArg _ q3)),q4⟩
   rcases R.ix.cel x a ha with q | ⟨_,o,q1,q2⟩
   ·obtain⟨o,q1,q2⟩:=R.owG q
    exact fin q1 rfl q2.2
   ·obtain⟨sl,e⟩:=(R.hh a o q1).slots
    exact fin e rfl q2
  obtain⟨ob,q1,v,q2,pv'⟩:=hc
  rcases e2 with rfl | rfl
  ·exact wpAny_loadName_cell hF.kind e1 ha ⟨ob,q1,q2⟩ (q v pv')
  ·exact wpAny_loadName_free hF.kind e1 ha ⟨ob,q1,q2⟩ (q v pv') (iX hk).2
 cases k with
 | «local» =>
  obtain⟨ob,q1,_,es,ep,q2,q3,q4⟩:=R.owG R.ix.loc
  obtain⟨v,hv,pv'⟩:=q4 x pv h
  exact wpAny_loadName_local hF.kind (hF.names x _ hk nofun) ⟨ob,es,ep,q1,q2,q3,fun _=>rfl⟩ hv (q v pv')
 | cell=>exact cell _ (hF.names x _ hk nofun) (.inl rfl) h
 | free=>exact(hF.free x hk).elim (fun e=>cell _ e (.inr rfl) h) fun e=>cell _ e (.inl rfl) h
 | globalExplicit=>exact nk3 h
 | globalImplicit=>exact ob h fun y hy h=>ks_loadName_global hF.kind (hF.names x _ hk nofun) (zB hK hF.globals hF.builtins (o.kin R) hy fun v fv=>q v (Option.some.inj h ▸ fv.mono o.k))
theorem pD (hK:cS Γ.w Γ.K Γ.T) (hF:aV Γ F cx) {x:Str}{p:Pos}{pv:PV} (o:Ok Γ H F c) (R:aC Γ.w H F.env c st s.heap) (h:gR Γ.T cx x st=some pv) (q:∀ v,aH Γ.w c v pv→Q v s):wpAny (model pw Γ.w) F.A (eval (.Name x p) F.env) Q E s :=
 have r:=zA (E:=E) hK hF o R h q;wpAny_Name r.2 r.1
theorem Iy (hK:cS Γ.w Γ.K Γ.T) (hF:aV Γ F cx) {x:Str}{p:Pos}:TG Γ (aH Γ.w) H F st (opt (gR Γ.T cx x st) fun w=>.ok (w,st)) (eval (.Name x p) F.env) :=
 fun c s Q E o R g=>g.opt fun pv h g=>pD hK hF o R h fun v pv'=>g.done R pv'
variable {ih:Cx→Expr→St→Pg (PV × St)}
theorem iI {M:Model}{A:Around}{x:Sem Value}{rest:List (Bool × Sem Value)}{Q:List Value→Shared→Prop}{E:Value→Shared→Prop}
  (h:wpAny M A x (fun v s₁=>wpAny M A (spliced rest) (fun vs s₂=>Q (v::vs) s₂) E s₁) E s):wpAny M A (spliced ((false,x)::rest)) Q E s :=
 wpAny_bind (wpAny_mono h (fun v s₁ z=>wpAny_bind (wpAny_pure (wpAny_bind (wpAny_holding (wpAny_mono z (fun vs s₂ q=>wpAny_pure q) fun _ _ q=>q))))) fun _ _ z=>z)
theorem gY {e:Expr} (h:bO e=true) (r:List Expr) (p:Pos) (env:Env):backTo p (starEach (e::r) env)=(false,eval e env)::backTo p (starEach r env):=by
 cases e with
 | Set=>exact nk6 h
 | Starred=>exact nk6 h
 | _=>rfl
theorem i8 (hI:cA Γ H ih) (hF:aV Γ F cx) (p:Pos) (es:List Expr):∀ st:St,TG Γ (aX Γ.w) H F st (oR ih cx es st) (spliced (backTo p (starEach es F.env))):=by
 induction es with
 | nil=>exact fun st c s Q E o R g=>wpAny_pure (g.done R .nil)
 | cons e r ihr =>
  intro st c s Q E o R g
  refine aG.gp g fun h g=>?_
  rw[gY h]
  refine iI (g.bind (hI F cx e st hF) o R fun w₁ st₁ c₁ v₁ s₁ _ l₁ o₁ R₁ p₁ z₁ g₁=>?_)
  exact g₁.bind (ihr st₁) o₁ R₁ fun ws st₂ c₂ vs s₂ _ l₂ o₂ R₂ p₂ z₂ g₂=>g₂.done R₂ (.cons (p₁.mono l₂) p₂)
end
section
variable {w:World}{A:Around}{s:Shared}{B:PM}
theorem p9 (x y:List Nat):((⟨x.toArray⟩:Str) == (⟨y.toArray⟩:Str))=gF x y:=by
 by_cases h:x=y
 ·rw[pW.mpr h,h];exact beq_iff_eq.mpr rfl
 ·rw[show gF x y=false from Bool.eq_false_iff.mpr fun e=>h (pW.mp e)]
  exact beq_eq_false_iff_ne.mpr fun q=>h (congrArg (fun z:Str=>z.cps.toList) q)
theorem pQ {x:Int}{l:List FV}:∀ {vs:List Value}{b:Bool},aQ w B vs l→LC x l=some b→∃ ns,IntsAre vs ns∧(ns.any fun y=>y == x)=b:=by
 induction l with
 | nil=>intro vs b q h;obtain rfl:=q.n;exact⟨[],.nil,Option.some.inj h⟩
 | cons a r ih =>
  intro vs b q h
  obtain⟨v,us,rfl,p,q2⟩:=q.c
  refine ob h fun y h1 h=>ob h fun b' h2 h=>?_
  obtain⟨ns,i,j⟩:=ih q2 h2
  exact p.iE h1 fun t=>⟨y::ns,.cons y t i,by rw[List.any_cons,j];exact Option.some.inj h⟩
theorem pF {x:List Nat}{l:List FV}:∀ {vs:List Value}{b:Bool},aQ w B vs l→Jz x l=some b→∃ ns,StrsAre vs ns∧(ns.any fun y=>y == (⟨x.toArray⟩:Str))=b:=by
 induction l with
 | nil=>intro vs b q h;obtain rfl:=q.n;exact⟨[],.nil,Option.some.inj h⟩
 | cons a r ih =>
  intro vs b q h
  obtain⟨v,us,rfl,p,q2⟩:=q.c
  refine ob h fun y h1 h=>ob h fun b' h2 h=>?_
  obtain⟨ns,i,j⟩:=ih q2 h2
  exact p.sE h1 fun t=>⟨⟨y.toArray⟩::ns,.cons _ t i,by rw[List.any_cons,j,p9];exact Option.some.inj h⟩
theorem len_str (x:List Nat):(⟨x.toArray⟩:Str).length=x.length:=rfl
theorem uM (x y:List Nat):(⟨x.toArray⟩:Str)++(⟨y.toArray⟩:Str)=⟨(x++y).toArray⟩:=congrArg Str.mk (List.append_toArray _ _)
theorem cY {n:Nat} (h:fits n=true):n ≤ sizeLine:=(Nat.le_of_ble_eq_true h:n ≤ 16777216)
theorem Dz {x:List Nat} (n:Nat):∀ a:Array Nat,(List.replicate n x.toArray).foldl (·++·) a=(a.toList++(List.replicate n x).flatten).toArray:=by
 induction n with
 | zero=>intro a;simp
 | succ n ih=>intro a;rw[List.replicate_succ,List.foldl_cons,ih,List.replicate_succ,List.flatten_cons];simp
end
section
variable {Γ:Gm}{H:PM}{F:Fr}{c:Cf}{s:Shared}{st:St}{Q:Value→Shared→Prop}{E:Value→Shared→Prop}
theorem Lu {A:Around}{op:Operator}{x y z:Int}{t u:Tok} (h:OR op x y=some z) (q:Q (.int z s.toks) { s with toks:=s.toks + 1 }):wpAny (model pw Γ.w) A (binaryOp op (.int x t) (.int y u)) Q E s:=by
 replace q:∀ k,some k=some z→Q (.int k s.toks) { s with toks:=s.toks + 1 }:=fun k e=>Option.some.inj e ▸ q
 cases op with
 | Add=>exact add_int (q _ h)
 | Sub=>exact sub_int (q _ h)
 | Mult=>exact aD h fun g h=>mul_int (q _ h) ((Bool.or_eq_true_iff.mp g).elim (fun g=>IntMulOk.of_left (of_decide_eq_true g)) fun g=>IntMulOk.of_right (of_decide_eq_true g))
 | FloorDiv=>exact aD h fun g1 h=>aD h fun g2 h=>floordiv_int (of_decide_eq_true g1) (q _ h) (.inl (gV g2))
 | Mod=>exact aD h fun g h=>PyProof.Rows.mod_int (of_decide_eq_true g) (q _ h)
 | LShift=>exact aD h fun g1 h=>aD h fun g2 h=>lshift_int (of_decide_eq_true g1) (of_decide_eq_true g2) (q _ h)
 | RShift=>exact aD h fun g h=>rshift_int (of_decide_eq_true g) (q _ h)
 | BitOr=>exact or_int (q _ h)
 | BitAnd=>exact and_int (q _ h)
 | Pow=>exact aD h fun g1 h=>aD h fun g2 h=>pow_int (of_decide_eq_true g1) (of_decide_eq_true g2) (q _ h)
 | _=>exact nk3 h
theorem uU {op:Operator} (h:Ay op=true):op=.Add:=by cases op<;>first | rfl | exact nk6 h
theorem DQ {op:Operator} (h:G9 op=true):op=.Mult:=by cases op<;>first | rfl | exact nk6 h
theorem lX {i:Int}{n:Nat} (h:sD i=some n):i=(n:Int):=by
 cases i with
 | ofNat=>exact congrArg Int.ofNat (Option.some.inj h)
 | negSucc=>exact nk3 h
theorem JP {A:Around}{x:List Nat}{n:Nat}{t u:Tok} (g1:x.length < 2) (g2:n < 1000000) (fin:∀ v s',aO Γ.w c.B v (.str (List.replicate n x).flatten)→s'.heap=s.heap→aS s s'→Q v s'):wpAny (model pw Γ.w) A (binaryOp .Mult (.str ⟨x.toArray⟩ t) (.int n u)) Q E s:=by
 refine P.mul_str ?_ (fun h1 h2=>?_) (fun h1 h2=>?_) ?_
 ·rw[decide_eq_false (by omega),decide_eq_false (by omega)];rfl
 ·rw[len_str]
  have b1:¬ ((n:Int) < 1):=h1
  intro h3
  have h3:(x.length:Int) > (2 ^ 63 - 1) / (n:Int):=h3
  have h4:((2:Int) ^ 63 - 1) / n ≥ 2:=Int.le_ediv_of_mul_le (by omega) (by omega)
  omega
 ·rw[len_str]
  exact decide_eq_false (Nat.not_lt.mpr (Nat.le_trans (Nat.mul_le_mul_right n (Nat.le_of_lt_succ g1)) (by show _ ≤ 16777216;omega)))
 ·have fl:∀ y:List Nat,y=(List.replicate n x).flatten→∀ v s',v=Value.str ⟨y.toArray⟩ s.toks→s'.heap=s.heap→aS s s'→Q v s':=fun y e v s' e2=>fin v s' (e2 ▸ e ▸ aO.str _ _)
  split
  ·rename_i h1
   have h2:n=0:=by have:(n:Int) < 1:=h1;omega
   subst h2
   exact⟨by decide,fin _ _ (aO.str [] _) rfl ⟨rfl,rfl⟩⟩
  ·split
   ·rename_i h2
    refine fin _ _ ?_ rfl (.refl s)
    have h3:(List.replicate n x).flatten=x:=by
     rcases Bool.or_eq_true_iff.mp h2 with h2 | h2
     ·have h2:=beq_iff_eq.mp h2
      have:n=1:=by have:(n:Int)=1:=h2;omega
      rw[this];exact(List.append_nil x)
     ·obtain rfl:x=[]:=List.eq_nil_of_length_eq_zero (beq_iff_eq.mp h2)
      simp
    rw[h3];exact aO.str x _
   ·have e:((List.replicate n x.toArray).foldl (·++·) #[])=(List.replicate n x).flatten.toArray:=Dz n #[]
    refine⟨?_,fin _ _ ?_ rfl ⟨rfl,rfl⟩⟩
    ·show(⟨(List.replicate n x.toArray).foldl (·++·) #[]⟩:Str).length ≤ sizeLine
     rw[e,len_str,show(List.replicate n x).flatten.length=n * x.length by simp]
     exact Nat.le_trans (Nat.mul_le_mul_left n (Nat.le_of_lt_succ g1)) (by show _ ≤ 16777216;omega)
    ·show aO _ _ (.str ⟨(List.replicate n x.toArray).foldl (·++·) #[]⟩ _) _
     rw[e];exact aO.str _ _
theorem MM (R:aC Γ.w H F.env c st s.heap) {op:Operator}{a b:Value}{x y z:FV} (pa:aO Γ.w c.B a x) (pb:aO Γ.w c.B b y) (hz:BS op x y=some z)
  (q:∀ c' v s',c.le c'→aC Γ.w H F.env c' st s'.heap→aO Γ.w c'.B v z→aS s s'→Q v s'):wpAny (model pw Γ.w) F.A (binaryOp op a b) Q E s:=by
 revert hz
 refine qP (P:=fun e=>e=some z→_) (fun i hi e=>ob e fun j hj e=>ob e fun k hk e=>?_) fun _=>qP (P:=fun e=>e=some z→_) (fun xs hx e=>ob e fun i hi e=>ob e fun n hn e=>aD e fun g0 e=>aD e fun g1 e=>aD e fun g2 e=>?_) fun _ e=>ob e fun xs hx e=>ob e fun ys hy e=>aD e fun g0 e=>aD e fun g1 e=>?_
 ·exact pa.iE hi fun t=>pb.iE hj fun u=>Lu (Γ:=Γ) hk (q c _ _ (.refl c) R (Option.some.inj e ▸ aO.int k _) ⟨rfl,rfl⟩)
 ·refine pa.sE hx fun t=>pb.iE hi fun u=>?_
  rw[DQ g0,lX hn]
  exact JP (eK g1) (eK g2) fun v s' f h z=>q c v s' (.refl c) (h ▸ R) (Option.some.inj e ▸ f) z
 ·refine pa.lE hx fun a₁ n₁ vs₁ ha ra=>pb.lE hy fun a₂ n₂ vs₂ hb rb=>?_
  rw[uU g0]
  refine P.add_list (R.b _ _ ha) (R.b _ _ hb) ?_ (by rw[List.size_toArray,List.size_toArray,ra.length,rb.length];exact cY g1)
  obtain⟨R',l,e'⟩:=R.newF { cls:=.type "list",data:=.seq (_++_) }
  exact q _ _ _ l R' (Option.some.inj e ▸ aO.lst (n:=0) (us:=vs₁++vs₂) (e'.trans (by rw[List.append_toArray])) ((aQ.append rb ra).mono l.b)) ⟨rfl,rfl⟩
theorem Jm {a b:Value}{x y:FV}{p:List Nat × List Nat}{op:Operator}{z:PV} (pa:aO Γ.w c.B a x) (pb:aO Γ.w c.B b y) (h:HC op x y=some p) (hz:rV p.1 p.2=some z) (q:∀ v s',aH Γ.w c v z→s'.heap=s.heap→aS s s'→Q v s'):wpAny (model pw Γ.w) F.A (binaryOp op a b) Q E s:=by
 refine aD h fun g0 h=>ob h fun i hi h=>ob h fun j hj h=>ob hz fun k hk hz'=>aD hk fun g1 hk'=>?_
 obtain rfl:=Option.some.inj h
 rw[uU g0]
 refine pa.sE hi fun t=>pb.sE hj fun u=>PyProof.Rows.add_str (fun t' tk=>?_) (cY g1)
 rw[uM]
 exact q _ _ (Option.some.inj hz' ▸ Option.some.inj hk' ▸ aH.str (i++j) t') rfl ⟨rfl,rfl⟩
end
end Mine
end
section
namespace Mine
theorem fA {α γ:Type}{x:Option α}{s:α→Option γ}{n:Option γ}{r:γ}{P:Prop} (h:oe x s n=some r) (k:∀ a,x=some a→s a=some r→P) (m:x=none→n=some r→P):P:=by
 cases x with
 | none=>exact m rfl h
 | some a=>exact k a rfl h
theorem nQ {β:Type}{b:Bool}{x y:Option β}{r:β}{P:Prop} (h:(bif b then x else y)=some r) (k:b=true→x=some r→P) (m:b=false→y=some r→P):P:=by
 cases b with
 | true=>exact k rfl h
 | false=>exact m rfl h
noncomputable def sG (w:World) (B:PM) (f:Option Value) (o:Option FV):Prop:=oe o (fun y=>∃ u,f=some u∧aO w B u y) (f=none)
section
variable {w:World}{B:PM}
theorem B5 {x:Int}{l:List (FV × FV)}:∀ {es:List DictEntry}{o:Option FV},nH w B es l→GD x l=some o →
  (∀ e ∈ es,∃ k:Int,(intKind pw w).is k e.key=true∧e.hash=(intKind pw w).hash k)∧sG w B ((es.find? fun e=>(intKind pw w).is x e.key).map (·.val)) o:=by
 induction l with
 | nil=>intro es o hd h;obtain rfl:es=[]:=hd;exact⟨iJ,Option.some.inj h ▸ rfl⟩
 | cons p l ih =>
  intro es o hd h
  obtain⟨e,r,rfl,⟨hk,hv⟩,hd⟩:∃ e r,es=e::r∧(n6 w e p.1∧aO w B e.val p.2)∧nH w B r l:=hd
  refine ob h fun y h1 h=>ob h fun o' h2 h=>?_
  obtain⟨i,j⟩:=ih hd h2
  obtain⟨t,q1,q2⟩:∃ t,e.key=.int y t∧e.hash=hashInt y:=by rw[lY h1]at hk;exact hk
  have q:(intKind pw w).is x e.key=(y == x):=by rw[q1];rfl
  refine⟨fun z hz=>(List.mem_cons.mp hz).elim (fun z=>⟨y,by rw[z,q1];exact beq_self_eq_true y,z ▸ q2⟩) (i z),Option.some.inj h ▸ ?_⟩
  cases g:y == x with
  | true=>rw[List.find?_cons_of_pos (p:=fun e:DictEntry=>(intKind pw w).is x e.key) (q.trans g)];exact⟨_,rfl,hv⟩
  | false=>rw[List.find?_cons_of_neg (p:=fun e:DictEntry=>(intKind pw w).is x e.key) (fun z=>nk5 (z.symm.trans (q.trans g)))];exact j
theorem BG {x:List Nat}{l:List (FV × FV)}:∀ {es:List DictEntry}{o:Option FV},nH w B es l→G6 x l=some o →
  (∀ e ∈ es,∃ k:Str,(PySem.strKind pw w).is k e.key=true∧e.hash=(PySem.strKind pw w).hash k)∧sG w B ((es.find? fun e=>(PySem.strKind pw w).is ⟨x.toArray⟩ e.key).map (·.val)) o:=by
 induction l with
 | nil=>intro es o hd h;obtain rfl:es=[]:=hd;exact⟨iJ,Option.some.inj h ▸ rfl⟩
 | cons p l ih =>
  intro es o hd h
  obtain⟨e,r,rfl,⟨hk,hv⟩,hd⟩:∃ e r,es=e::r∧(n6 w e p.1∧aO w B e.val p.2)∧nH w B r l:=hd
  refine ob h fun y h1 h=>ob h fun o' h2 h=>?_
  obtain⟨i,j⟩:=ih hd h2
  obtain⟨t,q1,q2⟩:∃ t,e.key=.str ⟨y.toArray⟩ t∧e.hash=hashStr w ⟨y.toArray⟩:=by rw[l9 h1]at hk;exact hk
  have q:(PySem.strKind pw w).is ⟨x.toArray⟩ e.key=gF y x:=by rw[q1];exact p9 y x
  refine⟨fun z hz=>(List.mem_cons.mp hz).elim (fun z=>⟨⟨y.toArray⟩,by rw[z,q1];exact beq_self_eq_true (⟨y.toArray⟩:Str),z ▸ q2⟩) (i z),Option.some.inj h ▸ ?_⟩
  cases g:gF y x with
  | true=>rw[List.find?_cons_of_pos (p:=fun e:DictEntry=>(PySem.strKind pw w).is ⟨x.toArray⟩ e.key) (q.trans g)];exact⟨_,rfl,hv⟩
  | false=>rw[List.find?_cons_of_neg (p:=fun e:DictEntry=>(PySem.strKind pw w).is ⟨x.toArray⟩ e.key) (fun z=>nk5 (z.symm.trans (q.trans g)))];exact j
inductive Gq (w:World) (B:PM) (h:Heap) (d:Addr) (k:Value) (o:Option FV):Prop where
 | mk (Kt:Type) (i:DecidableEq Kt) (knd:PySem.KeyKind pw w Kt) (kk:Kt) (f:Kt→Option Value) (hm:(d == sysModules)=false) (hk:knd.is kk k=true) (hf:Heap.MapOf knd h d f) (r:sG w B (f kk) o):Gq w B h d k o
@[elab_as_elim] theorem dgetE {h:Heap} (hb:∀ a o,B a=some o→h.get? a=some o) {v k:Value}{x y:FV}{es:List (FV × FV)}{o:Option FV}{P:Value→Prop} (pv:aO w B v y) (ey:qJ y=some es) (pk:aO w B k x) (e:wS x es=some o) (q:∀ d,Gq w B h d k o→P (.ref d)):P v:=by
 obtain⟨a,n,ds,rfl,hm,ha,hd⟩:=(uX ey ▸ pv).dctI
 refine q a (fA e (fun i hi e=>?_) fun _ e=>ob e fun s hs e=>?_)
 ·obtain⟨z1,z2⟩:=B5 hd e
  refine pk.iE hi fun t=>⟨Int,inferInstance,intKind pw w,i,fun k=>findBy (intKind pw w).is ds.toArray k,hm,beq_self_eq_true i,⟨_,_,_,hb _ _ ha,⟨rfl,rfl,rfl⟩,rfl,fun e he=>z1 e (by simpa using he),fun _=>rfl⟩,?_⟩
  unfold findBy;rw[List.find?_toArray];exact z2
 ·obtain⟨z1,z2⟩:=BG hd e
  refine pk.sE hs fun t=>⟨Str,inferInstance,PySem.strKind pw w,⟨s.toArray⟩,fun k=>findBy (PySem.strKind pw w).is ds.toArray k,hm,beq_self_eq_true (⟨s.toArray⟩:Str),⟨_,_,_,hb _ _ ha,⟨rfl,rfl,rfl⟩,rfl,fun e he=>z1 e (by simpa using he),fun _=>rfl⟩,?_⟩
  unfold findBy;rw[List.find?_toArray];exact z2
end
section
variable {Γ:Gm}{H:PM}{F:Fr}{cx:Cx}{c:Cf}{s:Shared}{st:St}{Q:Value→Shared→Prop}{E:Value→Shared→Prop}
theorem w3 {x:FV} (h:FM x=true):x=.none:=by
 cases x with
 | none=>rfl
 | _=>exact nk6 h
theorem aH.isNone {v:Value}{x:PV} (h:aH Γ.w c v x):(v == Value.none)=isNone x:=by
 cases x with
 | f x=>cases x with
  | none=>rw[h.fI.noneI];rfl
  | bool=>rw[h.fI.boolI];rfl
  | int=>rw[(h.fI.intsI).choose_spec];rfl
  | str=>rw[(h.fI.strI).choose_spec];rfl
  | tup=>obtain⟨_,_,_,rfl,_⟩:=h.fI.tupI;rfl
  | lst=>obtain⟨_,_,_,rfl,_⟩:=h.fI.lstI;rfl
  | obj=>obtain⟨_,_,_,_,rfl,_⟩:=h.fI.objI;rfl
  | dct=>obtain⟨_,_,_,rfl,_⟩:=h.fI.dctI;rfl
  | top a=>rw[show v=.ref a from h];rfl
  | typ n=>rw[show v=.type n.id from h];rfl
  | blt n=>rw[show v=.builtin n.id from h];rfl
 | ref=>rw[(h.refI).choose_spec.1];rfl
 | loc=>rw[(h.locI).choose_spec.1];rfl
theorem rZ {v:Value}{x:PV} (p:aH Γ.w c v x) (h:isNone x=true):v=.none:=beq_iff_eq.mp (p.isNone.trans h)
theorem Kq (R:aC Γ.w H F.env c st s.heap) {a b:Value}{x y:FV}{l:List FV}{r:Bool} (pa:aO Γ.w c.B a x) (pb:aO Γ.w c.B b y) (hl:jW y=some l) (hz:zU x l=some r) (q:Q (.bool r) s):wpAny (model pw Γ.w) F.A (compareOp .In a b) Q E s :=
 pb.lE hl fun d n vs hb rb=>fA hz (fun i hi e=>pa.iE hi fun t=>(pQ rb e).elim fun ns z=>in_list_ints ⟨_,R.b _ _ hb,rfl,_,rfl⟩ z.1 (z.2 ▸ q))
  fun _ e=>ob e fun s hs e=>pa.sE hs fun t=>(pF rb e).elim fun ns z=>in_list_strs ⟨_,R.b _ _ hb,rfl,_,rfl⟩ z.1 (z.2 ▸ q)
theorem Km (R:aC Γ.w H F.env c st s.heap) {a b:Value}{x y:FV}{l:List FV}{r:Bool} (pa:aO Γ.w c.B a x) (pb:aO Γ.w c.B b y) (hl:i9 y=some l) (hz:zU x l=some r) (q:Q (.bool r) s):wpAny (model pw Γ.w) F.A (compareOp .In a b) Q E s :=
 pb.tE hl fun d n vs hb rb=>fA hz (fun i hi e=>pa.iE hi fun t=>(pQ rb e).elim fun ns z=>in_tuple_ints ⟨_,R.b _ _ hb,rfl,_,rfl⟩ (by simpa using z.1) (z.2 ▸ q))
  fun _ e=>ob e fun s hs e=>pa.sE hs fun t=>(pF rb e).elim fun ns z=>in_tuple_strs ⟨_,R.b _ _ hb,rfl,_,rfl⟩ (by simpa using z.1) (z.2 ▸ q)
theorem DE (R:aC Γ.w H F.env c st s.heap) {a b:Value}{x y:FV}{l:List FV}{r:Bool} (pa:aO Γ.w c.B a x) (pb:aO Γ.w c.B b y) (hl:i9 y=some l) (hz:zU x l=some r) (q:Q (.bool (!r)) s):wpAny (model pw Γ.w) F.A (compareOp .NotIn a b) Q E s :=
 pb.tE hl fun d n vs hb rb=>fA hz (fun i hi e=>pa.iE hi fun t=>(pQ rb e).elim fun ns z=>notin_tuple_ints ⟨_,R.b _ _ hb,rfl,_,rfl⟩ (by simpa using z.1) (z.2 ▸ q))
  fun _ e=>ob e fun s hs e=>pa.sE hs fun t=>(pF rb e).elim fun ns z=>notin_tuple_strs ⟨_,R.b _ _ hb,rfl,_,rfl⟩ (by simpa using z.1) (z.2 ▸ q)
theorem pX {op:CmpOp}{a b:Value}{x y:FV}{r:Bool}{f:Int→Int→Bool} (pa:aO Γ.w c.B a x) (pb:aO Γ.w c.B b y) (hz:w6 x y f=some r) (q:Q (.bool r) s)
  (k:∀ i j t u,Q (.bool (f i j)) s→wpAny (model pw Γ.w) F.A (compareOp op (.int i t) (.int j u)) Q E s):wpAny (model pw Γ.w) F.A (compareOp op a b) Q E s :=
 ob hz fun i hi e=>ob e fun j hj e=>pa.iE hi fun t=>pb.iE hj fun u=>k i j t u (Option.some.inj e ▸ q)
theorem NE {a b:Value}{x y:FV}{r:Bool} (pa:aO Γ.w c.B a x) (pb:aO Γ.w c.B b y) (hz:O8 x y=some r) (q:Q (.bool r) s):wpAny (model pw Γ.w) F.A (compareOp .Eq a b) Q E s:=by
 cases x with
 | none=>exact aD hz fun h e=>by rw[pa.noneI,show b=.none from(w3 h ▸ pb:aO Γ.w c.B b .none)];exact EqNone.eq_none_none (Option.some.inj e ▸ q)
 | bool i=>exact ob hz fun j h e=>pb.bE h (by rw[pa.boolI];exact eq_bool (Option.some.inj e ▸ q))
 | int i=>exact ob hz fun j h e=>pa.iE rfl fun t=>pb.iE h fun u=>eq_int (Option.some.inj e ▸ q)
 | str i=>exact ob hz fun j h e=>pa.sE rfl fun t=>pb.sE h fun u=>eq_str (by rw[p9];exact Option.some.inj e ▸ q)
 | _=>exact nk3 hz
theorem NU {a b:Value}{x y:FV}{r:Bool} (pa:aO Γ.w c.B a x) (pb:aO Γ.w c.B b y) (hz:O7 x y=some r) (q:Q (.bool r) s):wpAny (model pw Γ.w) F.A (compareOp .NotEq a b) Q E s:=by
 cases x with
 | bool i=>exact ob hz fun j h e=>pb.bE h (by rw[pa.boolI];exact ne_bool (Option.some.inj e ▸ q))
 | int i=>exact ob hz fun j h e=>pa.iE rfl fun t=>pb.iE h fun u=>PyProof.Rows.ne_int (Option.some.inj e ▸ q)
 | str i=>exact ob hz fun j h e=>pa.sE rfl fun t=>pb.sE h fun u=>ne_str (by rw[show((⟨i.toArray⟩:Str) != (⟨j.toArray⟩:Str))=!gF i j from congrArg (!·) (p9 i j)];exact Option.some.inj e ▸ q)
 | _=>exact nk3 hz
theorem OB (R:aC Γ.w H F.env c st s.heap) {a b:Value}{x y:FV}{r:Bool} (pa:aO Γ.w c.B a x) (pb:aO Γ.w c.B b y) (hz:Gv x y=some r) (q:∀ s',s'.heap=s.heap→aS s s'→Q (.bool r) s'):wpAny (model pw Γ.w) F.A (compareOp .In a b) Q E s:=by
 have q0:=q s rfl (.refl s)
 refine fA hz (fun l hl e=>Kq R pa pb hl e q0) fun _ hz=>fA hz (fun l hl e=>Km R pa pb hl e q0) fun _ hz=>fA hz (fun es he e=>ob e fun o ho e=>?_) fun _ hz=>ob hz fun s' hs e=>ob e fun cc hc e=>?_
 ·refine dgetE R.b pb he pa ho fun d hd=>?_
  obtain⟨Kt,i,knd,kk,f,hm,hk,hf,hr⟩:=hd
  refine wpAny_in_of hk hm hf ?_
  have q1:=q { s with toks:=s.toks + 1 } rfl ⟨rfl,rfl⟩
  rw[← Option.some.inj e]at q1
  cases o with
  | none=>rw[show f kk=none from hr];exact q1
  | some y=>obtain⟨u,hu,_⟩:=hr;rw[hu];exact q1
 ·exact pa.sE hc fun t=>pb.sE hs fun u=>in_str (Option.some.inj e ▸ q0)
theorem RZ (j i:Nat):decide ([j] < [i])=Nat.blt j i:=by
 cases h:Nat.blt j i with
 | true=>exact decide_eq_true (List.cons_lt_cons_iff.mpr (.inl (eK h)))
 | false=>exact decide_eq_false fun q=>(List.cons_lt_cons_iff.mp q).elim (fun q=>nk6 (h.symm.trans (Nat.ble_eq_true_of_le q))) fun q=>absurd q.2 (List.not_lt_nil _)
theorem Kf (R:aC Γ.w H F.env c st s.heap) {op:CmpOp}{a b:Value}{x y:FV}{r:Bool} (pa:aO Γ.w c.B a x) (pb:aO Γ.w c.B b y) (hz:Gk op x y=some r)
  (q:∀ s',s'.heap=s.heap→aS s s'→Q (.bool r) s'):wpAny (model pw Γ.w) F.A (compareOp op a b) Q E s:=by
 have q0:=q s rfl (.refl s)
 cases op with
 | Eq=>exact NE pa pb hz q0
 | NotEq=>exact NU pa pb hz q0
 | Lt=>exact pX pa pb hz q0 fun _ _ _ _=>lt_int
 | LtE=>exact fA hz (fun x hx e=>ob e fun y hy e=>ob e fun i hi e=>ob e fun j hj e=>pa.sE hx fun t=>pb.sE hy fun u=>P.le_str (by rw[eA hi,eA hj];rw[show(!decide ([j] < [i]))=r from(congrArg (!·) (RZ j i)).trans (Option.some.inj e)];exact q0)) fun _ hz=>pX pa pb hz q0 fun _ _ _ _=>le_int
 | Gt=>exact pX pa pb hz q0 fun _ _ _ _=>gt_int
 | GtE=>exact pX pa pb hz q0 fun _ _ _ _=>PyProof.Rows.ge_int
 | In=>exact OB R pa pb hz q
 | NotIn=>exact ob hz fun l hl e=>ob e fun x hx e=>DE R pa pb hl hx (Option.some.inj e ▸ q0)
 | _=>exact nk3 hz
theorem tK (R:aC Γ.w H F.env c st s.heap) {op:CmpOp}{a b:Value}{x y:PV}{r:Bool} (pa:aH Γ.w c a x) (pb:aH Γ.w c b y) (hz:cM op x y=some r)
  (q:∀ s',s'.heap=s.heap→aS s s'→Q (.bool r) s'):wpAny (model pw Γ.w) F.A (compareOp op a b) Q E s:=by
 have go:Kj op x y=some r→wpAny (model pw Γ.w) F.A (compareOp op a b) Q E s:=fun hz=>ob hz fun x' hx e=>ob e fun y' hy e=>Kf R (pa.fE hx) (pb.fE hy) e q
 have q0:=q s rfl (.refl s)
 cases op with
 | Is=>exact aD hz fun h e=>by rw[rZ pb h];refine is_none_gen ?_;rw[pa.isNone];exact Option.some.inj e ▸ q0
 | IsNot=>exact aD hz fun h e=>by rw[rZ pb h];refine isnot_none_gen ?_;rw[pa.isNone];exact Option.some.inj e ▸ q0
 | _=>exact go hz
theorem HA {v:Value}{x:PV}{b:Bool}{Q:Bool→Shared→Prop} (p:aH Γ.w c v x) (h:s8 x=some b) (q:Q b s):wpAny (model pw Γ.w) F.A (truthy v) Q E s:=by
 refine ob h fun y hy h=>?_
 have p:=p.fE hy
 cases y with
 | none=>rw[p.noneI];exact truthy_none (Option.some.inj h ▸ q)
 | bool b'=>rw[p.boolI];exact wpAny_truthy_bool (Option.some.inj h ▸ q)
 | _=>exact nk3 h
end
end Mine
end
section
namespace Mine
section
variable {Γ:Gm}{H:PM}{F:Fr}{cx:Cx}{c:Cf}{s:Shared}{st:St}{ih:Cx→Expr→St→Pg (PV × St)}
theorem Kx (hI:cA Γ H ih) (hF:aV Γ F cx) {a b:Expr}{op:Operator}{p:Pos}:TG Γ (aH Γ.w) H F st ((ih cx a st).bind fun r=>(ih cx b r.2).bind fun q=>J3 cx op r.1 q.1 q.2) (eval (.BinOp a op b p) F.env):=by
 intro c s Q E o R g
 refine wpAny_BinOp (g.bind (hI F cx a st hF) o R fun w₁ st₁ c₁ v₁ s₁ _ l₁ o₁ R₁ p₁ z₁ g=>?_)
 refine g.bind (hI F cx b st₁ hF) o₁ R₁ fun w₂ st₂ c₂ v₂ s₂ _ l₂ o₂ R₂ p₂ z₂ g=>g.opt fun x hx g=>g.opt fun y hy g=>?_
 have px:=(p₁.mono l₂).fE hx
 have py:=p₂.fE hy
 refine g.oe (fun q hq g=>?_) fun _ g=>g.qV fun z hz g=>ob hz fun k hk e=>MM R₂ px py hk fun c₃ v s' l₃ R₃ fv zz=>g.done' l₃ R₃ (Option.some.inj e ▸ fv) zz
 have g:aG Γ (aH Γ.w) H F (qV 0 (fun _=>rV q.1 q.2) st₂ fun v=>.ok (v,st₂)) c₂ s₂ Q E:=⟨g.ok,g.raise,g.go⟩
 exact g.qV fun z hz g=>Jm px py hq hz fun v s' pv e zz=>g.done' (.refl _) (e ▸ R₂) pv zz
noncomputable def VC (c:Cf) (v:Value) (b:Bool):Prop:=v=.bool b
theorem EM (hI:cA Γ H ih) (hF:aV Γ F cx) (pos:Pos) (ops:List CmpOp):∀ (es:List Expr) (left:PV) (st:St) (lv:Value) (c:Cf) (s:Shared) (Q:Value→Shared→Prop) (E:Value→Shared→Prop),
  ops.length=es.length→Ok Γ H F c→aC Γ.w H F.env c st s.heap→aH Γ.w c lv left→aG Γ VC H F (BH ih cx ops es left st) c s Q E→wpAny (model pw Γ.w) F.A (compareChain pos lv ops (evalEach es F.env)) Q E s:=by
 induction ops with
 | nil=>exact fun _ _ _ _ _ _ _ _ _ _ _ _ g=>g.stuck
 | cons op ops ihr =>
  intro es left st lv c s Q E hl o R pl g
  cases es with
  | nil=>exact g.stuck
  | cons e es =>
   cases ops with
   | nil =>
    obtain rfl:es=[]:=List.eq_nil_of_length_eq_zero (Nat.succ.inj hl).symm
    exact chain_last (aG.bind g (hI F cx e st hF) o R fun w₁ st₁ c₁ v₁ s₁ _ l₁ o₁ R₁ p₁ z₁ g=>g.qB fun b hb g=>tK R₁ (pl.mono l₁) p₁ hb fun s' e z=>aG.done' g (.refl _) (e ▸ R₁) rfl z)
   | cons op' ops=>cases es with
    | nil=>exact absurd hl nofun
    | cons e' es =>
     refine chain_link (aG.bind g (hI F cx e st hF) o R fun w₁ st₁ c₁ v₁ s₁ _ l₁ o₁ R₁ p₁ z₁ g=>g.qB fun b hb g=>?_)
     refine tK R₁ (pl.mono l₁) p₁ hb fun s' e z=>wpAny_truthy_bool ?_
     have R':aC Γ.w H F.env c₁ st₁ s'.heap:=e ▸ R₁
     have g:=aG.mono g (.refl _) z
     cases b with
     | true=>exact ihr _ _ _ _ _ _ _ _ (Nat.succ.inj hl) o₁ R' p₁ g
     | false=>exact aG.done g R' rfl
theorem EY (hI:cA Γ H ih) (hF:aV Γ F cx) (pos:Pos) (ops:List CmpOp):∀ (es:List Expr) (left:PV) (st:St) (lv:Value) (c:Cf) (s:Shared) (Q:Bool→Shared→Prop) (E:Value→Shared→Prop),
  ops.length=es.length→Ok Γ H F c→aC Γ.w H F.env c st s.heap→aH Γ.w c lv left→aG Γ VB H F (BH ih cx ops es left st) c s Q E→wpAny (model pw Γ.w) F.A (testChain pos lv ops (evalEach es F.env)) Q E s:=by
 induction ops with
 | nil=>exact fun _ _ _ _ _ _ _ _ _ _ _ _ g=>g.stuck
 | cons op ops ihr =>
  intro es left st lv c s Q E hl o R pl g
  cases es with
  | nil=>exact g.stuck
  | cons e es =>
   cases ops with
   | nil =>
    obtain rfl:es=[]:=List.eq_nil_of_length_eq_zero (Nat.succ.inj hl).symm
    exact test_last (aG.bind g (hI F cx e st hF) o R fun w₁ st₁ c₁ v₁ s₁ _ l₁ o₁ R₁ p₁ z₁ g=>g.qB fun b hb g=>tK R₁ (pl.mono l₁) p₁ hb fun s' e z=>wpAny_truthy_bool (aG.done' g (.refl _) (e ▸ R₁) rfl z))
   | cons op' ops=>cases es with
    | nil=>exact absurd hl nofun
    | cons e' es =>
     refine test_link (aG.bind g (hI F cx e st hF) o R fun w₁ st₁ c₁ v₁ s₁ _ l₁ o₁ R₁ p₁ z₁ g=>g.qB fun b hb g=>?_)
     refine tK R₁ (pl.mono l₁) p₁ hb fun s' e z=>wpAny_truthy_bool ?_
     have R':aC Γ.w H F.env c₁ st₁ s'.heap:=e ▸ R₁
     have g:=aG.mono g (.refl _) z
     cases b with
     | true=>exact ihr _ _ _ _ _ _ _ _ (Nat.succ.inj hl) o₁ R' p₁ g
     | false=>exact aG.done g R' rfl
theorem B4 (hI:cA Γ H ih) (hF:aV Γ F cx) {a:Expr}{ops:List CmpOp}{es:List Expr}{p:Pos} :
  TG Γ (aH Γ.w) H F st ((ih cx a st).bind fun r=>(wL ih cx r.1 ops es r.2).bind fun b=>.ok (.f (.bool b.1),b.2)) (eval (.Compare a ops es p) F.env):=by
 intro c s Q E o R g
 show wpAny _ _ (do compareChain p (← eval a F.env) ops (markedEach ops es (evalEach es F.env))) _ _ _
 refine wpAny_bind (g.bind (hI F cx a st hF) o R fun w₁ st₁ c₁ v₁ s₁ _ l₁ o₁ R₁ p₁ z₁ g=>?_)
 refine g.bindC (V₁:=VC) (fun g=>g.gp fun h1 g=>g.gp fun h2 g=>?_) o₁ fun b st₂ c₂ v s₂ _ l₂ o₂ R₂ q z g=>g.done R₂ (q ▸ aH.bool b)
 rw[markedEach_of_false _ _ _ (gV h1)]
 exact EM hI hF p ops es w₁ st₁ v₁ c₁ s₁ _ E (Nat.eq_of_beq_eq_true h2) o₁ R₁ p₁ g
theorem C3 (hI:cA Γ H ih) (hF:aV Γ F cx) (pos:Pos) (op:BoolOp) (es:List Expr):∀ st:St,TG Γ (aH Γ.w) H F st (t0 ih cx op es st) (boolOp pos op (evalEach es F.env)):=by
 induction es with
 | nil=>exact fun st c s Q E o R g=>g.stuck
 | cons e r ihr =>
  cases r with
  | nil=>exact fun st c s Q E o R g=>hI F cx e st hF c s Q E o R g
  | cons e' r =>
   intro st c s Q E o R g
   show wpAny _ _ (do
    let v ← eval e F.env
    standAt pos
    let t ← holding [v] (truthy v)
    match op,t with
    | .And,false | .Or,true=>pure v
    | _,_=>boolOp pos op (evalEach (e'::r) F.env)) Q E s
   refine wpAny_bind (aG.bind (k:=fun a=>opt (s8 a.1) fun t=>bif wD op t then .ok a else t0 ih cx op (e'::r) a.2) g (hI F cx e st hF) o R fun w₁ st₁ c₁ v₁ s₁ _ l₁ o₁ R₁ p₁ z₁ g=>?_)
   refine wpAny_bind (wpAny_standAt (wpAny_bind (wpAny_holding (g.opt fun b hb g=>HA p₁ hb ?_))))
   cases op<;>cases b
   ·exact wpAny_pure (g.done R₁ p₁)
   ·exact ihr st₁ c₁ s₁ Q E o₁ R₁ g
   ·exact ihr st₁ c₁ s₁ Q E o₁ R₁ g
   ·exact wpAny_pure (g.done R₁ p₁)
theorem I3 {f:Expr→St→Pg (Bool × St)} (hT:∀ e st,TG Γ VB H F st (f e st) (PySem.isTrue e F.env (eval e F.env))) (op:BoolOp) (es:List Expr):∀ st:St,TG Γ VB H F st (Fb f op es st) (allTrue op es F.env):=by
 induction es with
 | nil =>
  intro st c s Q E o R g
  show wpAny _ _ (pure (op == .And)) Q E s
  cases op<;>exact wpAny_pure (g.done R rfl)
 | cons e r ihr =>
  intro st c s Q E o R g
  rw[arm_allTrue_cons]
  refine wpAny_bind (aG.bind (k:=fun a=>bif wD op a.1 then .ok a else Fb f op r a.2) g (hT e st) o R fun w₁ st₁ c₁ v₁ s₁ _ l₁ o₁ R₁ p₁ z₁ g=>?_)
  obtain rfl:v₁=w₁:=p₁
  cases op<;>cases v₁
  ·exact wpAny_pure (g.done R₁ rfl)
  ·exact ihr st₁ c₁ s₁ Q E o₁ R₁ g
  ·exact ihr st₁ c₁ s₁ Q E o₁ R₁ g
  ·exact wpAny_pure (g.done R₁ rfl)
theorem C9 (hI:cA Γ H ih) (hF:aV Γ F cx) {e:Expr} (he:PySem.isTrue e F.env (eval e F.env)=(do
   let v ← eval e F.env
   standAt e.pos
   holding [v] (truthy v))):TG Γ VB H F st (fX ih cx e st) (PySem.isTrue e F.env (eval e F.env)):=by
 intro c s Q E o R g
 rw[he]
 exact wpAny_bind (aG.bind g (hI F cx e st hF) o R fun w₁ st₁ c₁ v₁ s₁ _ l₁ o₁ R₁ p₁ z₁ g=>wpAny_bind (wpAny_standAt (wpAny_holding (g.opt fun b hb g=>HA p₁ hb (g.done R₁ rfl)))))
theorem vQ (hI:cA Γ H ih) (hF:aV Γ F cx) (k:Nat):∀ (e:Expr) (st:St),TG Γ VB H F st (wQ ih cx k e st) (PySem.isTrue e F.env (eval e F.env)):=by
 induction k with
 | zero=>exact fun e st c s Q E o R g=>g.stuck
 | succ k ihk =>
  intro e st
  cases e with
  | UnaryOp op x p =>
   cases op with
   | Not=>exact fun c s Q E o R g=>wpAny_isTrue_Not (aG.bind g (ihk x st) o R fun w₁ st₁ c₁ v₁ s₁ _ l₁ o₁ R₁ p₁ z₁ g=>g.done R₁ (congrArg (!·) p₁))
   | _=>exact C9 hI hF rfl
  | BoolOp op es p=>exact fun c s Q E o R g=>wpAny_isTrue_BoolOp (I3 ihk op es st c s Q E o R g)
  | IfExp=>exact fun c s Q E o R g=>g.stuck
  | Compare a ops es p =>
   intro c s Q E o R g
   rw[arm_isTrue_Compare]
   refine wpAny_bind (aG.bind g (hI F cx a st hF) o R fun w₁ st₁ c₁ v₁ s₁ _ l₁ o₁ R₁ p₁ z₁ g=>g.gp fun h1 g=>g.gp fun h2 g=>?_)
   rw[markedEach_of_false _ _ _ (gV h1)]
   exact EY hI hF p ops es w₁ st₁ v₁ c₁ s₁ Q E (Nat.eq_of_beq_eq_true h2) o₁ R₁ p₁ g
  | _=>exact C9 hI hF rfl
theorem EA (hI:cA Γ H ih) (hF:aV Γ F cx) {k:Nat}{t a b:Expr}{p:Pos}:TG Γ (aH Γ.w) H F st ((wQ ih cx k t st).bind fun r=>bif r.1 then ih cx a r.2 else ih cx b r.2) (eval (.IfExp t a b p) F.env):=by
 intro c s Q E o R g
 refine wpAny_IfExp (g.bind (vQ hI hF k t st) o R fun w₁ st₁ c₁ v₁ s₁ _ l₁ o₁ R₁ p₁ z₁ g=>?_)
 obtain rfl:v₁=w₁:=p₁
 cases v₁ with
 | true=>exact hI F cx a st₁ hF c₁ s₁ Q E o₁ R₁ g
 | false=>exact hI F cx b st₁ hF c₁ s₁ Q E o₁ R₁ g
theorem Dk {op:UnaryOp} (h:v4 op=true):op=.USub:=by cases op<;>first | rfl | exact nk6 h
theorem F9 (hI:cA Γ H ih) (hF:aV Γ F cx) {op:UnaryOp}{a:Expr}{p:Pos}:TG Γ (aH Γ.w) H F st (gp (v4 op) ((ih cx a st).bind fun r=>opt (mX r.1) fun i=>.ok (.f (.int (-i)),r.2))) (eval (.UnaryOp op a p) F.env) :=
 fun c s Q E o R g=>g.gp fun hs g=>by
  rw[Dk hs]
  exact wpAny_UnaryOp (g.bind (hI F cx a st hF) o R fun w₁ st₁ c₁ v₁ s₁ _ l₁ o₁ R₁ p₁ z₁ g=>g.opt fun i hi g=>p₁.iE hi fun t=>neg_int (g.done' (.refl _) R₁ (.int _ _) ⟨rfl,rfl⟩))
end
end Mine
end
section
namespace Mine
theorem DF (n a:Str) (t:Tok):(Value.str n t).isStr a=(n == a):=rfl
theorem zM {e:DictEntry}{n a:Str}{t:Tok}{r:List DictEntry} (hk:e.key=.str n t) (z:n ≠ a):W.getL a (e::r)=W.getL a r:=by
 unfold W.getL
 rw[List.find?_cons_of_neg (p:=fun x:DictEntry=>x.key.isStr a) (by show ¬ e.key.isStr a=true;rw[hk];exact fun y=>z (beq_iff_eq.mp y)),List.any_cons,show e.refKey=false by unfold DictEntry.refKey;rw[hk],Bool.false_or]
theorem fJ.getL {α:Type}{R:Value→α→Prop}{a:Str}{y:α}{fs:List (Str × α)}:∀ {es:List DictEntry},fJ R es fs→lk a fs=some y→∃ v,W.getL a es=some (some v)∧R v y:=by
 induction fs with
 | nil=>exact fun _ h=>nk3 h
 | cons x r ih =>
  intro es h q
  obtain⟨e,es,rfl,⟨⟨t,hk⟩,p⟩,h⟩:=h.cI
  refine zO q (fun z q=>⟨e.val,?_,Option.some.inj q ▸ p⟩) fun z q=>?_
  ·unfold W.getL
   rw[List.find?_cons_of_pos (p:=fun x:DictEntry=>x.key.isStr a) (by show e.key.isStr a=true;rw[hk,z];exact beq_self_eq_true x.1)]
  ·rw[zM hk fun y=>z y.symm];exact ih h q
theorem fJ.noKey {α:Type}{R:Value→α→Prop}{a:Str}{fs:List (Str × α)}:∀ {es:List DictEntry},fJ R es fs→lk a fs=none→W.getL a es=some none:=by
 induction fs with
 | nil=>intro es h _;obtain rfl:es=[]:=h;rfl
 | cons x r ih =>
  intro es h q
  obtain⟨e,es,rfl,⟨⟨t,hk⟩,p⟩,h⟩:=h.cI
  exact zO q (fun z q=>nk4 q) fun z q=>by rw[zM hk fun y=>z y.symm];exact ih h q
theorem iM.g {w:World}{B:PM}{fs:List (Str × FV)}:∀ {es:List DictEntry},iM w B es fs→fJ (aO w B) es fs:=by
 induction fs with
 | nil=>exact fun h=>h
 | cons x r ih=>exact fun {es} (h:∃ e r',es=e::r'∧((∃ t,e.key=.str x.1 t)∧aO w B e.val x.2)∧iM w B r' r)=>h.imp fun e h=>h.imp fun r h=>⟨h.1,h.2.1,ih h.2.2⟩
theorem iA.frozen {w:World}{c:Cf}{fs:List (Str × PV)}:∀ {es:List DictEntry}{ys:List (Str × FV)},iA w c es fs→nT fs=some ys→iM w c.B es ys:=by
 induction fs with
 | nil=>intro es ys h e;rw[← Option.some.inj e];exact h
 | cons x r ih =>
  intro es ys h e
  obtain⟨d,es,rfl,⟨hk,p⟩,h⟩:=fJ.cI h
  exact ob e fun y hy e=>ob e fun zs hz e=>Option.some.inj e ▸ ⟨d,es,rfl,⟨hk,p.fE hy⟩,ih h hz⟩
section
variable {w:World}{H:PM}{env:Env}{c:Cf}{st:St}{h h':Heap}{v:Value}
theorem Pt {ow:Addr→Option bZ}{k:Nat}{sl:Slot} (h:tT ow k sl):ow sl.addr=some (.g k):=by
 cases sl with
 | o a d=>exact h.1
 | l a=>exact h
inductive OX (w:World) (c:Cf) (h:Heap) (k:Nat) (m:MO) (v:Value):Prop where
 | mk (sl:Slot) (o:Obj) (hv:v=.ref sl.addr) (hS:c.S[k]? = some sl) (ow:tT c.ow k sl) (get:h.get? sl.addr=some o) (is:jD w c sl o m):OX w c h k m v
theorem aC.gAt (R:aC w H env c st h) {k:Nat}{m:MO} (p:aH w c v (.ref k)) (hk:st.g[k]? = some m):OX w c h k m v:=by
 obtain⟨sl,rfl,hS⟩:=p.refI
 have ow:=R.ix.g k sl hS
 obtain⟨o,e,C6,q1,_,q3⟩:=R.owG (Pt ow)
 obtain rfl:=Option.some.inj (hS.symm.trans q1)
 exact⟨sl,o,rfl,hS,ow,e,q3 m hk⟩
@[elab_as_elim] theorem aC.iE {P:Value→Prop}{k:Nat}{x:PV}{q:Nat × List (Str × PV)} (R:aC w H env c st h) (p:aH w c v x) (hx:sM x=some k) (hk:jK st.g k=some q)
  (f:∀ a d es n,c.S[k]? = some (.o a d)→c.ow a=some (.g k)→c.ow d=some (.d k)→h.get? a=some (instObj q.1 d)→h.get? d=some (dictOf es n)→iA w c es q.2→P (.ref a)):P v:=by
 rw[pK hx]at p
 have hk:=nZ hk
 obtain⟨sl,o,rfl,hS,ow,e,a,d,rfl,rfl⟩:=R.gAt p hk
 obtain⟨od,e2,_,q1,q2⟩:=R.owG ow.2
 obtain⟨es,n,rfl,q⟩:=q2 _ _ hk
 exact f a d es n hS ow.1 ow.2 e e2 q
@[elab_as_elim] theorem aC.lE {P:Value→Prop}{k:Nat}{x:PV}{xs:List FV} (R:aC w H env c st h) (p:aH w c v x) (hx:nY x=some k) (hk:f8 st.l k=some xs)
  (f:∀ a us n,c.L[k]? = some a→c.ow a=some (.l k)→h.get? a=some (PySem.W.listOf us.toArray n)→aQ w c.B us xs→P (.ref a)):P v:=by
 rw[uQ hx]at p
 have hk:=fQ hk
 obtain⟨a,rfl,hL⟩:=p.locI
 have ow:=R.ix.l k a xs hL hk
 obtain⟨o,e,_,q⟩:=R.owG ow
 obtain⟨us,n,rfl,q2⟩:=q xs hk
 exact f a us n hL ow e q2
@[elab_as_elim] theorem aC.itE {P:Value→Prop}{x:PV}{xs:List FV} (R:aC w H env c st h) (p:aH w c v x) (e:fY x st=some xs) (f:∀ a us n,h.get? a=some (PySem.W.listOf us.toArray n)→aQ w c.B us xs→P (.ref a)):P v:=by
 cases x with
 | f x=>exact p.fI.lE e fun a n us ha q=>f a us n (R.b _ _ ha) q
 | loc k=>exact R.lE p rfl e fun a us n _ _ ha q=>f a us n ha q
 | ref k =>
  obtain⟨sl,o,rfl,_,_,get,a,us,n,rfl,rfl,q⟩:=R.gAt p (fQ e)
  exact f a us n get q
end
section
variable {Γ:Gm}{H:PM}{F:Fr}{cx:Cx}{c:Cf}{s:Shared}{st:St}{Q:Value→Shared→Prop}{E:Value→Shared→Prop}{ih:Cx→Expr→St→Pg (PV × St)}
theorem Bt {v:Value}{w:PV} (p:aH Γ.w c v w) (h:vV w=true):handedIn v=true:=by
 cases w with
 | f x=>cases x with
  | none=>rw[p.fI.noneI];rfl
  | bool=>rw[p.fI.boolI];rfl
  | int=>exact p.fI.iE rfl fun t=>rfl
  | str=>exact p.fI.sE rfl fun t=>rfl
  | tup=>exact p.fI.tE rfl fun _ _ _ _ _=>rfl
  | lst=>exact p.fI.lE rfl fun _ _ _ _ _=>rfl
  | obj=>obtain⟨_,_,_,_,rfl,_⟩:=p.fI.objI;rfl
  | dct=>obtain⟨_,_,_,rfl,_⟩:=p.fI.dctI;rfl
  | top a=>rw[show v=.ref a from p];rfl
  | typ n=>rw[show v=.type n.id from p];rfl
  | blt=>exact nk6 h
 | ref=>obtain⟨_,rfl,_⟩:=p.refI;rfl
 | loc=>obtain⟨_,rfl,_⟩:=p.locI;rfl
theorem x0 (hK:cS Γ.w Γ.K Γ.T) (KI:Γ.K.In s.heap) {x d C n:Nat}{a:Str}{u:Value}{y:PV}{es:List DictEntry} (hf:mW Γ.T C a=true) (h1:s.heap.get? x=some (instObj C d)) (h2:s.heap.get? d=some (dictOf es n)) (e:W.getL a es=some (some u)) (pu:aH Γ.w c u y) (hb:vV y=true)
  (q:∀ s',s'.heap=s.heap→aS s s'→Q u s'):wpAny (model pw Γ.w) F.A (getAttr (.ref x) a true) Q E s:=by
 obtain⟨g1,g2,⟨attr,g3,g4⟩,_⟩:=hK.fld C a hf
 exact get_value KI (od:=some (dictOf es n)) ⟨h1,rfl,rfl,h2⟩ (plainGet_of g1).1 (findObj_own g2 g3 g4 e) (Bt pu hb) (q _ rfl ⟨rfl,rfl⟩)
theorem CZ (hK:cS Γ.w Γ.K Γ.T) (o:Ok Γ H F c) (R:aC Γ.w H F.env c st s.heap) {v:Value}{x y:PV}{a:Str} (p:aH Γ.w c v x) (h:yF Γ.T x a st=some y)
  (q:∀ u s',aH Γ.w c u y→s'.heap=s.heap→aS s s'→Q u s'):wpAny (model pw Γ.w) F.A (getAttr v a true) Q E s:=by
 have KI:=o.kin R
 cases x with
 | f x =>
  refine ob h fun r hr h=>aD h fun hf h=>ob h fun y' hy h=>aD h fun hb h=>?_
  obtain⟨x,d,n,es,rfl,h1,h2,h3⟩:=aO.objI (CO hr ▸ p.fI)
  obtain⟨u,e1,e2⟩:=h3.g.getL hy
  exact x0 hK KI hf (R.b _ _ h1) (R.b _ _ h2) e1 (c:=c) (y:=.f y') e2 hb fun s' e z=>q u s' (Option.some.inj h ▸ e2) e z
 | ref k =>
  refine ob h fun r hr h=>aD h fun hf h=>ob h fun y' hy h=>aD h fun hb h=>R.iE p rfl hr fun x d es n _ _ _ h1 h2 h3=>?_
  obtain⟨u,e1,e2⟩:=fJ.getL h3 hy
  exact x0 hK KI hf h1 h2 e1 e2 hb fun s' e z=>q u s' (Option.some.inj h ▸ e2) e z
 | loc=>exact nk3 h
theorem y8 {o:Expr}{a:Str}{env:Env} (h:sA o=true) (x:Sem Value):attributeBase o a env x=x:=by
 cases o with
 | Call f args ks p=>cases f with
  | Name=>cases args with
   | nil=>cases ks with
    | nil=>exact nk6 h
    | cons=>rfl
   | cons=>rfl
  | _=>rfl
 | _=>rfl
theorem Hg (hK:cS Γ.w Γ.K Γ.T) (hI:cA Γ H ih) (hF:aV Γ F cx) {e:Expr}{a:Str}{p:Pos}:TG Γ (aH Γ.w) H F st (gp (sA e) ((ih cx e st).bind fun r=>opt (yF Γ.T r.1 a r.2) fun w=>.ok (w,r.2))) (eval (.Attribute e a p) F.env) :=
 fun c s Q E o R g=>g.gp fun hb g=>Attribute_any_ (aG.bind g (hI F cx e st hF) o R fun w₁ st₁ c₁ v₁ s₁ _ l₁ o₁ R₁ p₁ z₁ g=>g.opt fun y hy g=>CZ hK o₁ R₁ p₁ hy fun u s' pu e z=>aG.done' g (.refl _) (e ▸ R₁) pu z) (by rw[arm_eval_Attribute,y8 hb])
theorem tR (slice:Expr) (v i:Value):∃ ops,subscripted slice false v i=operate ops (getItem v i):=by
 unfold subscripted
 cases slice with
 | Slice a b c p=>cases c<;>exact⟨_,rfl⟩
 | _=>exact⟨_,rfl⟩
structure qL (i:Int) (n j:Nat):Prop where
 lt:j < n
 e:(0 ≤ i∧i=(j:Int))∨(i < 0∧i + (n:Int)=(j:Int))
 b1 : -(2 ^ 63) ≤ i
 b2:i < 2 ^ 63
theorem rP {i:Int}{n j:Nat} (h:B9 i n=some j):qL i n j:=by
 cases i with
 | ofNat k =>
  refine aD h fun h1 h=>aD h fun h2 h=>?_
  obtain rfl:=Option.some.inj h
  have:=Int.ofNat_le.mpr (Nat.le_of_ble_eq_true h2)
  exact⟨eK h1,.inl ⟨Int.natCast_nonneg k,rfl⟩,Int.le_trans (by decide) (Int.natCast_nonneg k),Int.lt_of_le_of_lt this (by decide)⟩
 | negSucc k =>
  refine aD h fun h1 h=>aD h fun h2 h=>?_
  obtain rfl:=Option.some.inj h
  have:=Nat.le_of_ble_eq_true h2
  exact⟨Nat.sub_lt (Nat.lt_of_le_of_lt (Nat.zero_le k) (eK h1)) (Nat.succ_pos k),.inr ⟨Int.negSucc_lt_zero k,Int.subNatNat_of_le (eK h1)⟩,by lia,Int.lt_trans (Int.negSucc_lt_zero k) (by decide)⟩
theorem qL.idx {i:Int}{n j:Nat} (h:qL i n j):seqIndex? i n=some j:=by
 have e:(if i < 0 then i + (n:Int) else i)=(j:Int):=h.e.elim (fun q=>(if_neg (Int.not_lt.mpr q.1)).trans q.2) fun q=>(if_pos q.1).trans q.2
 show(if (decide (0 ≤ (if i < 0 then i + (n:Int) else i))&&decide ((if i < 0 then i + (n:Int) else i) < n))=true then some (if i < 0 then i + (n:Int) else i).toNat else none)=_
 rw[e,if_pos (by rw[decide_eq_true (Int.natCast_nonneg j),decide_eq_true (Int.ofNat_lt.mpr h.lt)];rfl)];rfl
theorem C1 {a:Addr}{us:List Value}{n:Nat}{i:Int}{t:Tok}{j:Nat}{u:Value}{A:Around} (h:s.heap.get? a=some (PySem.W.listOf us.toArray n)) (hp:qL i us.length j) (hu:us[j]? = some u) (q:Q u s):wpAny (model pw Γ.w) A (getItem (.ref a) (.int i t)) Q E s:=by
 have hl:s.heap.IsList a us.toArray:=⟨_,h,rfl,_,rfl⟩
 rcases hp.e with ⟨e1,e⟩ | ⟨e1,e⟩
 ·subst e;exact wpAny_getItem_list hl e1 hp.b2 (x:=u) ((List.getElem?_toArray ..).trans hu) q
 ·have e:i + (us.toArray.size:Int)=(j:Int):=e
  exact wpAny_getItem_list_neg hl e1 (Int.neg_le_of_neg_le (by lia)) hp.b1 (x:=u) (by rw[e];exact(List.getElem?_toArray ..).trans hu) q
theorem Ks (R:aC Γ.w H F.env c st s.heap) {v vi:Value}{x i y:PV} (p:aH Γ.w c v x) (pi:aH Γ.w c vi i) (h:bJ x i st=some y) {value slice:Expr}
  (q:∀ u s',aH Γ.w c u y→s'.heap=s.heap→aS s s'→Q u s'):wpAny (model pw Γ.w) F.A (subscriptTail value slice v vi) Q E s:=by
 obtain⟨ops,hops⟩:=tR slice v vi
 revert hops
 refine ob h fun k hk h=>fA h (fun es he h=>fR he fun x' hx he=>ob h fun oo ho h=>?_) fun _ h=>ob h fun i' hi h=>(pi.fE hk).iE hi fun t=>fA h (fun s' hs h=>ob h fun j hj h=>ob h fun ch hch h=>?_) fun _ h=>fA h (fun l hl h=>fR hl fun x' hx hl=>ob h fun j hj h=>ob h fun z hz h=>?_) fun _ h=>ob h fun l hl h=>ob h fun j hj h=>ob h fun z hz h=>?_
 ·refine ob h fun y' hy h=>dgetE R.b (p.fE (hx ▸ rfl)) he (pi.fE hk) ho fun d hd hops=>?_
  obtain⟨Kt,i,knd,kk,f,hm,hk,hf,hr⟩:=hd
  rw[hy]at hr
  obtain⟨u,hu,fu⟩:=hr
  exact tail_any hf.typeIs _root_.PySem.F.slot_dict_getitem.lookup (wpAny_getItem_of hk hf hu (q _ _ (Option.some.inj h ▸ fu) rfl ⟨rfl,rfl⟩)) hops
 ·refine p.sE hs fun t' hops=>?_
  have pl:=rP hj
  refine tail_any (typeIs_str s _ _) _root_.PySem.F.slot_str_getitem.lookup (P.getItem_str (c:=ch) ?_ ?_ (q _ _ (Option.some.inj h ▸ .str [ch] _) rfl ⟨rfl,rfl⟩)) hops
  ·rw[decide_eq_false (Int.not_lt.mpr pl.b1),decide_eq_false (Int.not_le.mpr pl.b2)];rfl
  ·rw[len_str,pl.idx,Option.bind_some,List.getElem?_toArray,← nD];exact hch
 ·refine(p.fE (hx ▸ rfl)).tE hl fun a n us hb rb hops=>?_
  obtain⟨u,hu,fu⟩:=rb.get ((nD _ _).symm.trans hz)
  have ht:IsTup s.heap a us.toArray:=⟨_,R.b _ _ hb,rfl,_,rfl⟩
  have pl:=rP hj
  exact tail_any ht.typeIs slot_tuple_getitem.lookup (getItem_tuple ht pl.b1 pl.b2 (by rw[List.size_toArray,rb.length];exact pl.idx) (by rw[List.getElem?_toArray];exact hu) (q _ _ (Option.some.inj h ▸ aH.f fu) rfl (.refl s))) hops
 ·refine R.itE p hl fun a us n hb rb hops=>?_
  obtain⟨u,hu,fu⟩:=rb.get ((nD _ _).symm.trans hz)
  exact tail_any (T := "list") ⟨_,hb,rfl⟩ slot_list_getitem.lookup (C1 (Γ:=Γ) hb (rb.length ▸ rP hj) hu (q _ _ (Option.some.inj h ▸ fu) rfl (.refl s))) hops
theorem Jh (hI:cA Γ H ih) (hF:aV Γ F cx) {e i:Expr}{p:Pos}:TG Γ (aH Γ.w) H F st ((ih cx e st).bind fun r=>(ih cx i r.2).bind fun q=>qV cx.f (bJ r.1 q.1) q.2 fun w=>.ok (w,q.2)) (eval (.Subscript e i p) F.env) :=
 fun c s Q E o R g=>Subscript_ (g.bind (hI F cx e st hF) o R fun w₁ st₁ c₁ v₁ s₁ _ l₁ o₁ R₁ p₁ z₁ g=>aG.bind g (hI F cx i st₁ hF) o₁ R₁ fun w₂ st₂ c₂ v₂ s₂ _ l₂ o₂ R₂ p₂ z₂ g=>g.qV fun y hy g=>Ks R₂ (p₁.mono l₂) p₂ hy fun u s' pu e z=>aG.done' g (.refl _) (e ▸ R₂) pu z)
end
end Mine
end
section
namespace Mine
theorem cU {α:Type}{l:List α}{k:Nat}{x y:α}{P:Prop} (e:(l++[x])[k]? = some y) (h1:l[k]? = some y→P) (h2:k=l.length→x=y→P):P:=by
 by_cases z:k < l.length
 ·exact h1 (by rw[List.getElem?_append_left z]at e;exact e)
 ·rw[List.getElem?_append_right (Nat.le_of_not_lt z)]at e
  have z':k - l.length=0:=Nat.lt_one_iff.mp (dJ e)
  exact h2 (Nat.le_antisymm (Nat.le_of_sub_eq_zero z') (Nat.le_of_not_lt z)) (by rw[z']at e;exact Option.some.inj e)
theorem oB {α:Type}{l:List α}{x:α}:(l++[x])[l.length]? = some x:=List.getElem?_concat_length
section
variable {w:World}{H:PM}{env:Env}{c:Cf}{st:St}{h h':Heap}{v:Value}
noncomputable def Cf.frzL (c:Cf) (a:Addr) (o:Obj):Cf:={ c with B:=iP c.B a (some o),ow:=iP c.ow a none }
theorem aC.freezeL (R:aC w H env c st h) {k:Nat}{xs:List FV} (hk:st.l[k]? = some (.lst xs)) {a:Addr} (hL:c.L[k]? = some a) :
  ∃ c',c.le c'∧aC w H env c' { st with l:=e9 st.l k .dead } h∧aO w c'.B (.ref a) (.lst xs):=by
 have ow:=R.ix.l k a xs hL hk
 obtain⟨o,get,_,q⟩:=R.owG ow
 obtain⟨us,n,rfl,q2⟩:=q xs hk
 have B0:=R.owB ow
 have l:c.le (c.frzL a (PySem.W.listOf us.toArray n)):=⟨fun b x e=>pZ B0 e,List.prefix_refl _,List.prefix_refl _,rfl,rfl⟩
 have other:∀ {b:Addr}{t:bZ},(∀ j,t ≠ .l j)→c.ow b=some t→iP c.ow a none b=some t:=fun {b t} n e=>(eW (a:=a) (b:=b) fun z=>n k (Option.some.inj ((z ▸ e:c.ow a=some t).symm.trans ow))).trans e
 refine⟨_,l,⟨fun b x e=>jS e (fun z1 z2=>z1 ▸ z2 ▸ get) fun _=>R.b b x,fun b x e=>jS e (fun z1 _=>z1 ▸ R.owH ow) fun _=>R.bh b x,R.hh,R.fsH,fun b t e=>jS e (fun _=>nk3) fun z e=>⟨(eW z).trans (R.owB e),R.owH e,(R.owG e).imp fun o p=>⟨p.1,?_⟩⟩,
  ⟨other nofun R.ix.loc,fun x b e=>(R.ix.cel x b e).imp (other nofun) fun q=>⟨q.1,q.2.imp fun o q=>⟨q.1,q.2.mono l⟩⟩,R.ix.celd,R.ix.gl,fun j sl e=>?_,R.ix.ll.trans (kZ _ _ _).symm,fun j b ys e1 e2=>dW e2 (fun _ _=>by rintro ⟨⟩) (fun ne e2=>?_) fun e2=>?_,fun j C fs e=>dW e (fun _ _=>by rintro ⟨⟩) (fun _=>R.ix.nol j C fs) fun q=>?_⟩⟩,aO.lst gQ (q2.mono l.b)⟩
 ·have own:=p.2.mono l
  cases t with
  | l j=>exact⟨own.1,fun ys e=>dW e (fun _ _=>by rintro ⟨⟩) (fun _=>own.2 ys) fun q=>absurd (dJ own.1) (Nat.not_lt.mpr (R.ix.ll ▸ List.getElem?_eq_none_iff.mp q))⟩
  | _=>exact own
 ·have:=R.ix.g j sl e
  cases sl with
  | o b d=>exact⟨other nofun this.1,other nofun this.2⟩
  | l b=>exact other nofun this
 ·have e:=R.ix.l j b ys e1 e2
  exact(eW fun z=>ne (by have:=Option.some.inj (ow.symm.trans (z ▸ e));injection this)).trans e
 ·exact absurd (dJ e1) (Nat.not_lt.mpr (R.ix.ll ▸ List.getElem?_eq_none_iff.mp e2))
 ·have:=dJ e;rw[kZ]at this;exact absurd this (Nat.not_lt.mpr (List.getElem?_eq_none_iff.mp q))
inductive yG (w:World) (H:PM) (env:Env) (c:Cf) (st:St) (h:Heap) (p:Cf→Prop):Prop where
 | mk (c':Cf) (l:c.le c') (R:aC w H env c' st h) (q:p c'):yG w H env c st h p
theorem I1 (R:aC w H env c st h) {x:PV} (p:aH w c v x) {r:PV × St} (e:J1 x st=some r):yG w H env c r.2 h fun c'=>aH w c' v r.1 :=
 fA e (fun k hk e=>ob e fun vs hv e=>by
  rw[uQ hk]at p
  obtain⟨a,rfl,hL⟩:=p.locI
  obtain⟨c',l,R',f⟩:=R.freezeL (fQ hv) hL
  exact Option.some.inj e ▸ ⟨c',l,R',f⟩) fun _ e=>Option.some.inj e ▸ ⟨c,.refl c,R,p⟩
theorem rA {ws:List PV}:∀ {vs:List Value}{c:Cf}{st:St}{r:List PV × St},aC w H env c st h→aX w c vs ws→tM ws st=some r→yG w H env c r.2 h fun c'=>aX w c' vs r.1:=by
 induction ws with
 | nil=>intro vs c st r R p e;exact Option.some.inj e ▸ ⟨c,.refl c,R,p⟩
 | cons x ws ih =>
  intro vs c st r R p e
  obtain⟨v,us,rfl,p,q⟩:=p.cI
  refine ob e fun a e1 e=>ob e fun b e2 e=>?_
  obtain⟨c₁,l₁,R₁,p₁⟩:=I1 R p e1
  obtain⟨c₂,l₂,R₂,p₂⟩:=ih R₁ (q.mono l₁) e2
  exact Option.some.inj e ▸ ⟨c₂,l₁.trans l₂,R₂,.cons (p₁.mono l₂) p₂⟩
theorem vC {ws:List PV}:∀ {vs:List Value}{xs:List FV},aX w c vs ws→frozen ws=some xs→aQ w c.B vs xs:=by
 induction ws with
 | nil=>intro vs xs p e;exact Option.some.inj e ▸ p
 | cons x ws ih =>
  intro vs xs p e
  obtain⟨v,us,rfl,p,q⟩:=p.cI
  exact ob e fun y hy e=>ob e fun ys hys e=>Option.some.inj e ▸ .cons (p.fE hy) (ih q hys)
theorem aC.ext (R:aC w H env c st h) {c':Cf}{st':St} (l:c.le c') (hB:c'.B=c.B) (gr:aY h h') (how:∀ a t,c.ow a=some t→c'.ow a=some t) (hs:∀ a o t,c.ow a=some t→Own w env c' st a o t→Own w env c' st' a o t)
  (hn:∀ a t,c'.ow a=some t→c.ow a=some t∨(h.get? a=none∧∃ o,h'.get? a=some o∧Own w env c' st' a o t)) (ix:Ix w H env c' st'.g st'.l st'.c):aC w H env c' st' h' where
 b a o e:=gr _ _ (R.b a o (hB ▸ e))
 bh a o e:=R.bh a o (hB ▸ e)
 hh a o e:=l.fs ▸ (R.hh a o e).grows gr
 fsH a e:=R.fsH a (l.fs ▸ e)
 own a t e:=(hn a t e).elim (fun e=>⟨hB ▸ R.owB e,R.owH e,(R.owG e).imp fun o q=>⟨gr _ _ q.1,hs a o t e (q.2.mono l)⟩⟩) fun q=>⟨hB ▸ (R.free q.1).1,(R.free q.1).2.1,q.2⟩
 ix:=ix
theorem tT.up {ow ow':Addr→Option bZ} (f:∀ a t,ow a=some t→ow' a=some t) {k:Nat}{sl:Slot} (h:tT ow k sl):tT ow' k sl:=by
 cases sl with
 | o a d=>exact⟨f _ _ h.1,f _ _ h.2⟩
 | l a=>exact f _ _ h
theorem nS.up {c':Cf} (l:c.le c') (f:∀ a t,c.ow a=some t→c'.ow a=some t) {cc:List (Str × PV)}{x:Str}{a:Addr} (h:nS w H c cc x a):nS w H c' cc x a:=h.imp (f _ _) fun q=>⟨l.ro ▸ q.1,q.2.imp fun o q=>⟨q.1,q.2.mono l⟩⟩
theorem yL (R:aC w H env c st h) {us:List Value}{vs:List FV} (f:aQ w c.B us vs) {m g:Bool}{r:PV × St} (e:gS m g vs st=some r) {a₀:Addr}{n₀:Nat} (gr:aY h h') (free:h.get? a₀=none) (get:h'.get? a₀=some (PySem.W.listOf us.toArray n₀)) :
  us.length ≤ sizeLine∧yG w H env c r.2 h' fun c'=>aH w c' (.ref a₀) r.1:=by
 refine aD e fun hf e=>⟨f.length ▸ cY hf,?_⟩
 rw[← Option.some.inj e]
 have n3:=(R.free free).2.2
 have how:∀ {t:bZ} b u,c.ow b=some u→iP c.ow a₀ (some t) b=some u:=fun b u e=>pZ n3 e
 cases g with
 | true =>
  let c':Cf:={ c with ow:=iP c.ow a₀ (some (.g st.g.length)),S:=c.S++[.l a₀] }
  have l:c.le c':=⟨.refl _,List.prefix_append _ _,List.prefix_refl _,rfl,rfl⟩
  have hS:c'.S[st.g.length]? = some (.l a₀):=R.ix.gl ▸ oB
  refine⟨c',l,R.ext l rfl gr how (fun b o t eb q=>?_) (fun b t e=>jS e (fun z1 z2=>.inr ⟨z1 ▸ free,_,z1 ▸ get,Option.some.inj z2 ▸ Own.gI hS z1.symm fun mo e=>cU e (fun e=>absurd (dJ e) (Nat.lt_irrefl _)) fun _ e=>e ▸ jD.lstI f⟩) fun _=>.inl)
   ⟨how _ _ R.ix.loc,fun x b e=>(R.ix.cel x b e).up l how,R.ix.celd,(List.length_append ..).trans ((congrArg (· + 1) R.ix.gl).trans (List.length_append (as:=st.g) (bs:=[_])).symm),fun k sl e=>cU e (fun e=>(R.ix.g k sl e).up how) fun z e=>by subst e;rw[z,R.ix.gl];exact gQ,R.ix.ll,fun k a xs e1 e2=>how _ _ (R.ix.l k a xs e1 e2),R.ix.nol⟩,aH.ref hS⟩
  cases t with
  | g k=>exact Exists.imp (fun sl q=>⟨q.1,q.2.1,fun mo e=>cU e (q.2.2 mo) fun z e=>by subst e;have z2:=q.1;rw[z,hS]at z2;rw[← Option.some.inj z2]at q;rw[← show a₀=b from q.2.1,n3]at eb;exact nk3 eb⟩) q
  | d k=>exact Exists.imp (fun sl q=>⟨q.1,fun C fs e=>cU e (q.2 C fs) fun _=>by rintro ⟨⟩⟩) q
  | _=>exact q
 | false=>cases m with
  | true =>
   let c':Cf:={ c with ow:=iP c.ow a₀ (some (.l st.l.length)),L:=c.L++[a₀] }
   have l:c.le c':=⟨.refl _,List.prefix_refl _,List.prefix_append _ _,rfl,rfl⟩
   have hL:c'.L[st.l.length]? = some a₀:=R.ix.ll ▸ oB
   refine⟨c',l,R.ext l rfl gr how (fun b o t eb q=>?_) (fun b t e=>jS e (fun z1 z2=>.inr ⟨z1 ▸ free,_,z1 ▸ get,Option.some.inj z2 ▸ Own.lI (z1 ▸ hL) fun xs e=>cU e (fun e=>absurd (dJ e) (Nat.lt_irrefl _)) fun _ e=>⟨us,n₀,rfl,by cases e;exact f⟩⟩) fun _=>.inl)
    ⟨how _ _ R.ix.loc,fun x b e=>(R.ix.cel x b e).up l how,R.ix.celd,R.ix.gl,fun k sl e=>(R.ix.g k sl e).up how,(List.length_append ..).trans ((congrArg (· + 1) R.ix.ll).trans (List.length_append (as:=st.l) (bs:=[_])).symm),fun k a xs e1 e2=>?_,fun k C fs e=>cU e (R.ix.nol k C fs) fun _=>by rintro ⟨⟩⟩,aH.loc hL⟩
   ·cases t with
    | l k=>exact⟨q.1,fun xs e=>cU e (q.2 xs) fun z _=>by have z2:=q.1;rw[z,hL]at z2;rw[← Option.some.inj z2,n3]at eb;exact nk3 eb⟩
    | _=>exact q
   ·refine cU e1 (fun e1=>cU e2 (fun e2=>how _ _ (R.ix.l k a xs e1 e2)) fun z _=>absurd (dJ e1) (by rw[z,R.ix.ll];exact Nat.lt_irrefl _)) fun z e=>by subst e;rw[z,R.ix.ll];exact gQ
  | false =>
   obtain⟨R',l,e'⟩:=R.newAt gr free get
   exact⟨_,l,R',aO.lst e' (f.mono l.b)⟩
theorem rW (R:aC w H env c st h) {us:List Value}{vs:List FV} (f:aQ w c.B us vs) {m g:Bool}{r:PV × St} (e:gS m g vs st=some r):us.length ≤ sizeLine∧yG w H env c r.2 (h.push (PySem.W.listOf us.toArray 0)) fun c'=>aH w c' (.ref h.objs.size) r.1 :=
 yL R f e (aY.push _ _) (get?_size h) (Heap.get?_push_size _ rfl)
end
section
variable {Γ:Gm}{H:PM}{F:Fr}{cx:Cx}{c:Cf}{s:Shared}{st:St}{Q:Value→Shared→Prop}{E:Value→Shared→Prop}{ih:Cx→Expr→St→Pg (PV × St)}
theorem Dw (hI:cA Γ H ih) (hF:aV Γ F cx) {es:List Expr}{p:Pos}{m g:Bool}:TG Γ (aH Γ.w) H F st ((oR ih cx es st).bind fun r=>opt (tM r.1 r.2) fun q=>opt (frozen q.1) fun xs=>opt (gS m g xs q.2) .ok) (eval (.List es p) F.env) :=
 fun c s Q E o R g=>wpAny_List_spliced (g.bind (i8 hI hF p es st) o R fun w₁ st₁ c₁ v₁ s₁ _ l₁ o₁ R₁ p₁ z₁ g=>g.opt fun q hq g=>g.opt fun xs hx g=>g.opt fun r hr g=>by
  obtain⟨c₂,l₂,R₂,p₂⟩:=rA R₁ p₁ hq
  obtain⟨sz,c₃,l₃,R₃,p₃⟩:=rW R₂ (vC p₂ hx) hr
  exact⟨sz,aG.done' (st:=r.2) g (l₂.trans l₃) R₃ p₃ ⟨rfl,rfl⟩⟩)
theorem H7 (hI:cA Γ H ih) (hF:aV Γ F cx) {es:List Expr}{k:Nat}{p:Pos}:TG Γ (aH Γ.w) H F st ((oR ih cx es st).bind fun r=>opt (frozen r.1) fun xs=>gp (fits xs.length) (.ok (.f (.tup xs),r.2))) (eval (.Tuple es k p) F.env) :=
 fun c s Q E o R g=>wpAny_Tuple_spliced (g.bind (i8 hI hF p es st) o R fun w₁ st₁ c₁ v₁ s₁ _ l₁ o₁ R₁ p₁ z₁ g=>g.opt fun xs hx g=>g.gp fun hf g=>by
  have f:=vC p₁ hx
  obtain⟨R',l,e'⟩:=R₁.newF { cls:=.type "tuple",data:=.seq v₁.toArray }
  exact⟨f.length ▸ cY hf,aG.done' g l R' (aO.tup (n:=0) e' (f.mono l.b)) ⟨rfl,rfl⟩⟩)
theorem El (hK:cS Γ.w Γ.K Γ.T) (o:Ok Γ H F c) (R:aC Γ.w H F.env c st s.heap):(s.heap.objs.size == sysModules)=false :=
 hK.mods.elim fun ob e=>beq_eq_false_iff_ne.mpr fun z=>nk3 ((get?_size s.heap).symm.trans (z.symm ▸ R.b _ _ (o.k _ _ e)))
theorem Es (hK:cS Γ.w Γ.K Γ.T) {p:Pos}:TG Γ (aH Γ.w) H F st (.ok (.f (.dct []),st)) (eval (.Dict [] [] p) F.env):=by
 intro c s Q E o R g
 obtain⟨R',l,e'⟩:=R.newF emptyDict
 exact wpAny_Dict_empty (aG.done' g l R' (aO.dct (w:=Γ.w) (n:=0) (es:=[]) (fs:=[]) (El hK o R) e' rfl) ⟨rfl,rfl⟩)
noncomputable def JR (v:Value) (i:Option Int):Prop:=∃ p:Option (Int × Tok),v=partValue p∧p.map (·.1)=i
theorem zD (hI:cA Γ H ih) (hF:aV Γ F cx) (lo:Option Expr):TG Γ (fun c v x=>∀ i,F2 x=some i→JR v i) H F st (Ca ih cx lo st) (evalPart lo F.env):=by
 intro c s Q E o R g
 cases lo with
 | none=>exact wpAny_pure (g.done R fun i e=>Option.some.inj e ▸ ⟨none,rfl,rfl⟩)
 | some e =>
  refine aG.bind g (hI F cx e st hF) o R fun w₁ st₁ c₁ v₁ s₁ _ l₁ o₁ R₁ p₁ z₁ g=>g.done R₁ fun i e=>ob e fun x hx e=>?_
  have p:=p₁.fE hx
  cases x with
  | none=>exact Option.some.inj e ▸ ⟨none,p.noneI,rfl⟩
  | int j=>obtain⟨t,q⟩:=p.intsI;exact Option.some.inj e ▸ ⟨some (j,t),q,rfl⟩
  | _=>exact nk3 e
theorem y9 {p:Option (Int × Tok)}:IsPart (partValue p) (p.map (·.1)):=by
 cases p with
 | none=>exact .none
 | some q=>exact .int _ _
theorem Hs {α:Type} (x:List α) (i j:Option Int):(cut x i j).length ≤ x.length:=Nat.le_trans (List.length_take_le' _ _) (by rw[List.length_drop];exact Nat.sub_le _ _)
theorem zP (x:List Nat) (l u:Option (Int × Tok)):slicePicked ⟨x.toArray⟩ l u none=sliceRange ((l.map (·.1)).elim 0 (clipAt x.length):Nat) ((u.map (·.1)).elim x.length (clipAt x.length):Nat) 1:=by
 have:=sliceBounds_plain (l.map (·.1)) (u.map (·.1)) x.length
 show Builtin.Str.strSliceIndices _ _ 1 x.length=_
 rw[show Builtin.Str.strSliceIndices (l.map (·.1)) (u.map (·.1)) 1 x.length=sliceRange (sliceBounds (l.map (·.1)) (u.map (·.1)) none x.length).1 (sliceBounds (l.map (·.1)) (u.map (·.1)) none x.length).2.1 1 by cases l<;>cases u<;>rfl,this]
theorem IR {x:List Nat}{i j:Option Int} (h:(cut x i j).length=x.length):cut x i j=x:=by
 have h1:(x.drop (i.elim 0 (clipAt x.length))).length=x.length:=Nat.le_antisymm (by rw[List.length_drop];exact Nat.sub_le _ _) (Nat.le_trans (Nat.le_of_eq h.symm) (List.length_take_le' _ _))
 have h2:x.drop (i.elim 0 (clipAt x.length))=x:=(List.drop_sublist _ _).eq_of_length h1
 unfold cut at h ⊢
 rw[h2]at h ⊢
 exact(List.take_sublist _ _).eq_of_length h
theorem Hk {x:List Nat}{t:Tok}{l u:Option (Int × Tok)} (hz:x.length ≤ sizeLine) (q:∀ t' s',s'.heap=s.heap→aS s s'→Q (.str ⟨(cut x (l.map (·.1)) (u.map (·.1))).toArray⟩ t') s'):(sliceMade ⟨x.toArray⟩ t l u none).post Q s:=by
 have e2:(slicePicked ⟨x.toArray⟩ l u none).filterMap ((⟨x.toArray⟩:Str).cps[·]?)=cut x (l.map (·.1)) (u.map (·.1)):=by
  rw[zP,sliceRange_one,pick_run];rfl
 unfold sliceMade
 split
 ·rename_i h
  have h:(slicePicked ⟨x.toArray⟩ l u none).length=x.length:=beq_iff_eq.mp (Bool.and_eq_true_iff.mp h).2
  rw[zP,sliceRange_one,List.length_map,List.length_range]at h
  have hb:(u.map (·.1)).elim x.length (clipAt x.length) ≤ x.length:=by
   cases u with
   | none=>exact Nat.le_refl _
   | some j =>
    show clipAt x.length j.1 ≤ _
    have:=clipAt_cast x.length j.1
    omega
  have e3:cut x (l.map (·.1)) (u.map (·.1))=x:=IR (by unfold cut;rw[List.length_take,List.length_drop,h];omega)
  rw[e3]at q
  exact q t s rfl (.refl s)
 ·rw[e2]
  exact⟨Nat.le_trans (Hs x _ _) hz,q _ _ rfl ⟨rfl,rfl⟩⟩
theorem NT {us:List Value}{vs:List FV} (f:aQ Γ.w c.B us vs) (i j:Option Int):aQ Γ.w c.B (cut us i j) (cut vs i j):=by
 unfold cut
 rw[f.length]
 exact(f.drop _).take _
theorem FL (hI:cA Γ H ih) (hF:aV Γ F cx) {e:Expr}{lo hi:Option Expr}{p p':Pos}{m:Bool} :
  TG Γ (aH Γ.w) H F st ((ih cx e st).bind fun r=>(Ca ih cx lo r.2).bind fun a=>(Ca ih cx hi a.2).bind fun b=>Jk cx m r.1 a.1 b.1 b.2) (eval (.Subscript e (.Slice lo hi none p') p) F.env):=by
 intro c s Q E o R g
 refine Subscript_ (g.bind (hI F cx e st hF) o R fun w₁ st₁ c₁ v₁ s₁ _ l₁ o₁ R₁ p₁ z₁ g=>wpAny_Slice ?_)
 refine aG.bind g (zD hI hF lo) o₁ R₁ fun x₂ st₂ c₂ v₂ s₂ _ l₂ o₂ R₂ q₂ z₂ g=>?_
 refine aG.bind g (zD hI hF hi) o₂ R₂ fun x₃ st₃ c₃ v₃ s₃ _ l₃ o₃ R₃ q₃ z₃ g=>?_
 rw[evalPart_none]
 refine wpAny_pure (g.opt fun i hi' g=>g.opt fun j hj g=>?_)
 obtain⟨pi,rfl,rfl⟩:=q₂ _ hi'
 obtain⟨pj,rfl,rfl⟩:=q₃ _ hj
 have p₃:=(p₁.mono l₂).mono l₃
 obtain⟨ops,hops⟩:=tR (.Slice lo hi none p') v₁ (.ref s₃.heap.objs.size)
 have R₄:=R₃.grows (aY.push s₃.heap { cls:=.type "slice",data:=.fields #[partValue pi,partValue pj,.none] })
 have get:(s₃.heap.push { cls:=.type "slice",data:=.fields #[partValue pi,partValue pj,.none] }).get? s₃.heap.objs.size=some { cls:=.type "slice",data:=.fields #[partValue pi,partValue pj,.none] }:=Heap.get?_push_size _ rfl
 revert hops
 refine g.oe (fun x hx g=>g.qV fun y hy g=>aD hy fun hf hy=>p₃.sE hx fun t hops=>?_) fun _ g=>aG.qS (V:=aH Γ.w) g fun y st' hy g=>ob hy fun vs hv hy=>aD hy fun hf hy=>R₃.itE p₃ hv fun a us n ha f hops=>?_
 ·exact tail_any (typeIs_str _ _ _) _root_.PySem.F.slot_str_getitem.lookup (wpAny_getItem_str_slice (l:=pi) (u:=pj) (st:=none) ⟨_,get,rfl,rfl⟩ rfl (Hk (cY hf) fun t' s' e z=>aG.done' g (.refl _) (e ▸ R₄) (Option.some.inj hy ▸ .str _ _) z)) hops
 ·obtain⟨sz,c₅,l₅,R₅,p₅⟩:=rW R₄ (NT (Γ:=Γ) f (pi.map (·.1)) (pj.map (·.1))) hy
  refine tail_any (T := "list") ⟨_,aY.push _ _ _ _ ha,rfl⟩ slot_list_getitem.lookup (wpAny_getItem_list_slice ⟨_,aY.push _ _ _ _ ha,rfl,_,rfl⟩ ⟨_,get,rfl,rfl⟩ y9 y9 .none (by simp) ?_ (by rw[List.size_toArray,f.length];exact cY hf)) hops
  rw[show slicePick us.toArray (pi.map (·.1)) (pj.map (·.1)) none=(cut us (pi.map (·.1)) (pj.map (·.1))).toArray by rw[slicePick_plain];simp[cut]]
  exact aG.done' g l₅ R₅ p₅ ⟨rfl,rfl⟩
theorem LA (hI:cA Γ H ih) (hF:aV Γ F cx) {e:Expr}{p p' q1 q2:Pos}{k:Nat}{m:Bool} :
  TG Γ (aH Γ.w) H F st ((ih cx e st).bind fun r=>KH m r.1 r.2) (eval (.Subscript e (.Slice none none (some (.UnaryOp .USub (.Constant (.int 1) k q1) q2)) p') p) F.env):=by
 intro c s Q E o R g
 refine Subscript_ (g.bind (hI F cx e st hF) o R fun w₁ st₁ c₁ v₁ s₁ _ l₁ o₁ R₁ p₁ z₁ g=>wpAny_Slice ?_)
 rw[evalPart_none]
 refine wpAny_pure (wpAny_pure ?_)
 show wpAny _ _ (eval (.UnaryOp .USub (.Constant (.int 1) k q1) q2) F.env) _ _ _
 refine wpAny_UnaryOp (wpAny_Constant_int (neg_int (g.opt fun vs hv g=>g.gp fun hf g=>g.opt fun r hr g=>R₁.itE p₁ hv fun a us n ha f=>?_)))
 obtain⟨ops,hops⟩:=tR (.Slice none none (some (.UnaryOp .USub (.Constant (.int 1) k q1) q2)) p') (.ref a) (.ref s₁.heap.objs.size)
 have R₂:=R₁.grows (aY.push s₁.heap { cls:=.type "slice",data:=.fields #[.none,.none,.int (-1) (s₁.toks + 1)] })
 obtain⟨sz,c₅,l₅,R₅,p₅⟩:=rW R₂ f.reverse hr
 refine tail_any (T := "list") ⟨_,aY.push _ _ _ _ ha,rfl⟩ slot_list_getitem.lookup (wpAny_getItem_list_slice ⟨_,aY.push _ _ _ _ ha,rfl,_,rfl⟩ ⟨_,Heap.get?_push_size _ rfl,rfl,rfl⟩ .none .none (.int (-1) _) (by simp) ?_ (by rw[List.size_toArray,f.length];exact cY hf)) hops
 rw[krv_pick]
 exact aG.done' (st:=r.2) g l₅ R₅ p₅ ⟨rfl,rfl⟩
end
end Mine
end
section
namespace Mine
section
variable {w:World}{H:PM}{env:Env}{c:Cf}{st:St}{h h':Heap}{v:Value}
theorem aC.updL (R:aC w H env c st h) {k:Nat}{a:Addr}{ys:List FV}{us vs:List Value}{n:Nat}{f:Array Value→Array Value} (hL:c.L[k]? = some a) (hw:c.ow a=some (.l k)) (ho:h.get? a=some (PySem.W.listOf us.toArray n)) (hf:f us.toArray=vs.toArray) (hv:aQ w c.B vs ys) :
  aC w H env c { st with l:=e9 st.l k (.lst ys) } (h.update a (Obj.mapSeq f)) :=
 R.setL (m:=.dead) (n:=if (f us.toArray).size == us.toArray.size then n else n + 1) hL hw (fun b hb=>Heap.get?_update_ne _ _ _ _ hb) ((Heap.get?_update_self _ ho rfl).trans (hf ▸ rfl)) hv
theorem aQ.last {B:PM}{us:List Value}{xs:List FV}{x:FV}{r:List FV} (f:aQ w B us xs) (e:xs.reverse=x::r):∃ p y,us=p++[y]∧aQ w B p r.reverse∧aO w B y x:=by
 obtain⟨y,q,h,a,b⟩:=aQ.c (e ▸ f.reverse)
 exact⟨q.reverse,y,by rw[← List.reverse_reverse us,h,List.reverse_cons],b.reverse,a⟩
theorem Dq {B:PM}{xs:List FV}:∀ {us:List Value}{n:Nat},aQ w B us xs→mY xs=some n→∃ ys:List Str,StrsAre us ys∧(ys.map (·.length)).sum=n∧ys.length=xs.length∧∀ s t,n0 s xs=some t→Str.join ⟨s.toArray⟩ ys=⟨t.toArray⟩:=by
 induction xs with
 | nil=>intro us n q e;obtain rfl:=q.n;exact⟨[],.nil,Option.some.inj e,rfl,fun s t e=>Option.some.inj e ▸ rfl⟩
 | cons a r ih =>
  intro us n q e
  obtain⟨v,us,rfl,p,q2⟩:=q.c
  refine ob e fun x hx e=>ob e fun m hm e=>p.sE hx fun t=>?_
  obtain⟨ys,h1,h2,h3,h4⟩:=ih q2 hm
  refine⟨⟨x.toArray⟩::ys,.cons _ t h1,by rw[List.map_cons,List.sum_cons,h2];exact Option.some.inj e,congrArg (· + 1) h3,fun s t e=>ob e fun x' hx' e=>?_⟩
  obtain rfl:=Option.some.inj (hx.symm.trans hx')
  cases r with
  | nil=>obtain rfl:=List.eq_nil_of_length_eq_zero h3;exact Option.some.inj e ▸ rfl
  | cons x2 r2 =>
   cases ys with
   | nil=>exact absurd h3 nofun
   | cons y2 ys2 =>
    refine ob e fun y hy e=>?_
    show(⟨x.toArray⟩:Str)++(⟨s.toArray⟩:Str)++Str.join ⟨s.toArray⟩ (y2::ys2)=_
    rw[h4 s y hy,uM,uM];exact Option.some.inj e ▸ rfl
end
section
variable {Γ:Gm}{H:PM}{F:Fr}{cx:Cx}{c:Cf}{s:Shared}{st:St}{Q:Value→Shared→Prop}{E:Value→Shared→Prop}{ih:Cx→Expr→St→Pg (PV × St)}
noncomputable def qZ.id:qZ→String
 | .app => "list.append" | .pop => "list.pop" | .ext => "list.extend" | .join => "str.join" | .starts => "str.startswith" | .lstrip => "str.lstrip" | .get => "dict.get" | .fn _ => ""
theorem LE (R:aC Γ.w H F.env c st s.heap) {v:Value}{x:PV}{vs:List Value}{ws:List PV} (p:aH Γ.w c v x) (ps:aX Γ.w c vs ws) {r:PV × St} (e:Ar x ws st=some r) (q:∀ u s',aC Γ.w H F.env c r.2 s'.heap→aH Γ.w c u r.1→aS s s'→Q u s'):wpAny (model pw Γ.w) F.A (call (.builtin "list.append") (v::vs)) Q E s:=by
 refine ob e fun k hk e=>ob e fun u hu e=>ob e fun x hx e=>ob e fun xs hxs e=>aD e fun hf e=>R.lE p hk hxs fun a us n h1 h2 h3 h4=>ps.oneE hu fun v' p1=>?_
 rw[← Option.some.inj e]at q
 exact call_meets (id := "list.append") slot_list_append ⟨_,h3,rfl⟩ entry_list_append (args_list_append _ _) (AutoListH.list_append_list_val_0 a us.toArray n _ (by rw[List.size_toArray,h4.length];exact cY hf)) ⟨h3,q _ _ (R.updL (vs:=us++[_]) h1 h2 h3 (by rw[List.push_toArray]) (aQ.append (.cons (p1.fE hx) .nil) h4)) .none ⟨rfl,rfl⟩⟩
theorem Jr (R:aC Γ.w H F.env c st s.heap) {v:Value}{x:PV}{vs:List Value}{ws:List PV} (p:aH Γ.w c v x) (ps:aX Γ.w c vs ws) {r:PV × St} (e:mJ x ws st=some r) (q:∀ u s',aC Γ.w H F.env c r.2 s'.heap→aH Γ.w c u r.1→aS s s'→Q u s'):wpAny (model pw Γ.w) F.A (call (.builtin "list.pop") (v::vs)) Q E s:=by
 refine ob e fun k hk e=>aD e fun hn e=>ob e fun xs hxs e=>aD e fun hf e=>R.lE p hk hxs fun a us n h1 h2 h3 h4=>?_
 obtain rfl:vs=[]:=aX.c0 (bN hn ▸ ps)
 cases hr:xs.reverse with
 | nil=>rw[hr]at e;exact nk3 e
 | cons y t =>
  rw[hr]at e
  rw[← Option.some.inj e]at q
  obtain⟨pp,yy,rfl,h6,h7⟩:=h4.last hr
  have hk':(pp++[yy]).toArray.size - 1=pp.length:=by rw[List.size_toArray,List.length_append];rfl
  refine call_meets (id := "list.pop") _root_.PySem.F.slot_list_pop ⟨_,h3,rfl⟩ _root_.PySem.F.entry_list_pop (_root_.PySem.F.args_list_pop_1 _) (PySem.MeetsSeq.list_pop_last a _ n yy (by rw[hk',List.getElem?_toArray];exact oB) (by rw[List.size_toArray,h4.length];exact cY hf)) ⟨h3,q _ _ (R.updL (vs:=pp) h1 h2 h3 (by
   show(pp++[yy]).toArray.eraseIdxIfInBounds ((pp++[yy]).toArray.size - 1)=pp.toArray
   rw[hk',kl_erase,List.append_nil]) h6) h7 ⟨rfl,rfl⟩⟩
theorem Kp (R:aC Γ.w H F.env c st s.heap) {v:Value}{x:PV}{vs:List Value}{ws:List PV} (p:aH Γ.w c v x) (ps:aX Γ.w c vs ws) {r:PV × St} (e:rH x ws st=some r) (q:∀ u s',aC Γ.w H F.env c r.2 s'.heap→aH Γ.w c u r.1→aS s s'→Q u s'):wpAny (model pw Γ.w) F.A (call (.builtin "list.extend") (v::vs)) Q E s:=by
 refine ob e fun k hk e=>ob e fun u hu e=>ob e fun xs2 hx2 e=>ob e fun xs hxs e=>aD e fun hf e=>R.lE p hk hxs fun a us n h1 h2 h3 h4=>ps.oneE hu fun v' p1=>fR hx2 fun x2 hy hx2=>(p1.fE (hy ▸ rfl)).lE hx2 fun a2 n2 us2 h6 h7=>?_
 rw[← Option.some.inj e]at q
 have z:us.toArray.size + us2.toArray.size ≤ sizeLine:=by rw[List.size_toArray,List.size_toArray,h4.length,h7.length];exact cY hf
 have z4:¬ ((!us.toArray.isEmpty&&Builtin.List.listTooLong (us.toArray.size + us2.toArray.size))=true):=fun y=>Nat.not_lt.mpr z (of_decide_eq_true (Bool.and_eq_true_iff.mp y).2)
 exact call_meets (id := "list.extend") _root_.PySem.F.slot_list_extend ⟨_,h3,rfl⟩ _root_.PySem.F.entry_list_extend (_root_.PySem.F.args_list_extend_2 _ _) (AutoSeq1.list_extend_list_list_0 a us.toArray n a2 us2.toArray n2 z4 (Nat.le_trans (Nat.le_add_right _ _) z) (Nat.le_succ_of_le z)) ⟨h3,R.b _ _ h6,q _ _ (R.updL (vs:=us++us2) h1 h2 h3 (by rw[List.append_toArray]) (aQ.append h7 h4)) .none ⟨rfl,rfl⟩⟩
theorem Ht (R:aC Γ.w H F.env c st s.heap) {v:Value}{x u z:PV}{vs:List Value}{ws:List PV}{x':List Nat}{xs:List FV} (p:aH Γ.w c v x) (ps:aX Γ.w c vs ws) (hx:oK x=some x') (hu:one ws=some u) (hi:fY u st=some xs) (hz:oO x' xs=some z) (q:∀ u s',s'.heap=s.heap→aH Γ.w c u z→aS s s'→Q u s'):wpAny (model pw Γ.w) F.A (call (.builtin "str.join") (v::vs)) Q E s:=by
 refine p.sE hx fun t=>ps.oneE hu fun v' p1=>R.itE p1 hi fun a us n h2 h1=>ob hz fun m hm hz=>aD hz fun hf hz=>ob hz fun y hy hz=>?_
 obtain⟨ys,h3,h4,h5,h6⟩:=Dq h1 hm
 refine join_list (s:=s) (D:=a) (items:=us.toArray) (ys:=ys) ⟨_,h2,rfl,_,rfl⟩ (by simpa using h3) (by rw[h4,h5,len_str];exact cY hf) fun t' k=>?_
 rw[show Txt.join ⟨_⟩ ys=_ from(StrLaws.glued_eq_join _ ys).trans (h6 _ _ hy)]
 exact q _ _ rfl (Option.some.inj hz ▸ .str _ _) ⟨rfl,rfl⟩
theorem Cm {v:Value}{x z:PV}{vs:List Value}{ws:List PV} (p:aH Γ.w c v x) (ps:aX Γ.w c vs ws) (e:tV x ws=some z) (q:∀ u s',s'.heap=s.heap→aH Γ.w c u z→aS s s'→Q u s'):wpAny (model pw Γ.w) F.A (call (.builtin "str.startswith") (v::vs)) Q E s :=
 ob e fun x' hx e=>ob e fun w2 hw e=>ob e fun y hy e=>ob e fun i hi e=>p.sE hx fun t=>ps.twoE hw fun v1 v2 p1 p2=>p1.sE hy fun t1=>p2.iE hi fun t2 =>
  call_gives (id := "str.startswith") _root_.PySem.F.slot_str_startswith (typeIs_str s _ _) _root_.PySem.F.entry_str_startswith (_root_.PySem.F.args_str_startswith_3 _ _ _) (gives_str_startswith_from _ _ _ _ _ _) (q _ _ rfl (Option.some.inj e ▸ .bool _) (.refl s))
theorem F4 {v:Value}{x z:PV}{vs:List Value}{ws:List PV} (p:aH Γ.w c v x) (ps:aX Γ.w c vs ws) (e:DO x ws=some z) (q:∀ u s',s'.heap=s.heap→aH Γ.w c u z→aS s s'→Q u s'):wpAny (model pw Γ.w) F.A (call (.builtin "str.lstrip") (v::vs)) Q E s:=by
 refine ob e fun x' hx e=>ob e fun u hu e=>ob e fun y hy e=>aD e fun hf e=>p.sE hx fun t=>ps.oneE hu fun v1 p1=>p1.sE hy fun t1=>?_
 rw[← Option.some.inj e]at q
 refine call_gives (id := "str.lstrip") _root_.PySem.F.slot_str_lstrip (typeIs_str s _ _) _root_.PySem.F.entry_str_lstrip (_root_.PySem.F.args_str_lstrip_2 _ _) (gives_str_lstrip_chars _ _ _ _) ?_
 split
 ·rename_i z
  rw[if_pos z]at q
  exact q _ _ rfl (.str _ _) (.refl s)
 ·rename_i z
  rw[if_neg z]at q
  exact⟨fits_stripped _ _ _ (cY hf),q _ _ rfl (.strS _ _) ⟨rfl,rfl⟩⟩
theorem sG.get {B:PM}{f:Option Value}{o:Option FV} (h:sG Γ.w B f o) (dv:Value) (d:FV) (pd:aO Γ.w B dv d):aO Γ.w B (f.getD dv) (o.getD d):=by
 cases o with
 | none=>rw[show f=none from h];exact pd
 | some y=>obtain⟨u,rfl,fu⟩:=h;exact fu
theorem Ml (R:aC Γ.w H F.env c st s.heap) {v:Value}{x z:PV}{vs:List Value}{ws:List PV} (p:aH Γ.w c v x) (ps:aX Γ.w c vs ws) (e:LG x ws=some z) (q:∀ u s',s'.heap=s.heap→aH Γ.w c u z→aS s s'→Q u s'):wpAny (model pw Γ.w) F.A (call (.builtin "dict.get") (v::vs)) Q E s:=by
 refine ob e fun es he e=>fR he fun x' hx' he=>fA e (fun u hu e=>ob e fun k hk e=>ob e fun o ho e=>ps.oneE hu fun v1 p1=>?_) fun _ e=>ob e fun w2 hw e=>ob e fun k hk e=>ob e fun d hd e=>ob e fun o ho e=>ps.twoE hw fun v1 v2 p1 p2=>?_
 ·refine dgetE R.b (p.fE (hx' ▸ rfl)) he (p1.fE hk) ho fun dd hd=>?_
  obtain⟨Kt,i,knd,kk,f,hm,hk,hf,hr⟩:=hd
  have r:=hr.get .none .none rfl
  refine call_meetsIn (id := "dict.get") _root_.PySem.F.slot_dict_get hf.typeIs _root_.PySem.F.entry_dict_get (_root_.PySem.F.args_dict_get_2 _ _) (meets_dict_get knd dd hk hm) ⟨f,hf,q _ _ rfl (Option.some.inj e ▸ ?_) ⟨rfl,rfl⟩⟩
  exact r
 ·refine dgetE R.b (p.fE (hx' ▸ rfl)) he (p1.fE hk) ho fun dd hdd=>?_
  obtain⟨Kt,i,knd,kk,f,hm,hk,hf,hr⟩:=hdd
  have r:=hr.get _ _ (p2.fE hd)
  refine call_meetsIn (id := "dict.get") _root_.PySem.F.slot_dict_get hf.typeIs _root_.PySem.F.entry_dict_get (_root_.PySem.F.args_dict_get_3 _ _ _) (meets_dict_get_default knd dd hk hm _) ⟨f,hf,q _ _ rfl (Option.some.inj e ▸ ?_) ⟨rfl,rfl⟩⟩
  exact r
end
end Mine
end
section
namespace Mine
theorem aX.app {w:World}{c:Cf}{vs:List Value}{ws:List PV} (q:aX w c vs ws) {pws:List PV}:∀ {pre:List Value},aX w c pre pws→aX w c (pre++vs) (pws++ws):=by
 induction pws with
 | nil=>intro pre h;obtain rfl:=h.c0;exact q
 | cons x r ih=>intro pre h;obtain⟨v,u,rfl,p,h⟩:=h.cI;exact .cons p (ih h)
section
variable {Γ:Gm}{H:PM}{F:Fr}{cx:Cx}{c:Cf}{s:Shared}{st:St}{Q:Value→Shared→Prop}{E:Value→Shared→Prop}{ih:Cx→Expr→St→Pg (PV × St)}
theorem xI {p:Pos}{env:Env}{es:List Expr} (h:es.all bO=true):(backTo p (starEach es env)).all (fun x=>!x.1)=true∧(backTo p (starEach es env)).any (fun x=>x.1)=false:=by
 induction es with
 | nil=>exact⟨rfl,rfl⟩
 | cons e r ih =>
  obtain⟨h1,h2⟩:=Bool.and_eq_true_iff.mp h
  rw[gY h1]
  exact ih h2
theorem Di {A:Around}{o:Expr}{n:Str}{ap p:Pos}{args:List Expr}{env:Env} (hb:CB o ap p args=true)
  (h:wpAny (model pw Γ.w) A (eval o env) (fun ov s₁=>∀ pl,wpAny (model pw Γ.w) A (getMethod ov n pl) (fun fx s₂=>wpAny (model pw Γ.w) A (callWith p fx.1 fx.2 (backTo p (starEach args env)) []) Q E s₂) E s₁) E s) :
  wpAny (model pw Γ.w) A (eval (.Call (.Attribute o n ap) args [] p) env) Q E s:=by
 obtain⟨h',h4⟩:=Bool.and_eq_true_iff.mp hb
 obtain⟨h',h3⟩:=Bool.and_eq_true_iff.mp h'
 obtain⟨h1,h2⟩:=Bool.and_eq_true_iff.mp h'
 rw[arm_eval_Call,y8 h1]
 refine wpAny_bind (wpAny_mono h (fun ov s₁ h₁=>wpAny_bind (wpAny_standAt ?_)) fun _ _ e=>e)
 have hform:methodCallForm (args.length + ([]:List Keyword).length) (backTo p (starEach args env)) (backToKw p (keywordEach [] env))=true:=by
  unfold methodCallForm
  rw[(xI h4).1]
  exact decide_eq_true (Nat.lt_trans (of_decide_eq_true h3:args.length < 20) (by decide:20 < 30))
 have hpos:methodCallPos true o env ap p=pure p:=by unfold methodCallPos;rw[h2];rfl
 unfold methodCall
 rw[hform]
 exact wpAny_bind (wpAny_holding (wpAny_mono (h₁ _) (fun fx s₂ h₂=>wpAny_bind (wpAny_of_eq hpos h₂)) fun _ _ e=>e))
theorem bM {A:Around}{p:Pos}{f:Value}{first:List Value}{args:List Expr}{P:Heap→Prop}{env:Env} (ha:args.all bO=true)
  (hk:∀ h,P h→∃ k,(k=Keeper.frame∨k=Keeper.machine∨k=Keeper.boundFrame)∧Looks (model pw Γ.w) h (keeperOf f) k)
  (h:wpAny (model pw Γ.w) A (spliced (backTo p (starEach args env))) (fun vs s₁=>P s₁.heap∧wpAny (model pw Γ.w) A (call f (first++vs)) Q E s₁) E s) :
  wpAny (model pw Γ.w) A (callWith p f first (backTo p (starEach args env)) []) Q E s:=by
 refine callWith_of (P:=P) (by rw[(xI ha).2];rfl) hk ?_
 cases args with
 | nil =>
  unfold evalArgs
  show wpAny _ A (spliced [] >>= _) _ E s
  exact wpAny_bind (wpAny_mono h (fun vs s₁ h₁=>wpAny_bind (wpAny_pure (wpAny_holding (wpAny_bind (wpAny_pure (wpAny_bind (wpAny_pure (wpAny_pure h₁)))))))) fun _ _ e=>e)
 | cons e r =>
  rw[gY (Bool.and_eq_true_iff.mp ha).1]at h ⊢
  exact evalArgs_plain h
noncomputable def qZ.val (b:qZ):Value:=match b with
 | .fn a=>.ref a
 | b=>.builtin b.id
theorem Bm {α:Type}{b:Bool}{x y:α}{P:α→Prop} (k:b=true→P x) (m:b=false→P y):P (bif b then x else y):=by
 cases b with
 | true=>exact k rfl
 | false=>exact m rfl
theorem Io (hK:cS Γ.w Γ.K Γ.T) (o:Ok Γ H F c) (R:aC Γ.w H F.env c st s.heap) {v:Value}{x:PV} (p:aH Γ.w c v x) {n:Str}{b:qZ} (e:Fo Γ.T x n st=some b) {Q:Value × List Value→Shared→Prop}{pl:Sem Bool}
  (q:Q (b.val,[v]) s):wpAny (model pw Γ.w) F.A (getMethod v n pl) Q E s:=by
 have KI:=o.kin R
 cases x with
 | ref k =>
  refine ob e fun r hr e=>fA e (fun _ _=>nk3) fun hf e=>ob e fun ms hms e=>ob e fun a ha e=>?_
  rw[← Option.some.inj e]at q
  revert q
  refine R.iE p rfl hr fun xa dd es m _ _ _ a1 a4 a5 q=>?_
  obtain⟨g1,g2,g3,g4⟩:=hK.meth _ ms n a hms ha
  exact method_fn KI (od:=some (dictOf es m)) ⟨a1,rfl,rfl,a4⟩ (plainGet_of g1).1 (plainGet_of g1).2 g2 g3 (by show(W.getL n es).map _=_;rw[fJ.noKey a5 hf];rfl) q
 | loc k =>
  refine ob e fun xs hx e=>?_
  revert q
  refine R.lE p rfl hx fun a us m _ _ h4 _ q=>?_
  have go:∀ {n id:String},seq ‹Str› n=true→PySem.Slot "list" n id→typeOf (.builtin id)=pure (.type "method_descriptor")→Q (.builtin id,[.ref a]) s→wpAny (model pw Γ.w) F.A (getMethod (.ref a) ‹Str› pl) Q E s:=fun h h1 h2 q=>by
   rw[hO.mp h]
   exact getMethod_builtin ⟨_,h4,rfl⟩ _root_.PySem.F.plainAttrs_list h1 h2 (fun b e=>by cases e;exact⟨_,h4,rfl⟩) q
  exact nQ e (fun z e=>go z slot_list_append _root_.PySem.F.type_list_append (by rw[← Option.some.inj e]at q;exact q)) fun _ e=>nQ e (fun z e=>go z _root_.PySem.F.slot_list_pop _root_.PySem.F.type_list_pop (by rw[← Option.some.inj e]at q;exact q)) fun _ e=>aD e fun z e=>go z _root_.PySem.F.slot_list_extend _root_.PySem.F.type_list_extend (by rw[← Option.some.inj e]at q;exact q)
 | f x =>
  refine fA e (fun y hy e=>?_) fun _ e=>ob e fun y hy e=>aD e fun z e=>?_
  ·revert q
   refine p.fI.sE hy fun t q=>?_
   have go:∀ {n id:String},seq ‹Str› n=true→PySem.Slot "str" n id→typeOf (.builtin id)=pure (.type "method_descriptor")→Q (.builtin id,[.str ⟨y.toArray⟩ t]) s→wpAny (model pw Γ.w) F.A (getMethod (.str ⟨y.toArray⟩ t) ‹Str› pl) Q E s:=fun h h1 h2 q=>by
    rw[hO.mp h]
    exact getMethod_builtin (typeIs_str s _ _) _root_.PySem.F.plainAttrs_str h1 h2 (fun a e=>by cases e) q
   exact nQ e (fun z e=>go z _root_.PySem.F.slot_str_join _root_.PySem.F.type_str_join (by rw[← Option.some.inj e]at q;exact q)) fun _ e=>nQ e (fun z e=>go z _root_.PySem.F.slot_str_startswith _root_.PySem.F.type_str_startswith (by rw[← Option.some.inj e]at q;exact q)) fun _ e=>aD e fun z e=>go z _root_.PySem.F.slot_str_lstrip _root_.PySem.F.type_str_lstrip (by rw[← Option.some.inj e]at q;exact q)
  ·rw[← Option.some.inj e]at q
   obtain⟨a,m,es,rfl,hm,ha,_⟩:=aO.dctI (uX hy ▸ p.fI)
   have hb:=R.b _ _ ha
   rw[hO.mp z]
   exact getMethod_builtin (T := "dict") ⟨_,hb,rfl⟩ _root_.PySem.F.plainAttrs_dict (id := "dict.get") _root_.PySem.F.slot_dict_get _root_.PySem.F.type_dict_get (fun b e=>by cases e;exact⟨_,hb,rfl⟩) q
theorem Ih (hK:cS Γ.w Γ.K Γ.T) {x:PV}{n:Str}{a:Nat} (e:Fo Γ.T x n st=some (.fn a)):keepIn Γ.K (.ref a)=true:=by
 cases x with
 | ref k=>exact ob e fun r hr e=>fA e (fun _ _=>nk3) fun hf e=>ob e fun ms hms e=>ob e fun a' ha e=>by cases e;exact(hK.meth _ ms n _ hms ha).2.2.2
 | loc k=>exact ob e fun r hr e=>nQ e (fun _=>nofun) fun _ e=>nQ e (fun _=>nofun) fun _ e=>aD e fun _=>nofun
 | f x=>exact fA e (fun y hy e=>nQ e (fun _=>nofun) fun _ e=>nQ e (fun _=>nofun) fun _ e=>aD e fun _=>nofun) fun _ e=>ob e fun y hy e=>aD e fun z=>nofun
theorem eV (id:String) (h:Heap) (_:True):∃ k,(k=Keeper.frame∨k=Keeper.machine∨k=Keeper.boundFrame)∧Looks (model pw Γ.w) h (keeperOf (.builtin id)) k:=⟨.machine,.inr (.inl rfl),Looks.of_pure rfl⟩
theorem lS (id:String) (h:Heap) (_:True):∃ k,(k=Keeper.frame∨k=Keeper.machine∨k=Keeper.boundFrame)∧Looks (model pw Γ.w) h (keeperOf (.type id)) k:=⟨.machine,.inr (.inl rfl),Looks.of_pure rfl⟩
theorem H6 (hC:fH Γ.w Γ.K Γ.T Γ.n Γ.C) (hF:aV Γ F cx) (o:Ok Γ H F c) (R:aC Γ.w H F.env c st s.heap) {a:Nat}{vs:List Value}{ws:List PV} (ps:aX Γ.w c vs ws) {pre:List Value}{pws:List PV} (pp:aX Γ.w c pre pws)
  (g:aG Γ (aH Γ.w) H F (Bj cx a pws ws st) c s Q E):wpAny (model pw Γ.w) F.A (call (.ref a) (pre++vs)) Q E s :=
 g.opt fun r hr g=>by
  obtain⟨c₂,l₂,R₂,p₂⟩:=rA R ps hr
  exact wpAny_call (hC F.A Γ.X H F r.2 cx.f a _ _ c₂ s Q E hF.frames hF.handled (Nat.le_trans (Nat.add_le_add_left (by decide) _) hF.depth) (Nat.le_trans (Nat.add_le_add_left (by decide) _) hF.units) (o.mono _ l₂) R₂ (p₂.app (pp.mono l₂)) (g.mono l₂ (.refl s)))
theorem JI (hK:cS Γ.w Γ.K Γ.T) (hC:fH Γ.w Γ.K Γ.T Γ.n Γ.C) (hI:cA Γ H ih) (hF:aV Γ F cx) {e:Expr}{n:Str}{ap p:Pos}{args:List Expr}:TG Γ (aH Γ.w) H F st (HG Γ.T ih cx e n ap args p st) (eval (.Call (.Attribute e n ap) args [] p) F.env) :=
 fun c s Q E o R g=>g.gp fun hb g=>by
  have ha:=(Bool.and_eq_true_iff.mp hb).2
  refine Di hb (aG.bind g (hI F cx e st hF) o R fun w₁ st₁ c₁ v₁ s₁ _ l₁ o₁ R₁ p₁ z₁ g pl=>g.opt fun m hm g=>Io hK o₁ R₁ p₁ hm ?_)
  have sp:=i8 (Γ:=Γ) (H:=H) hI hF p args st₁
  cases m with
  | fn a=>exact bM (P:=fun h=>Γ.K.In h) ha (keeps_K (Ih hK hm)) (g.bind sp o₁ R₁ fun ws st₂ c₂ vs s₂ _ l₂ o₂ R₂ p₂ z₂ g=>⟨o₂.kin R₂,H6 hC hF o₂ R₂ p₂ (aX.cons (p₁.mono l₂) .nil) g⟩)
  | app=>exact bM ha (eV _) (g.bind sp o₁ R₁ fun ws st₂ c₂ vs s₂ _ l₂ o₂ R₂ p₂ z₂ g=>⟨trivial,aG.qS (V:=aH Γ.w) g fun y st' hy g=>LE R₂ (p₁.mono l₂) p₂ hy fun u s' R' pu z=>aG.done' g (.refl _) R' pu z⟩)
  | pop=>exact bM ha (eV _) (g.bind sp o₁ R₁ fun ws st₂ c₂ vs s₂ _ l₂ o₂ R₂ p₂ z₂ g=>⟨trivial,aG.qS (V:=aH Γ.w) g fun y st' hy g=>Jr R₂ (p₁.mono l₂) p₂ hy fun u s' R' pu z=>aG.done' g (.refl _) R' pu z⟩)
  | ext=>exact bM ha (eV _) (g.bind sp o₁ R₁ fun ws st₂ c₂ vs s₂ _ l₂ o₂ R₂ p₂ z₂ g=>⟨trivial,aG.qS (V:=aH Γ.w) g fun y st' hy g=>Kp R₂ (p₁.mono l₂) p₂ hy fun u s' R' pu z=>aG.done' g (.refl _) R' pu z⟩)
  | join =>
   refine bM ha (eV _) (g.bind sp o₁ R₁ fun ws st₂ c₂ vs s₂ _ l₂ o₂ R₂ p₂ z₂ g=>⟨trivial,g.opt fun x hx g=>g.opt fun u hu g=>g.opt fun xs hi g=>?_⟩)
   have g:aG Γ (aH Γ.w) H F (qV 0 (fun _=>oO x xs) st₂ fun v=>.ok (v,st₂)) c₂ s₂ Q E:=⟨g.ok,g.raise,g.go⟩
   exact g.qV fun z hz g=>Ht R₂ (p₁.mono l₂) p₂ hx hu hi hz fun u s' e pu z=>g.done' (.refl _) (e ▸ R₂) pu z
  | starts=>exact bM ha (eV _) (g.bind sp o₁ R₁ fun ws st₂ c₂ vs s₂ _ l₂ o₂ R₂ p₂ z₂ g=>⟨trivial,g.qV fun z hz g=>Cm (p₁.mono l₂) p₂ hz fun u s' e pu z=>aG.done' g (.refl _) (e ▸ R₂) pu z⟩)
  | lstrip=>exact bM ha (eV _) (g.bind sp o₁ R₁ fun ws st₂ c₂ vs s₂ _ l₂ o₂ R₂ p₂ z₂ g=>⟨trivial,g.qV fun z hz g=>F4 (p₁.mono l₂) p₂ hz fun u s' e pu z=>aG.done' g (.refl _) (e ▸ R₂) pu z⟩)
  | get=>exact bM ha (eV _) (g.bind sp o₁ R₁ fun ws st₂ c₂ vs s₂ _ l₂ o₂ R₂ p₂ z₂ g=>⟨trivial,g.qV fun z hz g=>Ml R₂ (p₁.mono l₂) p₂ hz fun u s' e pu z=>aG.done' g (.refl _) (e ▸ R₂) pu z⟩)
end
end Mine
end
section
namespace Mine
theorem A0 {xs:List FV}{w:World}{B:PM}:∀ {us:List Value}{n:Int},aQ w B us xs→yD xs=some n→∃ ps:List (Int × Tok),us=ps.map (fun p=>Value.int p.1 p.2)∧(ps.map (·.1)).sum=n:=by
 induction xs with
 | nil=>intro us n q e;exact⟨[],q,Option.some.inj e⟩
 | cons a r ih =>
  intro us n q e
  obtain⟨v,us,rfl,p,q2⟩:=q.c
  refine ob e fun i hi e=>ob e fun m hm e=>p.iE hi fun t=>?_
  obtain⟨ps,h1,h2⟩:=ih q2 hm
  exact⟨(i,t)::ps,congrArg _ h1,by rw[List.map_cons,List.sum_cons,h2];exact Option.some.inj e⟩
section
variable {Γ:Gm}{H:PM}{F:Fr}{cx:Cx}{c:Cf}{s:Shared}{st:St}{Q:Value→Shared→Prop}{E:Value→Shared→Prop}{ih:Cx→Expr→St→Pg (PV × St)}
theorem CV (hK:cS Γ.w Γ.K Γ.T) (R:aC Γ.w H F.env c st s.heap) {v:Value}{x:FV}{tv:Nat ⊕ Ty} (p:aO Γ.w c.B v x) (e:rF Γ.T x=some tv):v ≠ .builtin "__main__.__loader__#opaque" ∧ ∃ Hx,KitX Γ.K v (jE tv) Hx∧Hx s.heap:=by
 cases x with
 | none=>rw[p.noneI,← Option.some.inj e];exact⟨nofun,_,kitx_none,trivial⟩
 | bool b=>rw[p.boolI,← Option.some.inj e];exact⟨nofun,_,kitx_bool,trivial⟩
 | int i=>rw[← Option.some.inj e];exact p.iE rfl fun t=>⟨nofun,_,kitx_int,trivial⟩
 | str i=>rw[← Option.some.inj e];exact p.sE rfl fun t=>⟨nofun,_,kitx_str,trivial⟩
 | tup i=>rw[← Option.some.inj e];exact p.tE rfl fun _ _ _ h _=>⟨nofun,_,kitx_tuple,⟨_,R.b _ _ h,rfl⟩⟩
 | lst i=>rw[← Option.some.inj e];exact p.lE rfl fun _ _ _ h _=>⟨nofun,_,kitx_list,⟨_,R.b _ _ h,rfl⟩⟩
 | obj D fs =>
  refine aD e fun hm e=>?_
  obtain⟨xa,dd,n,es,rfl,h1,h2,_⟩:=p.objI
  obtain⟨g1,g2,g3,g4,g5,g6⟩:=hK.isiO D (uB hm)
  rw[← Option.some.inj e]
  exact⟨nofun,_,kitx_own (ox:=instObj D dd) (od:=dictOf es n) g1 g2 g3 g4 g5 g6,R.b _ _ h1,rfl,rfl,R.b _ _ h2⟩
 | _=>exact nk3 e
theorem ED {t:FV}{tc:Value}{cc:Nat ⊕ Ty} (p:aO Γ.w c.B tc t) (e:Ag Γ.T t=some cc):tc=jE cc:=by
 cases t with
 | top C=>exact aD e fun _ e=>Option.some.inj e ▸ p
 | typ n=>exact aD e fun _ e=>Option.some.inj e ▸ p
 | _=>exact nk3 e
theorem AD (hK:cS Γ.w Γ.K Γ.T) {x t:FV}{b:Bool}{tc:Value}{tv:Nat ⊕ Ty} (hv:rF Γ.T x=some tv) (pt:aO Γ.w c.B tc t) (e:yN Γ.T x t=some b):kitOne Γ.K (jE tv) tc=some b :=
 ob e fun tv' h1 e=>ob e fun cc h2 e=>by
  obtain rfl:=Option.some.inj (hv.symm.trans h1)
  rw[ED pt h2,hK.isi tv cc x t hv h2];exact e
theorem Ic (hK:cS Γ.w Γ.K Γ.T) {x:FV}{tv:Nat ⊕ Ty} (hv:rF Γ.T x=some tv) {ts:List FV}:∀ {cs:List Value}{b:Bool},aQ Γ.w c.B cs ts→z0 Γ.T x ts=some b→kitAny Γ.K (jE tv) cs=some b:=by
 induction ts with
 | nil=>intro cs b p e;obtain rfl:=p.n;exact e
 | cons t r ihr =>
  intro cs b p e
  obtain⟨v,us,rfl,p,q⟩:=p.c
  refine ob e fun b' h e=>?_
  unfold kitAny
  rw[AD hK hv p h]
  cases b' with
  | true=>exact e
  | false=>exact ihr q e
theorem LB (hK:cS Γ.w Γ.K Γ.T) (o:Ok Γ H F c) (R:aC Γ.w H F.env c st s.heap) {v t:Value}{x y:FV}{b:Bool} (p:aO Γ.w c.B v x) (pt:aO Γ.w c.B t y) (e:zF Γ.T x y=some b) (q:∀ s',s'.heap=s.heap→aS s s'→Q (.bool b) s'):wpAny (model pw Γ.w) F.A (call (.builtin "isinstance") [v,t]) Q E s:=by
 have KI:=o.kin R
 have fin:∀ tk,Q (.bool b) { s with toks:=tk }:=fun tk=>q _ rfl ⟨rfl,rfl⟩
 refine fA e (fun l hl e=>aD e fun hn e=>?_) fun _ e=>ob e fun tv hv e'=>?_
 ·have hv:∃ tv,rF Γ.T x=some tv:=by
   cases l with
   | nil=>exact nk6 hn
   | cons t r=>exact ob e fun b' h _=>ob h fun tv hv _=>⟨tv,hv⟩
  obtain⟨tv,hv⟩:=hv
  obtain⟨hx,Hx,Z,hz⟩:=CV hK R p hv
  exact pt.tE hl fun a n us ha r=>kia_tup Z KI hz (R.b _ _ ha) (Ic hK hv r e) hx fin
 ·obtain⟨hx,Hx,Z,hz⟩:=CV hK R p hv
  exact kia_one Z KI hz (AD hK hv pt e) hx fin
theorem z9 {n:Nat} (h:fits n=true):(n:Int) < 2 ^ 63:=Int.lt_of_le_of_lt (Int.ofNat_le.mpr (Nat.le_of_ble_eq_true h)) (by decide)
theorem NY (hK:cS Γ.w Γ.K Γ.T) (hh:F.A.handled=none) (o:Ok Γ H F c) (R:aC Γ.w H F.env c st s.heap) {n:Bl}{vs:List Value}{ws:List PV} (ps:aX Γ.w c vs ws) {r:PV} (e:oZ Γ.T n ws st=some r)
  (q:∀ u s',aC Γ.w H F.env c st s'.heap→aH Γ.w c u r→aS s s'→Q u s'):wpAny (model pw Γ.w) F.A (call (.builtin n.id) vs) Q E s:=by
 cases n with
 | len =>
  refine ob e fun w hw e=>ps.oneE hw fun v p=>fA e (fun x hx e=>aD e fun hf e=>p.sE hx fun t=>?_) fun _ e=>ob e fun xs hx e=>aD e fun hf e=>R.itE p hx fun a us m h2 h1=>?_
  ·exact PyProof.Rows.len_str (Int.not_le.mpr (z9 hf)) (q _ _ R (Option.some.inj e ▸ .int _ _) ⟨rfl,rfl⟩)
  ·have hsz:(us.toArray.size:Int)=xs.length:=congrArg Int.ofNat h1.length
   refine call_len_list (items:=us.toArray) ⟨_,h2,rfl,_,rfl⟩ (by rw[hsz];exact z9 hf) ?_
   rw[hsz]
   exact q _ _ R (Option.some.inj e ▸ .int _ _) ⟨rfl,rfl⟩
 | ord=>exact ob e fun w hw e=>ob e fun x hx e=>ob e fun k hk e=>ps.oneE hw fun v p=>p.sE hx fun t=>by rw[eA hk];exact P.ord_of_char (q _ _ R (Option.some.inj e ▸ .int _ _) ⟨rfl,rfl⟩)
 | chr =>
  refine ob e fun w hw e=>ob e fun i hi e=>ob e fun k hk e=>aD e fun hb e=>ps.oneE hw fun v p=>p.iE hi fun t=>?_
  rw[lX hk]
  refine P.chr_of_int ?_ (q _ _ R (Option.some.inj e ▸ .str [_] _) ⟨rfl,rfl⟩)
  rw[decide_eq_false (Int.not_lt.mpr (Int.natCast_nonneg k)),decide_eq_false (Int.not_lt.mpr (Int.ofNat_le.mpr (Nat.le_of_lt_succ (eK hb))):¬ (k:Int) > 0x10FFFF)];rfl
 | isi=>exact ob e fun w hw e=>ob e fun x hx e=>ob e fun y hy e=>ob e fun b hb e=>ps.twoE hw fun v1 v2 p1 p2=>LB hK o R (p1.fE hx) (p2.fE hy) hb fun s' e' z=>q _ _ (e' ▸ R) (Option.some.inj e ▸ .bool _) z
 | max =>
  refine ob e fun w hw e=>ob e fun i hi e=>ob e fun j hj e=>ps.twoE hw fun v1 v2 p1 p2=>p1.iE hi fun t=>p2.iE hj fun u=>max_two_ints hh fun h' tk g=>?_
  rw[← Option.some.inj e]at q
  split
  ·rename_i z;rw[if_pos z]at q;exact q _ _ (R.grows g) (.int _ _) ⟨rfl,rfl⟩
  ·rename_i z;rw[if_neg z]at q;exact q _ _ (R.grows g) (.int _ _) ⟨rfl,rfl⟩
 | sum =>
  refine ob e fun w hw e=>ob e fun xs hx e=>ob e fun i hi e=>ps.oneE hw fun v p=>R.itE p hx fun a us m h2 h1=>?_
  obtain⟨pp,h3,h4⟩:=A0 h1 hi
  refine sum_intListG hh (xs:=pp.toArray) ⟨_,(show us.toArray=intItems pp.toArray by rw[h3];simp[intItems]) ▸ h2,rfl,_,rfl⟩ fun h' tk t' g=>?_
  rw[show preSum (numAt pp.toArray) pp.toArray.size=i by rw[preSum_eq,List.take_of_length_le (by simp)];simpa using h4]
  exact q _ _ (R.grows g) (Option.some.inj e ▸ .int _ _) ⟨rfl,rfl⟩
theorem NN (R:aC Γ.w H F.env c st s.heap) {n:Ty}{line:Nat}{vs:List Value}{ws:List PV} (ps:aX Γ.w c vs ws) {r:PV × St} (e:jR Γ.T n line ws st=some r)
  (q:∀ c' u s',c.le c'→aC Γ.w H F.env c' r.2 s'.heap→aH Γ.w c' u r.1→aS s s'→Q u s'):wpAny (model pw Γ.w) F.A (call (.type n.id) vs) Q E s:=by
 refine ob e fun w hw e=>ps.oneE hw fun v p=>?_
 cases n with
 | list =>
  refine ob e fun xs hx e=>R.itE p hx fun a us m h2 h1=>?_
  refine call_list_seq a (items:=us.toArray) (.inl rfl) h2 rfl rfl (fun h' c' g get=>?_) (aD e fun hf _=>by rw[List.size_toArray,h1.length];exact cY hf)
  obtain⟨_,c₂,l₂,R₂,p₂⟩:=yL R h1 e (h':=h') g (get?_size _) get
  exact q c₂ _ _ l₂ R₂ p₂ ⟨rfl,rfl⟩
 | str =>
  refine ob e fun a ha e=>aD e fun hl e=>p.iE ha fun t=>?_
  rw[← Option.some.inj e]at q
  exact P.str_of_int (eK hl) (q c _ _ (.refl c) R (.strS _ _) ⟨rfl,rfl⟩)
 | int =>
  refine ob e fun b hb e=>fR hb fun y hy hb=>(p.fE (hy ▸ rfl)).bE hb ?_
  rw[← Option.some.inj e]at q
  exact call_int_bool (q c _ _ (.refl c) R (.int _ _) ⟨rfl,rfl⟩)
 | _=>exact nk3 e
end
end Mine
end
section
namespace Mine
theorem Hm {w:World}{A:Around}{K:Frag}{C x dx:Addr}{s:Shared}{R:Result→Shared→Prop}{ox:Obj}{name:Str}{tk:Tok}{v:Value}{es:List DictEntry}{n:Nat} (X:K.In s.heap) (I:W.InstAt s.heap x ox C (some (dictOf es n))) (hd:ox.dict=some dx)
  (hp:plainOver K C=true) (ht:takerIn K C name=some none) (hh:hasDictIn K C=true) (hl:es.any (·.refKey)=false) (hz:(putL name (PyData.keyHash w.params name) (.str name s.toks) v es).length ≤ 1000)
  (h:R (.ok (.ret .none)) { s with heap:=s.heap.update dx (Obj.putName name (PyData.keyHash w.params name) (.str name s.toks) v),toks:=s.toks + 1 }) :
  codeAny (model pw w) A (.call (.builtin "object.__setattr__") ⟨[.ref x,.str name tk,v],[]⟩) R s:=by
 refine osa_open X I hp ht fun b=>?_
 have hh':∃ cd,clsIn K C=some cd∧cd.hasDict=true:=by
  unfold hasDictIn at hh
  cases hc:clsIn K C with
  | none=>rw[hc]at hh;exact nk6 hh
  | some cd=>rw[hc]at hh;exact⟨cd,rfl,hh⟩
 obtain⟨cd,hc,hcd⟩:=hh'
 obtain⟨hx,hcl,hn,hdd⟩:=I
 obtain⟨oc,odi,oda,osl⟩:=ox
 dsimp only at hcl hd hdd
 subst hcl hd
 have D:s.heap.get? dx=some (dictOf es n):=hdd
 have D':(s.heap.update dx (Obj.putName name (PyData.keyHash w.params name) (.str name s.toks) v)).get? dx=some (dictOf (putL name (PyData.keyHash w.params name) (.str name s.toks) v es) (putN name es n)):=by
  rw[Heap.get?_update_self _ D (by rw[putName_dict];rfl),putName_dict]
 refine wpAny_bind (wpAny_pure (wpAny_bind (wpAny_bind (wpAny_loadPart hx (wpAny_bind ((looks_clsIn X hc).here ?_))))))
 rw[hcd]
 refine wpAny_pure (a:=some dx) (wpAny_bind (wpAny_pure (wpAny_bind ?_)))
 unfold nsSet
 refine wpAny_bind (wpAny_bind (wpAny_askSetting (wpAny_pure (wpAny_bind (wpAny_mkText (wpAny_bind (wpAny_loadPart D ?_)))))))
 dsimp only
 have c:(!es.toArray.any (·.key.isStr name)&&es.toArray.any (·.refKey))=false:=by
  have e:es.toArray.any (·.refKey)=false:=by rw[← hl];simp
  rw[e,Bool.and_false]
 rw[aRefKeyMayBeTheName_at,c]
 refine wpAny_updatePart D ?_
 refine wpAny_bind (wpAny_lookBehind D' (pastItsLine_dict (by rw[List.size_toArray,sizeLine_eq];omega)) ?_)
 exact wpAny_pure h
theorem fJ.length {α:Type}{R:Value→α→Prop}{fs:List (Str × α)}:∀ {es:List DictEntry},fJ R es fs→es.length=fs.length:=by
 induction fs with
 | nil=>exact fun h=>congrArg List.length h
 | cons x r ih=>intro es h;obtain⟨e,q,rfl,_,h⟩:=h.cI;exact congrArg (· + 1) (ih h)
theorem fJ.noRef {α:Type}{R:Value→α→Prop}{fs:List (Str × α)}:∀ {es:List DictEntry},fJ R es fs→es.any (·.refKey)=false:=by
 induction fs with
 | nil=>intro es h;obtain rfl:es=[]:=h;rfl
 | cons x r ih =>
  intro es h
  obtain⟨e,q,rfl,⟨⟨t,hk⟩,_⟩,h⟩:=h.cI
  rw[List.any_cons,show e.refKey=false by unfold DictEntry.refKey;rw[hk],ih h];rfl
theorem FJ (name:Str) (hsh:Int) (key v:Value) (es:List DictEntry):(putL name hsh key v es).length ≤ es.length + 1:=by
 induction es with
 | nil=>exact Nat.le_refl _
 | cons e r ih =>
  unfold putL
  split
  ·exact Nat.le_succ _
  ·exact Nat.succ_le_succ ih
theorem fJ.put {α:Type}{R:Value→α→Prop}{name:Str}{hsh:Int}{tk:Tok}{v:Value}{y:α} (p:R v y) {fs:List (Str × α)}:∀ {es:List DictEntry},fJ R es fs→fJ R (putL name hsh (.str name tk) v es) (Mine.put name y fs):=by
 induction fs with
 | nil=>intro es h;obtain rfl:es=[]:=h;exact⟨_,_,rfl,⟨⟨tk,rfl⟩,p⟩,rfl⟩
 | cons x r ih =>
  intro es h
  obtain⟨e,q,rfl,⟨⟨t,hk⟩,p'⟩,h⟩:=h.cI
  unfold putL
  rw[hk,DF]
  by_cases z:x.1=name
  ·rw[if_pos (beq_iff_eq.mpr z),BO z.symm]
   exact⟨_,_,rfl,⟨⟨t,congrArg (Value.str · t) z⟩,p⟩,h⟩
  ·rw[if_neg fun y=>z (beq_iff_eq.mp y),A3 fun y=>z y.symm]
   exact⟨_,_,rfl,⟨⟨t,hk⟩,p'⟩,ih h⟩
section
variable {w:World}{H:PM}{env:Env}{c:Cf}{st:St}{h h':Heap}{v:Value}
theorem aC.setG (R:aC w H env c st h) {k:Nat}{t:bZ}{a:Addr}{sl:Slot}{o':Obj}{m m':MO} (ht:t=.g k∨t=.d k) (hw:c.ow a=some t) (hk:st.g[k]? = some m) (hS:c.S[k]? = some sl) (hs:∀ b,b ≠ a→h'.get? b=h.get? b) (ha:h'.get? a=some o')
  (ho:Own w env c { st with g:=e9 st.g k m' } a o' t) (kg:∀ b o,b ≠ a→sl.addr=b→jD w c sl o m→jD w c sl o m') (kd:∀ b a' o,b ≠ a→sl=.o a' b→∀ C fs,m'=.inst C fs→(∀ C fs,m=.inst C fs→∃ es n,o=dictOf es n∧iA w c es fs)→∃ es n,o=dictOf es n∧iA w c es fs):aC w H env c { st with g:=e9 st.g k m' } h':=by
 refine R.set (st':={ st with g:=e9 st.g k m' }) hw hs ha ho ⟨R.ix.loc,R.ix.cel,R.ix.celd,R.ix.gl.trans (kZ _ _ _).symm,R.ix.g,R.ix.ll,R.ix.l,R.ix.nol⟩ fun b o u nb q=>?_
 cases u with
 | g j =>
  obtain⟨C6,q1,q2,q3⟩:=q
  refine Own.gI q1 q2 fun mm e=>dW e (fun z _ e'=>?_) (fun _=>q3 mm) fun z=>absurd (dJ q1) (Nat.not_lt.mpr (R.ix.gl ▸ List.getElem?_eq_none_iff.mp z))
  subst z
  obtain rfl:=Option.some.inj (hS.symm.trans q1)
  exact Option.some.inj e' ▸ kg b o nb q2 (q3 m hk)
 | d j =>
  obtain⟨a',q1,q3⟩:=q
  refine Own.dI q1 fun C fs e=>dW e (fun z _ e'=>?_) (fun _=>q3 C fs) fun z=>absurd (dJ q1) (Nat.not_lt.mpr (R.ix.gl ▸ List.getElem?_eq_none_iff.mp z))
  subst z
  exact kd b a' o nb (Option.some.inj (hS.symm.trans q1)) C fs (Option.some.inj e') fun C fs e=>q3 C fs (hk.trans (congrArg _ e))
 | _=>exact q
end
section
variable {Γ:Gm}{H:PM}{F:Fr}{cx:Cx}{c:Cf}{s:Shared}{st:St}{Q:Unit→Shared→Prop}{E:Value→Shared→Prop}{ih:Cx→Expr→St→Pg (PV × St)}
theorem CP (hK:cS Γ.w Γ.K Γ.T) (o:Ok Γ H F c) (R:aC Γ.w H F.env c st s.heap) {v u:Value}{x y:PV}{a:Str}{st':St} (p:aH Γ.w c v x) (py:aH Γ.w c u y) (e:Ax Γ.T x a y st=some st') (q:∀ s',aC Γ.w H F.env c st' s'.heap→aS s s'→Q () s'):wpAny (model pw Γ.w) F.A (setAttr v a u) Q E s:=by
 have KI:=o.kin R
 refine ob e fun k hk e=>ob e fun r hr e=>aD e fun hf e=>aD e fun hl e=>aD e fun hn e=>?_
 rw[← Option.some.inj e]at q
 refine R.iE p hk hr fun xa dd es n hS o1 o2 a1 a4 a5=>?_
 obtain⟨g1,g2,g3,g4,g5,g6⟩:=hK.fld _ a hf
 have I:W.InstAt s.heap xa (instObj r.1 dd) r.1 (some (dictOf es n)):=⟨a1,rfl,rfl,a4⟩
 refine set_plain KI I g4 (Hm (s:={ s with toks:=s.toks + 1 }) KI I rfl g5 g6 g2 (fJ.noRef a5) (Nat.le_trans (FJ _ _ _ _ es) (Nat.le_trans (Nat.succ_le_of_lt (fJ.length a5 ▸ eK hl)) (by decide))) ?_)
 have get:(s.heap.update dd (Obj.putName a (PyData.keyHash Γ.w.params a) (.str a (s.toks + 1)) u)).get? dd=some (dictOf (putL a (PyData.keyHash Γ.w.params a) (.str a (s.toks + 1)) u es) (putN a es n)):=by
  rw[Heap.get?_update_self _ a4 (by rw[putName_dict];rfl),putName_dict]
 refine q _ (R.setG (t:=.d k) (.inr rfl) o2 (nZ hr) hS (fun b hb=>Heap.get?_update_ne _ _ _ _ hb) get (Own.dI hS fun C fs e=>dW e (fun _ _ e'=>?_) (fun z=>absurd rfl z) fun z=>nk4 ((nZ hr).symm.trans z)) (fun b o nb e g=>?_) fun b a' o nb e=>absurd (by injection e with _ e;exact e.symm) nb) ⟨rfl,rfl⟩
 ·injection Option.some.inj e' with _ e2;exact⟨_,_,rfl,e2 ▸ fJ.put py a5⟩
 ·obtain⟨a1,d1,e1,e2⟩:=g;exact⟨a1,d1,e1,e2⟩
end
end Mine
end
section
namespace Mine
theorem jT {α:Type u}{c:Prop} [Decidable c] {x y:α}{P:α→Prop} (h1:c→P x) (h2:¬c→P y):P (if c then x else y):=by
 by_cases h:c
 ·rw[if_pos h];exact h1 h
 ·rw[if_neg h];exact h2 h
theorem aX.reverse {w:World}{c:Cf}{ws:List PV}:∀ {vs:List Value},aX w c vs ws→aX w c vs.reverse ws.reverse:=by
 induction ws with
 | nil=>intro vs h;obtain rfl:=h.c0;exact h
 | cons x r ih=>intro vs h;obtain⟨v,u,rfl,p,h⟩:=h.cI;rw[List.reverse_cons,List.reverse_cons];exact aX.app (aX.cons p .nil) (ih h)
theorem aX.ofF {w:World}{c:Cf}{xs:List FV}:∀ {vs:List Value},aQ w c.B vs xs→aX w c vs (xs.map .f):=by
 induction xs with
 | nil=>exact fun h=>h
 | cons x r ih=>exact fun h=>h.c.imp fun v h=>h.imp fun r h=>⟨h.1,h.2.1,ih h.2.2⟩
section
variable {Γ:Gm}{H:PM}{F:Fr}{cx:Cx}{c:Cf}{s:Shared}{st:St}{Q:Unit→Shared→Prop}{E:Value→Shared→Prop}{ih:Cx→Expr→St→Pg (PV × St)}
theorem Dt {env:Env} (h:env.scope.kind=.function):(env.scope.kind == .class||(env.scope.kind == .module&&env.locals != env.globals))=false:=by rw[h];rfl
theorem kU (hF:aV Γ F cx) (o:Ok Γ H F c) (R:aC Γ.w H F.env c st s.heap) {n:Str}{v:Value}{x:PV}{st':St} (p:aH Γ.w c v x) (e:gO cx n x st=some st') (q:∀ s',aC Γ.w H F.env c st' s'.heap→aS s s'→Q () s'):wpAny (model pw Γ.w) F.A (storeName F.env n v) Q E s:=by
 refine ob e fun k hk e=>?_
 cases k with
 | «local» =>
  rw[← Option.some.inj e]at q
  obtain⟨ob,e1,_,es,ep,e2,e3,_⟩:=R.owG R.ix.loc
  have hn:s.heap.Ns F.env.locals (nsFind es):=⟨ob,es,ep,e1,e2,e3,fun _=>rfl⟩
  exact wpAny_storeName_local (hF.names n _ hk nofun) hn (fun h' hn' hs=>q _ (R.setV hs hn hn' p) ⟨rfl,rfl⟩) (Dt hF.kind)
 | cell =>
  rw[← Option.some.inj e]at q
  obtain⟨hro,hce⟩:=hF.cells n hk
  obtain⟨a,ha⟩:=Option.isSome_iff_exists.mp hce
  have how:c.ow a=some (.c n):=(R.ix.cel n a ha).elim id fun z=>nk6 (hro.symm.trans (o.ro.symm.trans z.1))
  obtain⟨ob,e1,_,v₀,e2,_⟩:=R.owG how
  exact wpAny_storeName_cell hF.kind (hF.names n _ hk nofun) ha ⟨ob,e1,e2⟩ fun h' hc' hs=>q _ (R.setC ha how hs hc' p) ⟨rfl,rfl⟩
 | _=>exact nk3 e
theorem sX {A:Around}{l:Addr}{us:List Value}{n:Nat}{k:Int}{j:Nat}{t:Tok}{v:Value} (h:s.heap.get? l=some (PySem.W.listOf us.toArray n)) (e:k=(j:Int)) (hj:j < us.length) (hf:k < 2 ^ 63)
  (q:Q () { s with heap:=s.heap.update l (Obj.mapSeq (·.setIfInBounds j v)) }):wpAny (model pw Γ.w) A (setItem (.ref l) (.int k t) v) Q E s:=by
 have hl:s.heap.IsList l us.toArray:=⟨_,h,rfl,_,rfl⟩
 have h0:0 ≤ k:=e ▸ Int.natCast_nonneg j
 unfold setItem
 refine wpAny_holding (wpAny_bind (wpAny_sequenceKey hl.typeIs (by decide) ?_))
 refine wpAny_bind (wpAny_callSpecial?_slot (name:=Str.ofString "__setitem__") hl.typeIs slot_list_setitem (wpAny_call_entry slot_list_setitem hl.typeIs entry_list_setitem ?_ (args_list_setitem _ _ _)))
 show wpAny _ _ (Builtin.List.listSubscript? (.int k t) >>= _) _ _ s
 refine wpAny_bind (wpAny_listSubscript_int (fitsIndex_of h0 hf) ?_)
 clear hf h0
 subst e
 show wpAny _ _ ((seqItemAt l j >>= fun r=>pure (r.map (j,·))) >>= _) _ _ s
 refine wpAny_bind (wpAny_bind (wpAny_seqItemAt h rfl (wpAny_pure ?_)))
 rw[show us.toArray[j]? = some (us[j]) from(List.getElem?_toArray ..).trans (List.getElem?_eq_getElem hj)]
 show wpAny _ _ (setSeqItemAt l j v >>= _) _ _ s
 exact wpAny_bind (wpAny_setSeqItemAt h rfl (wpAny_bind (wpAny_pure (wpAny_pure ⟨.none,rfl,wpAny_pure q⟩))))
theorem u5 {i:Int}{n j:Nat} (h:xK i n=some j):i=(j:Int)∧j < n∧(j:Int) < 2 ^ 63 :=
 ob h fun k hk h=>aD h fun h1 h=>aD h fun h2 h=>Option.some.inj h ▸ ⟨lX hk,eK h1,Int.lt_of_le_of_lt (Int.ofNat_le.mpr (Nat.le_of_ble_eq_true h2)) (by decide)⟩
theorem qN (us:List Value) (n j:Nat) (v:Value):∃ m,Obj.mapSeq (·.setIfInBounds j v) (PySem.W.listOf us.toArray n)=PySem.W.listOf (us.set j v).toArray m :=
 ⟨_,congrArg (fun x=>PySem.W.listOf x (if (us.toArray.setIfInBounds j v).size == us.toArray.size then n else n + 1)) (List.setIfInBounds_toArray us j v)⟩
theorem Hh (R:aC Γ.w H F.env c st s.heap) {v vi u:Value}{x i y:PV}{st':St} (p:aH Γ.w c v x) (pi:aH Γ.w c vi i) (py:aH Γ.w c u y) (e:JY x i y st=some st') (q:∀ s',aC Γ.w H F.env c st' s'.heap→aS s s'→Q () s'):wpAny (model pw Γ.w) F.A (setItem v vi u) Q E s:=by
 refine ob e fun i' hi e=>ob e fun y' hy e=>pi.iE hi fun t=>?_
 have py:=py.fE hy
 have get:∀ {a n j m:Nat}{us:List Value},Obj.mapSeq (·.setIfInBounds j u) (PySem.W.listOf us.toArray n)=PySem.W.listOf (us.set j u).toArray m→s.heap.get? a=some (PySem.W.listOf us.toArray n)→(s.heap.update a (Obj.mapSeq (·.setIfInBounds j u))).get? a=some (PySem.W.listOf (us.set j u).toArray m):=fun h e=>(Heap.get?_update_self _ e (by rw[h];rfl)).trans (congrArg some h)
 cases x with
 | f=>exact nk3 e
 | loc k =>
  refine ob e fun xs hx e=>ob e fun j hj e2=>R.lE p rfl hx fun a us n h1 h2 h4 h5=>?_
  obtain⟨rfl,a1,a2⟩:=u5 hj
  obtain⟨m,hm⟩:=qN us n j u
  rw[← Option.some.inj e2]at q
  exact sX (Γ:=Γ) h4 rfl (h5.length ▸ a1) a2 (q _ (R.setL (m:=.dead) h1 h2 (fun b hb=>Heap.get?_update_ne _ _ _ _ hb) (get hm h4) (by rw[oE];exact h5.set py j)) ⟨rfl,rfl⟩)
 | ref k =>
  refine ob e fun xs hx e=>ob e fun j hj e2=>?_
  obtain⟨sl,o,rfl,hS,how,g1,a,us,n,rfl,rfl,f⟩:=R.gAt p (fQ hx)
  obtain⟨rfl,a1,a2⟩:=u5 hj
  obtain⟨m,hm⟩:=qN us n j u
  rw[← Option.some.inj e2]at q
  refine sX (Γ:=Γ) g1 rfl (f.length ▸ a1) a2 (q _ (R.setG (.inl rfl) how (fQ hx) hS (fun b hb=>Heap.get?_update_ne _ _ _ _ hb) (get hm g1) (Own.gI hS rfl fun mm e'=>dW e' (fun _ _ e'=>Option.some.inj e' ▸ jD.lstI (by rw[oE];exact f.set py j)) (fun z=>absurd rfl z) fun z=>nk4 ((fQ hx).symm.trans z)) (fun b o nb e=>absurd e.symm nb) fun b a' o nb e=>nofun) ⟨rfl,rfl⟩)
noncomputable def OF (Γ:Gm) (H:PM) (f:Cx→Expr→PV→St→Pg (Unit × St)):Prop :=
 ∀ (F:Fr) (cx:Cx) (t:Expr) (x:PV) (st:St) (v:Value) (c:Cf) (s:Shared) (Q:Unit→Shared→Prop) (E:Value→Shared→Prop),aV Γ F cx→Ok Γ H F c→aC Γ.w H F.env c st s.heap→aH Γ.w c v x →
  aG Γ VU H F (f cx t x st) c s Q E→wpAny (model pw Γ.w) F.A (assign t F.env v) Q E s
theorem d3 {ts:List Expr} (h:ts.all bO=true) (env:Env):assignEach ts env=ts.map fun t=>(false,assign t env):=by
 induction ts with
 | nil=>rfl
 | cons t r ih =>
  obtain⟨h1,h2⟩:=Bool.and_eq_true_iff.mp h
  rw[List.map_cons,← ih h2]
  cases t with
  | Set=>exact nk6 h1
  | Starred=>exact nk6 h1
  | _=>rfl
theorem zX {A:Cx→Expr→PV→St→Pg (Unit × St)} (hF:aV Γ F cx) (hA:OF Γ H A) (ts:List Expr):∀ (ws:List PV) (vs:List Value) (st:St) (c:Cf) (s:Shared) (Q:Unit→Shared→Prop) (E:Value→Shared→Prop),Ok Γ H F c→aC Γ.w H F.env c st s.heap→aX Γ.w c vs ws →
  aG Γ VU H F (rO (A cx) ts ws st) c s Q E→wpAny (model pw Γ.w) F.A (assignInOrder (ts.map fun t=>assign t F.env) vs) Q E s:=by
 induction ts with
 | nil =>
  intro ws vs st c s Q E o R p g
  refine aG.gp g fun hn g=>?_
  obtain rfl:vs=[]:=aX.c0 (bN hn ▸ p)
  exact wpAny_pure (g.done R trivial)
 | cons t ts ih =>
  intro ws vs st c s Q E o R p g
  cases ws with
  | nil=>exact g.stuck
  | cons x ws =>
   obtain⟨v,us,rfl,p,q⟩:=p.cI
   show wpAny _ _ (do holding us (assign t F.env v);assignInOrder (ts.map fun t=>assign t F.env) us) Q E s
   exact wpAny_bind (wpAny_holding (aG.bindC (V₁:=VU) g (hA F cx t x st v c s _ E hF o R p) o fun b st₁ c₁ a s₁ _ l₁ o₁ R₁ _ z₁ g=>ih ws us st₁ c₁ s₁ Q E o₁ R₁ (q.mono l₁) g))
theorem Ii (env:Env) (l:List Expr):(l.map fun t=>(false,assign t env)).findIdx? (·.1)=none:=by
 induction l with
 | nil=>rfl
 | cons a r ih=>rw[List.map_cons,List.findIdx?_cons,ih];rfl
theorem vK (hF:aV Γ F cx) {ts:List Expr}{x1:Nat}{pos:Pos}{a:Addr}{us:List Value} (h2:ts.all bO=true) (ht:s.heap.IsTuple a us.toArray) (hl:ts.length=us.length)
  (q:∀ h',aY s.heap h'→wpAny (model pw Γ.w) F.A (assignInOrder (ts.map fun t=>assign t F.env) us) Q E { s with heap:=h' }):wpAny (model pw Γ.w) F.A (assign (.Tuple ts x1 pos) F.env (.ref a)) Q E s:=by
 refine wpAny_assign_Tuple (items:=us.toArray) hF.handled ht ?_ ?_ fun h' hx=>?_
 ·rw[d3 h2,List.length_map,List.size_toArray];exact hl
 ·rw[d3 h2];exact Ii _ ts
 ·rw[d3 h2,List.map_map]
  exact q h' fun b ob e=>hx b ob (Nat.ne_of_lt (Heap.lt_size e)) e
theorem sW (hK:cS Γ.w Γ.K Γ.T) (hI:cA Γ H (E0 Γ.T)) (k:Nat):OF Γ H (fun cx t x st=>pI Γ.T cx k t x st):=by
 induction k with
 | zero=>exact fun F cx t x st v c s Q E hF o R p g=>g.stuck
 | succ k ihk =>
  intro F cx t x st v c s Q E hF o R p g
  cases t with
  | Name n pos=>exact g.opt fun st' e g=>wpAny_assign_Name (kU hF o R p e fun s' R' z=>aG.done' g (.refl c) R' trivial z)
  | Attribute ob a pos =>
   show wpAny _ _ (do let ov ← holding [v] (eval ob F.env);standAt pos.atName;holding [v,ov] (setAttr ov a v);release [v,ov] []) Q E s
   exact wpAny_bind (wpAny_holding (aG.bind g (hI F cx ob st hF) o R fun w₁ st₁ c₁ v₁ s₁ _ l₁ o₁ R₁ p₁ z₁ g=>g.opt fun st' e g=>wpAny_bind (wpAny_standAt (wpAny_bind (wpAny_holding (CP hK o₁ R₁ p₁ (p.mono l₁) e fun s' R' z=>wpAny_release (aG.done' g (.refl _) R' trivial z)))))))
  | Subscript ob i pos =>
   rw[arm_assign_Subscript]
   exact wpAny_bind (wpAny_holding (aG.bind g (hI F cx ob st hF) o R fun w₁ st₁ c₁ v₁ s₁ _ l₁ o₁ R₁ p₁ z₁ g=>wpAny_bind (wpAny_holding (aG.bind g (hI F cx i st₁ hF) o₁ R₁ fun w₂ st₂ c₂ v₂ s₂ _ l₂ o₂ R₂ p₂ z₂ g=>g.opt fun st' e g =>
    wpAny_bind (wpAny_standAt (wpAny_bind (wpAny_holding (Hh R₂ (p₁.mono l₂) p₂ ((p.mono l₁).mono l₂) e fun s' R' z=>wpAny_release (aG.done' g (.refl _) R' trivial z)))))))))
  | Tuple ts x1 pos =>
   refine g.opt fun xs hx g=>g.gp fun h1 g=>g.gp fun h2 g=>fR hx fun y hy hx=>(p.fE (hy ▸ rfl)).tE hx fun a n us hb rb=>?_
   exact vK hF h2 ⟨_,R.b _ _ hb,rfl,_,rfl⟩ ((Nat.eq_of_beq_eq_true h1).trans rb.length.symm) fun h' gr=>zX hF ihk ts (xs.map .f) us st c _ Q E o (R.grows gr) (.ofF rb) (aG.mono g (.refl c) ⟨rfl,rfl⟩)
  | _=>exact g.stuck
noncomputable def Cy (env:Env) (ts:List Expr):List Str→Prop:=@List.rec Expr (fun _=>List Str→Prop) (fun ns=>ns=[]) (fun t _ ih ns=>∃ n p r,t=.Name n p∧ns=n::r∧env.kindOf n=some .local∧ih r) ts
noncomputable def qI (L:List (Str × PV)):List (Str × PV)→List (Str × PV):=@List.rec (Str × PV) (fun _=>List (Str × PV)→List (Str × PV)) (fun m=>m) (fun p _ ih m=>ih (put p.1 p.2 m)) L
theorem oU {z:Str}{L:List (Str × PV)}:∀ {m:List (Str × PV)},z ∉ L.map (·.1)→lk z (qI L m)=lk z m:=by
 induction L with
 | nil=>exact fun _=>rfl
 | cons p r ih=>intro m n;exact(ih fun h=>n (List.mem_cons_of_mem _ h)).trans (rN (fun h:z=p.1=>n (by rw[h];exact List.mem_cons_self)) m)
theorem uR {z:Str}{u:PV}{L:List (Str × PV)}:∀ {m:List (Str × PV)},(L.map (·.1)).Nodup→(z,u) ∈ L→lk z (qI L m)=some u:=by
 induction L with
 | nil=>exact fun _ h=>absurd h List.not_mem_nil
 | cons p r ih =>
  intro m nd h
  obtain⟨n1,n2⟩:=List.nodup_cons.mp nd
  rcases List.mem_cons.mp h with h | h
  ·subst h;exact(oU n1).trans (rS rfl m)
  ·exact ih n2 h
theorem y6 {L:List (Str × PV)} (nd:(L.map (·.1)).Nodup) (m:List (Str × PV)) (z:Str):lk z (qI L m)=lk z (qI L.reverse m):=by
 have nd':(L.reverse.map (·.1)).Nodup:=by rw[List.map_reverse];exact List.pairwise_reverse.mpr (nd.imp Ne.symm)
 by_cases h:z ∈ L.map (·.1)
 ·obtain⟨p,h1,h2⟩:=List.mem_map.mp h
  have h1:(z,p.2) ∈ L:=h2 ▸ h1
  rw[uR nd h1,uR nd' (List.mem_reverse.mpr h1)]
 ·rw[oU h,oU (by rw[List.map_reverse];exact fun y=>h (List.mem_reverse.mp y))]
theorem aC.congrV {w:World}{env:Env}{h:Heap} (R:aC w H env c st h) {v':List (Str × PV)} (hv:∀ x,lk x v'=lk x st.v):aC w H env c { st with v:=v' } h :=
 ⟨R.b,R.bh,R.hh,R.fsH,fun a t e=>⟨R.owB e,R.owH e,(R.owG e).imp fun o q=>⟨q.1,by
  cases t with
  | v=>exact And.imp_right (fun q=>q.imp fun _ q=>q.imp fun _ q=>⟨q.1,q.2.1,fun x u e=>q.2.2 x u ((hv x).symm.trans e)⟩) q.2
  | _=>exact q.2⟩⟩,R.ix⟩
theorem CJ (hF:aV Γ F cx) {k:Nat}{ts:List Expr}:∀ {ns:List Str}{ws:List PV}{st:St},Cy F.env ts ns→aG Γ VU H F (rO (pI Γ.T cx (k + 1)) ts ws st) c s Q E →
  (∀ n ∈ ns,kindOf cx.sc n=some .local)∧ts.filterMap (As cx)=ns∧ns.length=ws.length∧aG Γ VU H F (.ok ((),{ st with v:=qI (ns.zip ws) st.v })) c s Q E:=by
 induction ts with
 | nil=>intro ns ws st hn g;obtain rfl:ns=[]:=hn;exact g.gp fun h g=>bN h ▸ ⟨iJ,rfl,rfl,g⟩
 | cons t r ihr =>
  intro ns ws st hn g
  obtain⟨n,p,ns,rfl,rfl,hk,hn⟩:∃ n p r',t=.Name n p∧ns=n::r'∧F.env.kindOf n=some .local∧Cy F.env r r':=hn
  cases ws with
  | nil=>exact g.stuck
  | cons x ws =>
   have g:aG Γ VU H F ((opt (gO cx n x st) Go).bind fun q=>rO (pI Γ.T cx (k + 1)) r ws q.2) c s Q E:=g
   cases e:gO cx n x st with
   | none=>rw[e]at g;exact absurd rfl g.go
   | some st' =>
    rw[e]at g
    refine ob e fun kd hkd e=>?_
    cases kd with
    | «local» =>
     obtain rfl:=Option.some.inj e
     obtain⟨i1,i2,i3,i4⟩:=ihr hn g
     refine⟨fun m hm=>(List.mem_cons.mp hm).elim (fun z=>z ▸ hkd) (i1 m),?_,congrArg (· + 1) i3,i4⟩
     rw[List.filterMap_cons,show As cx (.Name n p)=some n by unfold As;show(kindOf cx.sc n).bind _=_;rw[hkd];rfl,i2]
    | cell=>exact absurd ((hF.names n _ hkd nofun).symm.trans hk) nofun
    | _=>exact nk3 e
theorem CA (hF:aV Γ F cx) (o:Ok Γ H F c) (L:List (Str × PV)):∀ {vs:List Value}{st:St}{s:Shared},(∀ p ∈ L,kindOf cx.sc p.1=some .local)→aC Γ.w H F.env c st s.heap→aX Γ.w c vs (L.map (·.2))→(∀ s',aC Γ.w H F.env c { st with v:=qI L st.v } s'.heap→aS s s'→Q () s') →
  wpAny (model pw Γ.w) F.A (assignInOrder ((L.map (·.1)).map fun n=>bindName F.env n) vs) Q E s:=by
 induction L with
 | nil=>intro vs st s _ R p q;obtain rfl:=p.c0;exact wpAny_pure (q s R (.refl s))
 | cons a r ihr =>
  intro vs st s hk R p q
  obtain⟨v,us,rfl,p,ps⟩:=p.cI
  show wpAny _ _ (do holding us (bindName F.env a.1 v);assignInOrder ((r.map (·.1)).map fun n=>bindName F.env n) us) Q E s
  refine wpAny_bind (wpAny_holding (wpAny_bindName (kU hF o R p (st':={ st with v:=put a.1 a.2 st.v }) (by unfold gO;rw[hk a List.mem_cons_self];rfl) fun s' R' z=>ihr (fun p hp=>hk p (List.mem_cons_of_mem _ hp)) R' ps fun s2 R2 z2=>q s2 R2 (z.trans z2))))
theorem Dv {l:List Str} (h:wA l=true):l.Nodup:=by
 induction l with
 | nil=>exact .nil
 | cons a r ih =>
  obtain⟨h1,h2⟩:=Bool.and_eq_true_iff.mp h
  exact List.nodup_cons.mpr ⟨fun m=>nk5 ((rJ.mpr m).symm.trans (gV h1)),ih h2⟩
theorem LR (hF:aV Γ F cx) {k:Nat}{ts:List Expr}{ns:List Str} (hn:Cy F.env ts ns) (h2:CX cx ts=true) {ws:List PV}{vs:List Value} (o:Ok Γ H F c) (R:aC Γ.w H F.env c st s.heap) (p:aX Γ.w c vs ws)
  (g:aG Γ VU H F (rO (pI Γ.T cx (k + 1)) ts ws st) c s Q E):wpAny (model pw Γ.w) F.A (assignInOrder (ns.reverse.map fun n=>bindName F.env n) vs.reverse) Q E s:=by
 obtain⟨i1,i2,i3,g⟩:=CJ hF hn g
 have m1:(ns.zip ws).map (·.1)=ns:=List.map_fst_zip (Nat.le_of_eq i3)
 have m2:(ns.zip ws).map (·.2)=ws:=List.map_snd_zip (Nat.le_of_eq i3.symm)
 have nd:((ns.zip ws).map (·.1)).Nodup:=by rw[m1];exact Dv (i2 ▸ h2)
 have:=CA (E:=E) (Q:=Q) hF o (ns.zip ws).reverse (vs:=vs.reverse) (fun p hp=>i1 _ (by rw[← m1];exact List.mem_map_of_mem (List.mem_reverse.mp hp))) R (by rw[List.map_reverse,m2];exact p.reverse) fun s' R' z=>aG.done' g (.refl c) (R'.congrV fun x=>y6 nd _ x) trivial z
 rw[List.map_reverse,m1]at this
 exact this
noncomputable def GU (env:Env) (line:Nat):Expr→Option Str:=fun
  | .Name id pos=>if env.kindOf id == some .local&&pos.line == line then some id else none
  | _=>none
theorem Jb {env:Env}{line:Nat}{ts:List Expr}:(ts.filterMap (GU env line)).length=ts.length→Cy env ts (ts.filterMap (GU env line)):=by
 induction ts with
 | nil=>exact fun _=>rfl
 | cons t r ih =>
  intro e
  have le:(r.filterMap (GU env line)).length ≤ r.length:=List.length_filterMap_le _ _
  cases q:GU env line t with
  | none=>rw[List.filterMap_cons,q]at e;exact absurd (e ▸ le) (Nat.not_succ_le_self _)
  | some n =>
   rw[List.filterMap_cons,q]at e ⊢
   cases t with
   | Name id pos =>
    by_cases z:(env.kindOf id == some .local&&pos.line == line)=true
    ·have q:(if (env.kindOf id == some .local&&pos.line == line)=true then some id else none)=some n:=q
     rw[if_pos z]at q
     exact⟨id,pos,_,rfl,congrArg (·::_) (Option.some.inj q).symm,beq_iff_eq.mp (Bool.and_eq_true_iff.mp z).1,ih (Nat.succ.inj e)⟩
    ·have q:(if (env.kindOf id == some .local&&pos.line == line)=true then some id else none)=some n:=q
     rw[if_neg z]at q;exact nk3 q
   | _=>exact nk3 q
noncomputable def qE (env:Env) (ts:List Expr) (X:Sem (Option (List Str))):Prop:=X=pure none∨∃ ns,X=pure (some ns)∧Cy env ts ns
theorem Aq {env:Env}{ts es:List Expr}{x1 x2:Nat}{p1 p2:Pos} (hc:(es.all (foldedForSure 8)||!es.all (constantsAlone 8))=true):qE env ts (swappedStores [.Tuple ts x1 p1] (.Tuple es x2 p2) env):=by
 refine jT (P:=qE env ts) (fun _=>.inl rfl) fun _=>jT (P:=qE env ts) (fun _=>.inl rfl) fun _=>jT (P:=qE env ts) (fun _=>.inl rfl) fun h3=>jT (P:=qE env ts) (fun _=>.inl rfl) fun h4=>jT (P:=qE env ts) (fun h5=>?_) fun _=>.inr ⟨_,rfl,Jb (line:=(ts.head?.map (·.pos.line)).getD 0) ?_⟩
 ·rw[h5]at hc;exact absurd ((Bool.or_false _).symm.trans hc) h4
 ·have h3:=Bool.or_eq_false_iff.mp (Bool.eq_false_iff.mpr h3)
  exact bne_eq_false_iff_eq.mp h3.1
end
end Mine
end
section
namespace Mine
noncomputable def VF (w:World) (c:Cf) (fl:Flow) (f:Fl):Prop:=match f with
 | .next=>fl=.next
 | .brk=>fl=.brk
 | .cont=>fl=.cont
 | .ret x=>∃ v,fl=.ret v∧aH w c v x
section
variable {Γ:Gm}{H:PM}{F:Fr}{cx:Cx}{c:Cf}{s:Shared}{st:St}{ih:Cx→Expr→St→Pg (PV × St)}{xh:Cx→Stmt→St→Pg (Fl × St)}
noncomputable def xA (Γ:Gm) (H:PM) (f:Cx→Stmt→St→Pg (Fl × St)):Prop:=∀ (F:Fr) (cx:Cx) (a:Stmt) (st:St),aV Γ F cx→TG Γ (VF Γ.w) H F st (f cx a st) (exec a F.env)
theorem mZ (hX:xA Γ H xh) (hF:aV Γ F cx) (ss:List Stmt):∀ st:St,TG Γ (VF Γ.w) H F st (dS xh cx ss st) (execs ss F.env):=by
 induction ss with
 | nil=>exact fun st c s Q E o R g=>wpAny_execs_nil (g.done R (rfl:VF Γ.w c .next .next))
 | cons a r ihr =>
  intro st c s Q E o R g
  refine wpAny_execs_cons (aG.bind (k:=fun a=>match a.1 with
   | .next=>dS xh cx r a.2
   | _=>.ok a) g (hX F cx a st hF) o R fun w₁ st₁ c₁ v₁ s₁ _ l₁ o₁ R₁ p₁ z₁ g=>?_)
  cases w₁ with
  | next=>rw[show v₁=.next from p₁];exact ihr st₁ c₁ s₁ Q E o₁ R₁ g
  | brk=>rw[show v₁=.brk from p₁];exact g.done R₁ (rfl:VF Γ.w c₁ .brk .brk)
  | cont=>rw[show v₁=.cont from p₁];exact g.done R₁ (rfl:VF Γ.w c₁ .cont .cont)
  | ret=>obtain⟨v,rfl,p⟩:=p₁;exact g.done R₁ ⟨v,rfl,p⟩
theorem w8 {e:Expr} (h:kK e=false) (t:Option Expr) (l:Nat) (env:Env):swapsWith e t l env=pure false:=by
 cases e with
 | ListComp=>exact nk5 h
 | SetComp=>exact nk5 h
 | DictComp=>exact nk5 h
 | _=>rfl
theorem FU (hF:aV Γ F cx):interactive F.env=false:=by unfold interactive;rw[hF.kind];rfl
theorem IO (hI:cA Γ H (E0 Γ.T)) (hF:aV Γ F cx) {e:Expr}{p:Pos}:TG Γ (VF Γ.w) H F st (gp (!kK e) ((E0 Γ.T cx e st).bind fun r=>.ok (.next,r.2))) (exec (.Expr e p) F.env) :=
 fun c s Q E o R g=>g.gp fun hc g=>wpAny_Expr_any (aG.bind g (hI F cx e st hF) o R fun w₁ st₁ c₁ v₁ s₁ _ l₁ o₁ R₁ p₁ z₁ g=>g.done R₁ (rfl:VF Γ.w c₁ .next .next)) (FU hF) (w8 (gV hc) _ _ _)
theorem KZ (hI:cA Γ H (E0 Γ.T)) (hF:aV Γ F cx) {v:Option Expr}{p:Pos}:TG Γ (VF Γ.w) H F st (opt v fun e=>(E0 Γ.T cx e st).bind fun r=>.ok (.ret r.1,r.2)) (exec (.Return v p) F.env) :=
 fun c s Q E o R g=>g.opt fun e he g=>by
  subst he
  exact wpAny_Return_some (aG.bind g (hI F cx e st hF) o R fun w₁ st₁ c₁ v₁ s₁ _ l₁ o₁ R₁ p₁ z₁ g=>g.done R₁ ⟨v₁,rfl,p₁⟩)
theorem Mq (hI:cA Γ H (E0 Γ.T)) (hX:xA Γ H xh) (hF:aV Γ F cx) {t:Expr}{a b:List Stmt}{p:Pos}:TG Γ (VF Γ.w) H F st ((gA Γ.T cx t st).bind fun r=>bif r.1 then dS xh cx a r.2 else dS xh cx b r.2) (exec (.If t a b p) F.env):=by
 intro c s Q E o R g
 refine wpAny_If (g.bind (vQ hI hF 6 t st) o R fun w₁ st₁ c₁ v₁ s₁ _ l₁ o₁ R₁ p₁ z₁ g=>?_)
 obtain rfl:v₁=w₁:=p₁
 cases v₁ with
 | true=>exact mZ hX hF a st₁ c₁ s₁ Q E o₁ R₁ g
 | false=>exact mZ hX hF b st₁ c₁ s₁ Q E o₁ R₁ g
theorem CC (R:aC Γ.w H F.env c st s.heap) {op:Operator}{a b:Value}{x y:FV}{z:PV} (pa:aO Γ.w c.B a x) (pb:aO Γ.w c.B b y) (hz:((A4 op x y).bind fun z=>some (.f z))=some z) {Q:Value→Shared→Prop}{E:Value→Shared→Prop}
  (q:∀ v s',aC Γ.w H F.env c st s'.heap→aH Γ.w c v z→aS s s'→Q v s'):wpAny (model pw Γ.w) F.A (inplaceOp op a b) Q E s :=
 ob hz fun k hk hz=>ob hk fun i hi hk=>ob hk fun j hj hk=>pa.iE hi fun t=>pb.iE hj fun u=>by
  rw[← Option.some.inj hz]at q
  cases op with
  | Add=>exact AutoIntOps.iadd_0 (q _ _ R (Option.some.inj hk ▸ aH.int _ _) ⟨rfl,rfl⟩)
  | Sub=>exact AutoIntOps.isub_0 (q _ _ R (Option.some.inj hk ▸ aH.int _ _) ⟨rfl,rfl⟩)
  | _=>exact nk3 hk
theorem IN (hK:cS Γ.w Γ.K Γ.T) (hI:cA Γ H (E0 Γ.T)) (hF:aV Γ F cx) {n:Str}{np p:Pos}{op:Operator}{e:Expr}:TG Γ (VF Γ.w) H F st (opt (gR Γ.T cx n st) fun w=>(E0 Γ.T cx e st).bind fun r=>Ae cx op w r.1 r.2 fun z=>opt (gO cx n z r.2) fun st=>.ok (.next,st)) (exec (.AugAssign (.Name n np) op e p) F.env) :=
 fun c s Q E o R g=>g.opt fun w₀ h₀ g=>wpAny_AugAssign_Name (zA hK hF o R h₀ fun v p₀=>aG.bind g (hI F cx e st hF) o R fun w₁ st₁ c₁ v₁ s₁ _ l₁ o₁ R₁ p₁ z₁ g=>g.opt fun x hx g=>g.opt fun y hy g=>g.qV fun z hz g=>g.opt fun st' e' g =>
  CC R₁ ((p₀.mono l₁).fE hx) (p₁.fE hy) hz fun v s' R' pv z=>kU hF o₁ R' pv e' fun s'' R'' z'=>aG.done' g (.refl _) R'' (rfl:VF Γ.w c₁ .next .next) (z.trans z')).2
theorem Ik (hK:cS Γ.w Γ.K Γ.T) (hI:cA Γ H (E0 Γ.T)) (hF:aV Γ F cx) {ob:Expr}{a:Str}{np p:Pos}{op:Operator}{e:Expr}:TG Γ (VF Γ.w) H F st ((E0 Γ.T cx ob st).bind fun q=>opt (yF Γ.T q.1 a q.2) fun w=>(E0 Γ.T cx e q.2).bind fun r=>Ae cx op w r.1 r.2 fun z=>opt (Ax Γ.T q.1 a z r.2) fun st=>.ok (.next,st)) (exec (.AugAssign (.Attribute ob a np) op e p) F.env) :=
 fun c s Q E o R g=>wpAny_AugAssign_AttributeAny (aG.bind g (hI F cx ob st hF) o R fun w₀ st₀ c₀ v₀ s₀ _ l₀ o₀ R₀ p₀ z₀ g=>g.opt fun y hy g=>CZ hK o₀ R₀ p₀ hy fun u s₁ pu es z₁ =>
  aG.bind (g.mono (.refl _) z₁) (hI F cx e st₀ hF) o₀ (es ▸ R₀) fun w₂ st₂ c₂ v₂ s₂ _ l₂ o₂ R₂ p₂ z₂ g=>g.opt fun x hx g=>g.opt fun y' hy' g=>g.qV fun z hz g=>g.opt fun st' e' g =>
   CC R₂ ((pu.mono l₂).fE hx) (p₂.fE hy') hz fun v s' R' pv z=>CP hK o₂ R' (p₀.mono l₂) pv e' fun s'' R'' z'=>aG.done' g (.refl _) R'' (rfl:VF Γ.w c₂ .next .next) (z.trans z'))
theorem AK {C:bW} (es:List Expr):∀ {st:St}{r:List PV × St},aN C (oR ih cx es st)=.ok r→r.1.length=es.length:=by
 induction es with
 | nil=>intro st r e;exact nE e ▸ rfl
 | cons a r ihr =>
  intro st r' e
  replace e:aN C (gp (bO a) ((ih cx a st).bind fun a=>(oR ih cx r a.2).bind fun q=>.ok (a.1::q.1,q.2)))=.ok r':=e
  cases h:bO a with
  | false=>rw[h]at e;exact nk1 e
  | true=>rw[h]at e;exact uS e fun q _ e=>uS e fun q2 e2 e=>nE e ▸ congrArg (· + 1) (ihr e2)
theorem aG.un {x:Pg (Unit × St)}{Q:Flow→Shared→Prop}{E:Value→Shared→Prop} (g:aG Γ (VF Γ.w) H F (x.bind fun r=>.ok (.next,r.2)) c s Q E):aG Γ VU H F x c s (fun _ s'=>Q .next s') E :=
 have d:=aZ Γ.C x fun r=>.ok (Fl.next,r.2)
 ⟨fun b st' e c' a s' l R v z=>g.ok .next st' (d.trans (by rw[e];rfl)) c' .next s' l R (rfl:VF Γ.w c' .next .next) z,fun e=>g.raise (d.trans (by rw[e];rfl)),fun e=>g.go (d.trans (by rw[e];rfl))⟩
theorem IX {t:Expr} (hs:bO t=true) (env:Env):(assignEach [t] env).map (·.2)=[assign t env]:=by
 rw[d3 (ts:=[t]) (Bool.and_eq_true_iff.mpr ⟨hs,rfl⟩)];rfl
theorem IF (hK:cS Γ.w Γ.K Γ.T) (hI:cA Γ H (E0 Γ.T)) (hF:aV Γ F cx) {ts es:List Expr}{x1 x2:Nat}{p1 p2 p:Pos}:TG Γ (VF Γ.w) H F st ((Gf Γ.T cx ts es st).bind fun r=>.ok (.next,r.2)) (exec (.Assign [.Tuple ts x1 p1] (.Tuple es x2 p2) p) F.env):=by
 intro c s Q E o R g
 rw[exec_Assign_arm]
 refine wpAny_bind (wpAny_standAt ?_)
 rw[show swapsWithSole [.Tuple ts x1 p1] (.Tuple es x2 p2) p.line F.env=pure false from rfl]
 refine wpAny_bind (wpAny_pure ?_)
 rw[if_neg (by decide)]
 have g:=aG.un g
 refine g.gp fun h1 g=>g.gp fun h1b g=>g.gp fun h3 g=>g.gp fun h4 g=>g.gp fun h2 g=>?_
 have hl:=Nat.eq_of_beq_eq_true h1
 refine wpAny_bind (wpAny_Tuple_spliced (aG.bind g (i8 hI hF p2 es st) o R fun ws st₁ c₁ us s₁ e₁ l₁ o₁ R₁ p₁ z₁ g=>?_))
 have lu:us.length=es.length:=p₁.length.trans (AK es e₁)
 refine⟨by rw[lu];exact Nat.le_trans (Nat.le_of_ble_eq_true h1b) (by decide),?_⟩
 have ht:(s₁.heap.push { cls:=.type "tuple",data:=.seq us.toArray }).IsTuple s₁.heap.objs.size us.toArray:=⟨_,Heap.get?_push_size _ rfl,rfl,_,rfl⟩
 have R₂:=R₁.grows (aY.push s₁.heap { cls:=.type "tuple",data:=.seq us.toArray })
 have fin:∀ h',aG Γ VU H F (rO (pI Γ.T cx 4) ts ws st₁) c₁ { s₁ with heap:=h' } (fun _ s'=>wpAny (model pw Γ.w) F.A (pure Flow.next) Q E s') E:=fun h'=>⟨fun b st' e c' a s' l R v z=>wpAny_pure (g.ok b st' e c' a s' l R v z),g.raise,g.go⟩
 rcases Aq (env:=F.env) (ts:=ts) (x1:=x1) (x2:=x2) (p1:=p1) (p2:=p2) h2 with hs | ⟨ns,hs,hn⟩
 ·rw[hs]
  refine wpAny_bind (wpAny_pure ?_)
  rw[show(assignEach [.Tuple ts x1 p1] F.env).map (·.2)=[assign (.Tuple ts x1 p1) F.env] from rfl]
  show wpAny _ _ (do assign (.Tuple ts x1 p1) F.env (.ref s₁.heap.objs.size);pure .next) Q E _
  exact wpAny_bind (vK hF h3 ht (hl.trans lu.symm) fun h' gr=>zX hF (sW hK hI 4) ts ws us st₁ c₁ _ _ E o₁ (R₂.grows gr) p₁ (fin h'))
 ·rw[hs]
  refine wpAny_bind (wpAny_pure ?_)
  show wpAny _ _ (do rule "assign.swapped-stores";let items ← unpackItems (.ref s₁.heap.objs.size) ns.length none;assignInOrder (ns.reverse.map fun n=>bindName F.env n) items.reverse;pure .next) Q E _
  have nl:ns.length=us.toArray.size:=(CJ hF hn g).2.2.1.trans p₁.length.symm
  rw[nl]
  exact wpAny_bind (wpAny_rule (wpAny_bind (wpAny_unpackItems_tuple hF.handled ht fun h' hx=>wpAny_bind (LR (k:=3) hF hn h4 o₁ (R₂.grows fun b ob e=>hx b ob (Nat.ne_of_lt (Heap.lt_size e)) e) p₁ (fin h')))))
theorem AP (hK:cS Γ.w Γ.K Γ.T) (hI:cA Γ H (E0 Γ.T)) (hF:aV Γ F cx) {t e:Expr}{p:Pos} (hc:kK e=false) (ht:swappedStores [t] e F.env=pure none) (hs:bO t=true):TG Γ (VF Γ.w) H F st (((E0 Γ.T cx e st).bind fun r=>pI Γ.T cx 4 t r.1 r.2).bind fun r=>.ok (.next,r.2)) (exec (.Assign [t] e p) F.env):=by
 intro c s Q E o R g
 have g:=aG.un g
 refine wpAny_Assign_stores (aG.bind g (hI F cx e st hF) o R fun w₁ st₁ c₁ v₁ s₁ _ l₁ o₁ R₁ p₁ z₁ g=>?_) (w8 hc _ _ _) ht
 rw[IX hs]
 exact sW hK hI 4 F cx t w₁ st₁ v₁ c₁ s₁ _ E hF o₁ R₁ p₁ g
end
theorem lG {e:Value}{env env':Env} (h:env.frame=env'.frame):noteFrame e env=noteFrame e env':=by
 unfold noteFrame PySem.frameOf
 rw[h]
theorem JM {e:Value}{env env':Env} (h:env.frame=env'.frame) : «leaving» env e = «leaving» env' e:=by
 unfold «leaving»
 rw[lG h]
structure pP (base h:Heap) (e:Addr) (cls:Value) (LF:Addr):Prop where
 fresh:base.get? e=none
 stays:base.StaysIn h
 at_:∃ a0,h.TracedAtW base e cls a0 (rawInt LF)
theorem pP.ex {base h:Heap}{e:Addr}{cls:Value}{LF:Addr} (x:pP base h e cls LF):L4 base h e cls LF:=by
 obtain⟨a0,oe,vs,T,oT,ts,he,⟨hc,h0⟩,hd,h1,hn,hne,hT,hdT,h3⟩:=x.at_
 exact .here oe vs T oT ts he hc hd h1 hn hne hT hdT h3
section
variable {Γ:Gm}{H:PM}{F:Fr}{cx:Cx}{c:Cf}{s:Shared}{st:St}
theorem Up.upTo {e:Value}{h h':Heap} (u:Up Γ F e h) (k:h.UpToSlots h'):∀ a o,Γ.X.H0 a=some o→(∀ vs,o.data ≠ .fields vs)→∃ sl,h'.get? a=some { o with slots:=sl }:=fun a o q n=>by
 obtain⟨sl,hs⟩:=u.keep a o q n
 obtain⟨C6,hs'⟩:=k a _ hs n
 exact⟨C6,hs'⟩
theorem rB {vs:Array Value}{x:Value} (h:vs[1]? = some x):∃ a0,vs[0]? = some a0:=by
 have:=(Array.getElem?_eq_some_iff.mp h).1
 exact⟨vs[0],by simp⟩
theorem Fq {h base:Heap}{e:Addr}{cls:Value} (t:h.Traced base e cls):∃ a0,h.TracedW base e cls a0:=by
 obtain⟨oe,vs,T,oT,ts,he,hc,hd,h1,hn,hne,hT,hdT,h3⟩:=t
 obtain⟨a0,h0⟩:=rB h1
 exact⟨a0,oe,vs,T,oT,ts,he,⟨hc,h0⟩,hd,h1,hn,hne,hT,hdT,h3⟩
theorem CK {h base:Heap}{e:Addr}{cls a0:Value} (t:h.TracedW base e cls a0):h.Traced base e cls:=by
 obtain⟨oe,vs,T,oT,ts,he,hc,hd,h1,hn,hne,hT,hdT,h3⟩:=t
 exact⟨oe,vs,T,oT,ts,he,hc.1,hd,h1,hn,hne,hT,hdT,h3⟩
theorem t6 {env:Env} (hfr:F.A.frames=some (F.fenv::F.outer)) (hf:env.frame=F.fenv.frame) {e:Value} (u:Up Γ F e s.heap) {Q:Unit→Shared→Prop}{E:Value→Shared→Prop}
  (q:∀ s',Up Γ F e s'.heap→(∀ a LF,e=.ref a→F.fenv.frame=some LF→pP Γ.X.base s'.heap a (.ref Γ.T.fail) LF)→aS s s'→Q () s'):wpAny (model pw Γ.w) F.A (noteFrame e env) Q E s:=by
 rw[lG hf]
 obtain⟨⟨a,LF,rfl,hLF,hb,hx⟩,stays,frames,keep⟩:=id u
 have fin:∀ h' a0,Heap.NotedW Γ.X.base (F.fenv::F.outer) a (.ref Γ.T.fail) a0 (rawInt LF) s.heap h'→Q () { s with heap:=h' }:=fun h' a0 ⟨k1,k2,k3,k4⟩=>by
  have hr:pP Γ.X.base h' a (.ref Γ.T.fail) LF:=⟨hb,k1,a0,k3⟩
  refine q _ ⟨⟨a,LF,rfl,hLF,hb,hr.ex⟩,k1,k2,u.upTo k4⟩ (fun b LF' e1 e2=>?_) ⟨rfl,rfl⟩
  cases e1;rw[hLF]at e2;cases e2;exact hr
 cases hx with
 | new oe vs he hc hd h1 =>
  obtain⟨a0,h0⟩:=rB h1
  unfold noteFrame
  simp only[hLF]
  refine wpAny_bind (wpAny_field he hd h1 ?_)
  rw[if_neg (by decide)]
  exact wpAny_entryW hfr frames hLF he stays hb hd (Array.getElem?_eq_some_iff.mp h1).1 h0 fun h' hN=>fin h' a0 (hc ▸ hN)
 | out tr =>
  obtain⟨a0,tw⟩:=Fq tr
  exact wpAny_noteFrame_onW hfr frames hLF tw stays hb fun h' hN=>fin h' a0 hN
 | here oe vs T' oT ts he hc hd h1 hT hne hoT hdT h3 =>
  obtain⟨a0,h0⟩:=rB h1
  have ta:s.heap.TracedAtW Γ.X.base a (.ref Γ.T.fail) a0 (rawInt LF):=⟨oe,vs,T',oT,ts,he,⟨hc,h0⟩,hd,h1,hT,hne,hoT,hdT,h3⟩
  refine wpAny_noteFrame_againW hLF ta (q s u (fun b LF' e1 e2=>?_) (.refl s))
  cases e1;rw[hLF]at e2;cases e2;exact⟨hb,stays,a0,ta⟩
theorem FY {F₀:Fr}{env:Env} (hfr:F.A.frames=some (F.fenv::F.outer)) (hf:env.frame=F.fenv.frame) (ho:F.outer=F₀.fenv::F₀.outer) (hL0:∃ L,F₀.fenv.frame=some L) {e:Value} (u:Up Γ F e s.heap) {Q:Unit→Shared→Prop}{E:Value→Shared→Prop}
  (q:∀ s',Up Γ F₀ e s'.heap→aS s s'→Q () s'):wpAny (model pw Γ.w) F.A («leaving» env e) Q E s:=by
 unfold «leaving»
 refine wpAny_bind (t6 hfr hf u fun s₁ u₁ hr z₁=>?_)
 obtain⟨⟨a,LF,rfl,hLF,hb,hx⟩,stays,frames,keep⟩:=id u₁
 have hr:=hr a LF rfl hLF
 obtain⟨a0,ta⟩:=hr.at_
 refine wpAny_setFlight_noneW stays frames ta fun h' k1 k2 k3 k4=>?_
 obtain⟨L0,hL0⟩:=hL0
 rw[ho]at k2
 obtain⟨_,_,k2⟩:=k2
 exact q _ ⟨⟨a,L0,rfl,hL0,hb,.out (CK k3)⟩,k1,k2,u₁.upTo fun b o hb hn=>⟨o.slots,k4 b o hb hn⟩⟩ z₁
theorem H8 {env:Env} (hf:env.frame=F.fenv.frame) {e:Value} (u:Up Γ F e s.heap) (hr:∀ a LF,e=.ref a→F.fenv.frame=some LF→pP Γ.X.base s.heap a (.ref Γ.T.fail) LF) {E:Value→Shared→Prop}
  (q:∀ s',Up Γ F e s'.heap→aS s s'→E e s'):cameBackBy (model pw Γ.w) F.A env E e s:=by
 obtain⟨⟨a,LF,rfl,hLF,hb,hx⟩,stays,frames,keep⟩:=id u
 have hr:=hr a LF rfl hLF
 obtain⟨a0,ta⟩:=hr.at_
 obtain⟨oe,vs,T',oT,ts,he,⟨hc,h0⟩,hd,h1,hn,hne,hT,hdT,h3⟩:=id ta
 unfold cameBackBy
 refine wpAny_bind (wpAny_field he hd h1 ?_)
 rw[if_neg (by simp)]
 rw[hf,hLF]
 show wpAny _ _ (setFlight (.ref a) (some LF)) _ _ s
 unfold setFlight
 refine wpAny_bind (wpAny_field he hd h1 ?_)
 rw[if_pos (show(Value.ref T' != Value.none)=true from by simp)]
 have hsz3:3 < ts.size:=(Array.getElem?_eq_some_iff.mp h3).1
 have other:∀ b,b ≠ T'→(s.heap.update T' (Obj.mapFields (·.setIfInBounds 3 ((some LF).elim Value.none fun f=>rawInt f)))).get? b=s.heap.get? b :=
  fun b hb=>Heap.get?_update_other _ _ (Ne.symm hb)
 have noRec:∀ b o,s.heap.get? b=some o→(∀ vs,o.data ≠ .fields vs)→b ≠ T':=fun b o hb hnf q=>by
  rw[q,hT]at hb;injection hb with hb;subst hb;exact hnf ts hdT
 refine wpAny_setField hT hdT hsz3 (q _ ⟨⟨a,LF,rfl,hLF,hb,?_⟩,?_,?_,?_⟩ ⟨rfl,rfl⟩)
 ·exact .here oe vs T' _ _ ((other a (Ne.symm hne)).trans he) hc hd h1 hn hne (Heap.get?_update_self _ hT (Obj.isFreed_of_fields (Obj.data_mapFields hdT _))) (Obj.data_mapFields hdT _) (by simp[hsz3])
 ·exact fun b o hbo=>(other b fun q=>by rw[q,hn]at hbo;cases hbo).trans (stays b o hbo)
 ·exact frames.of_keeps fun b o hb hnf=>⟨o,(other b (noRec b o hb hnf)).trans hb,rfl⟩
 ·exact u.upTo fun b o hb hnf=>⟨o.slots,(other b (noRec b o hb hnf)).trans hb⟩
theorem BP {env:Env} (hfr:F.A.frames=some (F.fenv::F.outer)) (hf:env.frame=F.fenv.frame) {s₀:Shared}{Q:Flow→Shared→Prop}{E:Value→Shared→Prop}{e:Value} (u:Up Γ F e s.heap) (z:aS s₀ s) (q:∀ s',Up Γ F e s'.heap→aS s₀ s'→E e s') :
  notedBy (model pw Γ.w) F.A env (fun e s'=>(fun (r:Result) s'=>match r with | .ok f=>Q f s' | .error e=>cameBackBy (model pw Γ.w) F.A env E e s') (.error e) s') e s :=
 t6 hfr hf u fun s' u' hr z'=>H8 hf u' hr fun s'' u'' z''=>q s'' u'' (z.trans (z'.trans z''))
theorem E4 {xh:Cx→Stmt→St→Pg (Fl × St)} (hI:cA Γ H (E0 Γ.T)) (hX:xA Γ H xh) (hF:aV Γ F cx) {t:Expr}{b:List Stmt}{p:Pos}:TG Γ (VF Γ.w) H F st (jJ (gA Γ.T cx t) (dS xh cx b) cx.m st) (exec (.While t b [] p) F.env):=by
 intro c s Q E o R g
 refine wpAny_While (codeAny_whileLoop (fun n s'=>∃ c' st',c.le c'∧Ok Γ H F c'∧aC Γ.w H F.env c' st' s'.heap∧aS s s'∧aG Γ (VF Γ.w) H F (jJ (gA Γ.T cx t) (dS xh cx b) n st') c' s' Q E) (fun n s' hh=>?_) cx.m ⟨c,st,.refl c,o,R,.refl s,g⟩)
 obtain⟨c',st',l,o',R',z,g⟩:=hh
 cases n with
 | zero=>exact g.stuck
 | succ n =>
  have gN:∀ {α β:Type}{V:Cf→α→β→Prop}{x:Pg (β × St)}{c₂:Cf}{s₂:Shared}{Q₂:α→Shared→Prop},aS s s₂→aG Γ V H F x c₂ s₂ Q₂ E→aG Γ V H F x c₂ s₂ Q₂ fun e s₃=>notedBy (model pw Γ.w) F.A F.env (fun e s'=>(fun (r:Result) s'=>match r with | .ok f=>Q f s' | .error e=>cameBackBy (model pw Γ.w) F.A F.env E e s') (.error e) s') e s₃ :=
   fun z g=>⟨g.ok,fun hr e s₃ u z'=>BP (Q:=Q) hF.frames hF.frame u z' fun s' u' z''=>g.raise hr e s' u' z'',g.go⟩
  have g:aG Γ (VF Γ.w) H F ((gA Γ.T cx t st').bind fun t₁=>bif t₁.1 then (dS xh cx b t₁.2).bind fun r=>match r.1 with
    | .next=>jJ (gA Γ.T cx t) (dS xh cx b) n r.2
    | .cont=>jJ (gA Γ.T cx t) (dS xh cx b) n r.2
    | .brk=>.ok (.next,r.2)
    | .ret w=>.ok (.ret w,r.2)
   else .ok (.next,t₁.2)) c' s' Q E:=g
  refine aG.bind (gN z g) (vQ hI hF 6 t st') o' R' fun b₁ st₁ c₁ v₁ s₁ e₁ l₁ o₁ R₁ p₁ z₁ _=>?_
  have g:=g.step e₁ l₁ z₁
  obtain rfl:v₁=b₁:=p₁
  have zz:=z.trans z₁
  cases v₁ with
  | false=>exact wpAny_execs_nil (g.done R₁ (rfl:VF Γ.w c₁ .next .next))
  | true =>
   refine aG.bind (gN zz g) (mZ hX hF b st₁) o₁ R₁ fun f st₂ c₂ v₂ s₂ e₂ l₂ o₂ R₂ p₂ z₂ _=>?_
   have g:=g.step e₂ l₂ z₂
   have zz:=zz.trans z₂
   have ll:=(l.trans l₁).trans l₂
   cases f with
   | next=>rw[show v₂=.next from p₂];exact⟨n,Nat.lt_succ_self n,c₂,st₂,ll,o₂,R₂,zz,g⟩
   | cont=>rw[show v₂=.cont from p₂];exact⟨n,Nat.lt_succ_self n,c₂,st₂,ll,o₂,R₂,zz,g⟩
   | brk=>rw[show v₂=.brk from p₂];exact g.done R₂ (rfl:VF Γ.w c₂ .next .next)
   | ret=>obtain⟨v,rfl,p⟩:=p₂;exact g.done R₂ ⟨v,rfl,p⟩
end
end Mine
end
section
namespace Mine
noncomputable def PM.mix (H P:PM):PM:=fun a=>(P a).or (H a)
noncomputable def PM.one (I:Addr) (o:Obj):PM:=iP (fun _=>none) I (some o)
theorem PM.oneE {I a:Addr}{o o':Obj}{P:Prop} (h:PM.one I o a=some o') (k:a=I→o=o'→P):P:=jS h (fun z e=>k z (Option.some.inj e)) fun _ e=>nk3 e
noncomputable def PM.apart (H P:PM):Prop:=∀ a o,P a=some o→H a=none
theorem PM.mix_l {H P:PM} (d:PM.apart H P) {a:Addr}{o:Obj} (h:H a=some o):PM.mix H P a=some o:=by
 unfold PM.mix
 cases q:P a with
 | none=>exact h
 | some o'=>exact nk3 ((d a o' q).symm.trans h)
theorem PM.mix_r {H P:PM}{a:Addr}{o:Obj} (h:P a=some o):PM.mix H P a=some o:=by unfold PM.mix;rw[h];rfl
theorem PM.mixE {H P:PM}{a:Addr}{x:Option Obj}{C:Prop} (h:PM.mix H P a=x) (h1:∀ o,P a=some o→some o=x→C) (h2:P a=none→H a=x→C):C:=by
 unfold PM.mix at h
 cases q:P a with
 | none=>rw[q]at h;exact h2 q h
 | some o'=>rw[q]at h;exact h1 o' q h
theorem PM.mixN {H P:PM}{a:Addr} (h:PM.mix H P a=none):P a=none∧H a=none:=PM.mixE h (fun _ _ e=>nk4 e) fun e e'=>⟨e,e'⟩
theorem PM.mixN' {H P:PM}{a:Addr} (h:∀ o,P a=some o→False) (h':H a=none):PM.mix H P a=none:=by
 unfold PM.mix
 cases q:P a with
 | none=>exact h'
 | some o'=>exact(h o' q).elim
theorem nS.to {w:World}{H H':PM}{c:Cf}{cc:List (Str × PV)}{x:Str}{a:Addr} (f:∀ o,H a=some o→H' a=some o) (h:nS w H c cc x a):nS w H' c cc x a:=h.imp id fun q=>⟨q.1,q.2.imp fun o q=>⟨f o q.1,q.2⟩⟩
section
variable {Γ:Gm}{w:World}{H P:PM}{F:Fr}{c c':Cf}{s:Shared}{st:St}{env:Env}{h h':Heap}
theorem aC.hide (R:aC w H env c st h) (d:PM.apart H P) (hp:∀ a o,P a=some o→h.get? a=some o∧c.B a=none∧c.ow a=none):aC w (PM.mix H P) env c st h where
 b:=R.b
 bh a o e:=PM.mixN' (fun o' q=>nk3 ((hp a o' q).2.1.symm.trans e)) (R.bh a o e)
 hh a o e:=PM.mixE e (fun o' q e=>.inl (Option.some.inj e ▸ (hp a o' q).1)) fun _ e=>R.hh a o e
 fsH a e:=(Option.isSome_iff_exists.mp (R.fsH a e)).elim fun o q=>Option.isSome_iff_exists.mpr ⟨o,PM.mix_l d q⟩
 own a t e:=⟨R.owB e,PM.mixN' (fun o' q=>nk3 ((hp a o' q).2.2.symm.trans e)) (R.owH e),R.owG e⟩
 ix:=⟨R.ix.loc,fun x a e=>(R.ix.cel x a e).to fun o=>PM.mix_l d,R.ix.celd,R.ix.gl,R.ix.g,R.ix.ll,R.ix.l,R.ix.nol⟩
theorem aC.unhide (d:PM.apart H P) (hce:∀ x a,env.cells.lookup x=some a→P a=none) (hfs:∀ a,a ∈ c.fs→P a=none) (R:aC w (PM.mix H P) env c st h):aC w H env c st h∧∀ a o,P a=some o→oJ c.fs h a o∧c.B a=none∧c.ow a=none:=by
 have un:∀ {a:Addr}{o:Obj},P a=none→PM.mix H P a=some o→H a=some o:=fun q e=>PM.mixE e (fun _ z=>nk3 (q.symm.trans z)) fun _ e=>e
 refine⟨⟨R.b,fun a o e=>(PM.mixN (R.bh a o e)).2,fun a o e=>R.hh a o (PM.mix_l d e),fun a e=>(Option.isSome_iff_exists.mp (R.fsH a e)).elim fun o q=>Option.isSome_iff_exists.mpr ⟨o,un (hfs a e) q⟩,fun a t e=>⟨R.owB e,(PM.mixN (R.owH e)).2,R.owG e⟩,
  R.ix.loc,fun x a e=>(R.ix.cel x a e).to fun o=>un (hce x a e),R.ix.celd,R.ix.gl,R.ix.g,R.ix.ll,R.ix.l,R.ix.nol⟩,fun a o e=>⟨R.hh a o (PM.mix_r e),?_,?_⟩⟩
 ·cases q:c.B a with
  | none=>rfl
  | some o'=>exact nk3 ((PM.mixN (R.bh a o' q)).1.symm.trans e)
 ·cases q:c.ow a with
  | none=>rfl
  | some t=>exact nk3 ((PM.mixN (R.owH q)).1.symm.trans e)
theorem Ok.hide (d:PM.apart H P) (o:Ok Γ H F c):Ok Γ (PM.mix H P) F c :=
 ⟨o.ro,o.k,fun a ob e=>(o.base a ob e).imp id fun q=>⟨PM.mix_l d q.1,q.2⟩,fun a ob e=>PM.mix_l d (o.h0 a ob e),
  fun e he=>⟨(o.outer e he).1,(o.outer e he).2.imp fun L q=>q.imp fun ob q=>⟨q.1,q.2.1,PM.mix_l d q.2.2.1,q.2.2.2⟩⟩,o.fkind,
  o.fframe.imp fun L q=>⟨q.1,q.2.1,q.2.2.imp id fun q=>q.imp fun ob q=>⟨PM.mix_l d q.1,q.2⟩⟩,fun a e=>(o.fsD a e).imp fun ob q=>⟨PM.mix_l d q.1,q.2⟩⟩
theorem aC.but (R:aC w H env c st h) {I:Addr} (hs:∀ b o,b ≠ I→h.get? b=some o→h'.get? b=some o) (hB:c.B I=none) (hH:H I=none) (hw:c.ow I=none):aC w H env c st h' where
 b a o e:=hs a o (fun z=>nk3 (hB.symm.trans (z ▸ e))) (R.b a o e)
 bh:=R.bh
 hh a o e:=have k:=hs a;have n:a ≠ I:=fun z=>nk3 (hH.symm.trans (z ▸ e));(R.hh a o e).imp (k _ n) fun q=>⟨q.1,q.2.imp fun _=>k _ n⟩
 fsH:=R.fsH
 own a t e:=⟨R.owB e,R.owH e,(R.owG e).imp fun o q=>⟨hs a o (fun z=>nk3 (hw.symm.trans (z ▸ e))) q.1,q.2⟩⟩
 ix:=R.ix
structure lR (w:World) (A:Around) (FT:Addr→Prop) (c:Cf) (I:Addr) (xs:List FV) (St:Nat→Heap→Prop) (Pv:Nat→Value→Prop) (fp:List Addr):Prop where
 walks:Walks pw w A I fp [I] xs.length Pv St
 obj:∀ i h,St i h→∃ o,h.get? I=some o
 foot:∀ b ∈ fp,b=I∨(∃ o,c.B b=some o)∨FT b
 val:∀ i v,i < xs.length→Pv i v→∃ x,xs[i]? = some x∧aO w c.B v x
noncomputable def oY (w:World) (A:Around) (FT:Addr→Prop) (H:PM) (env:Env) (c:Cf) (st:St) (s:Shared) (xs:List FV) (Q:Value→Shared→Prop):Prop :=
 ∀ I s' St Pv fp,lR w A FT c I xs St Pv fp→St 0 s'.heap→c.B I=none→H I=none→c.ow I=none→aC w H env c st s'.heap→aS s s'→Q (.ref I) s'
section
variable {A:Around}{FT:Addr→Prop}{Q:Value→Shared→Prop}{E:Value→Shared→Prop}{xs:List FV}
theorem zW {I a:Addr}{us:List Value}{St:Nat→Heap→Prop} (W:Walks pw w A I [I,a] [I] us.toArray.size (fun i v=>us.toArray[i]? = some v) St) (ho:∀ i h,St i h→∃ o,h.get? I=some o) (r:aQ w c.B us xs) (hf:(∃ o,c.B a=some o)∨FT a):lR w A FT c I xs St (fun i v=>us.toArray[i]? = some v) [I,a]:=by
 refine⟨by rw[List.size_toArray,r.length]at W;exact W,ho,fun b hb=>(List.mem_cons.mp hb).imp id fun q=>by rw[List.mem_singleton.mp q];exact hf,fun i v l e=>?_⟩
 obtain⟨v',e2,f⟩:=r.get (n:=i) (x:=xs[i]) (List.getElem?_eq_getElem l)
 rw[List.getElem?_toArray]at e
 exact⟨_,List.getElem?_eq_getElem l,Option.some.inj (e.symm.trans e2) ▸ f⟩
theorem uY (hh:A.handled=none) (R:aC w H env c st s.heap) {a n:Nat}{us:List Value} (h:s.heap.get? a=some (PySem.W.listOf us.toArray n)) (r:aQ w c.B us xs) (hf:(∃ o,c.B a=some o)∨FT a) (q:oY w A FT H env c st s xs Q):wpAny (model pw w) A (pyIter (.ref a)) Q E s :=
 have nn:=R.none_of_size
 wpAny_pyIter_list ⟨_,h,rfl,_,rfl⟩ (q _ _ (fun i h=>h.IsListIter s.heap.objs.size a i∧h.IsList a us.toArray) _ _ (zW (Walks.list hh s.heap.objs.size a (Nat.ne_of_lt (Heap.lt_size h)) us.toArray) (fun i h st=>st.1.imp fun o q=>q.1) r hf) ⟨⟨_,Heap.get?_push_size _ rfl,rfl,rfl⟩,⟨_,aY.push _ _ _ _ h,rfl,_,rfl⟩⟩ nn.1 nn.2.1 nn.2.2 (R.grows (aY.push _ _)) ⟨rfl,rfl⟩)
theorem KC (hh:A.handled=none) (R:aC w H env c st s.heap) {v:Value}{x:FV} (p:aO w c.B v x) (e:Bw x=some xs) (q:oY w A FT H env c st s xs Q):wpAny (model pw w) A (pyIter v) Q E s:=by
 have nn:=R.none_of_size
 refine fA e (fun ys hx e=>?_) fun _ e=>fA e (fun ys hx e=>?_) fun _ e=>ob e fun y hy e=>?_
 ·exact p.lE hx fun a n us hb r=>uY hh R (R.b _ _ hb) (Option.some.inj e ▸ r) (.inl ⟨_,hb⟩) q
 ·refine p.tE hx fun a n us hb r=>?_
  have hb':=R.b _ _ hb
  exact wpAny_pyIter_tuple ⟨_,hb',rfl,_,rfl⟩ (q _ _ (fun i h=>h.IsTupleIter s.heap.objs.size a i∧h.IsTuple a us.toArray) _ _ (zW (Walks.tuple hh s.heap.objs.size a (Nat.ne_of_lt (Heap.lt_size hb')) us.toArray) (fun i h st=>st.1.imp fun o q=>q.1) (Option.some.inj e ▸ r) (.inl ⟨_,hb⟩)) ⟨⟨_,Heap.get?_push_size _ rfl,rfl,rfl⟩,⟨_,aY.push _ _ _ _ hb',rfl,_,rfl⟩⟩ nn.1 nn.2.1 nn.2.2 (R.grows (aY.push _ _)) ⟨rfl,rfl⟩)
 ·rw[← Option.some.inj e]at q
  refine p.sE hy fun t=>?_
  have go:∀ {I:Addr}{St:Nat→Heap→Prop},Walks pw w A I [I] [I] (⟨y.toArray⟩:Str).cps.size (SignAt ⟨y.toArray⟩) St→(∀ i h,St i h→∃ o,h.get? I=some o)→lR w A FT c I (y.map fun c=>FV.str [c]) St (SignAt ⟨y.toArray⟩) [I]:=fun W ho =>
   ⟨by rw[List.length_map];rw[List.size_toArray]at W;exact W,ho,fun b hb=>.inl (List.mem_singleton.mp hb),fun i v _ ⟨ch,u,h1,h2⟩=>by
    rw[h2]
    rw[List.getElem?_toArray]at h1
    exact⟨.str [ch],by rw[List.getElem?_map,h1];rfl,.str [ch] u⟩⟩
  cases ha:(⟨y.toArray⟩:Str).cps.all (· < 128)
  ·exact wpAny_pyIter_wide ha (q _ _ _ _ _ (go (Walks.strWide hh _ _ t) fun i h q=>q.imp fun o q=>q.1) ⟨_,Heap.get?_push_size _ rfl,rfl,rfl⟩ nn.1 nn.2.1 nn.2.2 (R.grows (aY.push _ _)) ⟨rfl,rfl⟩)
  ·exact wpAny_pyIter_ascii ha (q _ _ _ _ _ (go (Walks.strAscii hh _ _ t) fun i h q=>q.imp fun o q=>q.1) ⟨_,Heap.get?_push_size _ rfl,rfl,rfl⟩ nn.1 nn.2.1 nn.2.2 (R.grows (aY.push _ _)) ⟨rfl,rfl⟩)
end
end
end Mine
end
section
namespace Mine
theorem d4 {e:Expr}{n:Str} (h:gG e=some n):∃ p,e=.Name n p:=by
 cases e with
 | Name m p=>exact⟨p,by rw[Option.some.inj h]⟩
 | _=>exact nk3 h
theorem rL {e:Expr}{q:Expr × List Expr × List Keyword × Pos} (h:yH e=some q):e=.Call q.1 q.2.1 q.2.2.1 q.2.2.2:=by
 cases e with
 | Call=>rw[← Option.some.inj h]
 | _=>exact nk3 h
section
variable {Γ:Gm}{H:PM}{F:Fr}{cx:Cx}{c:Cf}{s:Shared}{st:St}{Q:Value→Shared→Prop}{E:Value→Shared→Prop}{ih:Cx→Expr→St→Pg (PV × St)}{xs:List FV}
theorem lW {A:Around}{env:Env}{n:Str}{p pos:Pos}{args:List Expr}
  (h:wpAny (model pw Γ.w) A (eval (.Name n p) env) (fun f s₁=>wpAny (model pw Γ.w) A (callWith pos f [] (backTo pos (starEach args env)) []) Q E s₁) E s):wpAny (model pw Γ.w) A (eval (.Call (.Name n p) args [] pos) env) Q E s:=by
 rw[arm_eval_Call_Name']
 exact wpAny_bind h
theorem tD {A:Around}{FT:Addr→Prop} (hh:A.handled=none) (R:aC Γ.w H F.env c st s.heap) {r:Addr}{i j:Int}{t u v:Tok} (hr:IsRange s.heap r i j 1 t u v) (hk:xU i j=some xs) (q:oY Γ.w A FT H F.env c st s xs Q):wpAny (model pw Γ.w) A (pyIter (.ref r)) Q E s :=
 aD hk fun hk e=>by
  rw[← Option.some.inj e]at q
  obtain⟨hk,k4⟩:=Bool.and_eq_true_iff.mp hk
  obtain⟨hk,k3⟩:=Bool.and_eq_true_iff.mp hk
  obtain⟨k1,k2⟩:=Bool.and_eq_true_iff.mp hk
  have k1:=of_decide_eq_true k1
  have k2:=of_decide_eq_true k2
  have k3:=of_decide_eq_true k3
  have k4:=of_decide_eq_true k4
  have nn:=R.none_of_size
  have W:=Walks.range (prog:=pw) (w:=Γ.w) hh s.heap.objs.size i 1 (j - i).toNat
  have e:Builtin.Range.rangeSize i j 1=((j - i).toNat:Int):=by
   rw[rangeSize_one]
   split<;>omega
  have ln:(Cs i j).length=(j - i).toNat:=(List.length_map _).trans List.length_range
  rw[← ln]at W
  refine wpAny_pyIter_range hr (small_one (by omega) (by omega) (by omega) (by omega)) (q _ _ _ _ _ ⟨W,fun k h st=>⟨_,st⟩,fun b hb=>.inl (List.mem_singleton.mp hb),fun k v lt q=>?_⟩ ?_ nn.1 nn.2.1 nn.2.2 (R.grows (aY.push _ _)) ⟨rfl,rfl⟩)
  ·obtain⟨t,e⟩:=q
   rw[e,Int.mul_one]
   rw[ln]at lt
   exact⟨.int (i + (k:Int)),by show((List.range _).map _)[k]? = _;rw[List.getElem?_map,List.getElem?_range lt];rfl,.int _ t⟩
  ·rw[e,ln]
   have:=Heap.get?_push_size s.heap (o:={ cls:=.type "range_iterator",data:=.fields #[rawInt i,rawInt ((j - i).toNat:Int),rawInt 1] }) rfl
   rw[show((0:Nat):Int) * 1=0 from rfl,Int.add_zero]
   exact this
noncomputable def BA (fz:Bool) (c:Cf) (b:Addr):Prop:=fz=false∧∃ k,c.ow b=some (.l k)
theorem Li (hh:F.A.handled=none) {fz:Bool} (R:aC Γ.w H F.env c st s.heap) {v:Value}{x:PV} (p:aH Γ.w c v x) (e:xG fz x st=some xs) (q:oY Γ.w F.A (BA fz c) H F.env c st s xs Q):wpAny (model pw Γ.w) F.A (pyIter v) Q E s:=by
 cases x with
 | f x=>exact KC hh R p.fI e q
 | ref k=>exact nk3 e
 | loc k=>cases fz with
  | true=>exact nk3 e
  | false =>
   revert q
   exact R.lE p rfl e fun a us m _ h2 h3 r q=>uY hh R h3 r (.inr ⟨rfl,k,h2⟩) q
theorem pN {e:Expr} (h:bO e=true) (env:Env) (x:Value):foldedSetIterable e env x=pure x:=by
 cases e<;>first | rfl | exact nk6 h
theorem vN {e:Expr}{args:List Expr} (h:qR Γ.T cx e st=some args):∃ n p pos,e=.Call (.Name n p) args [] pos∧args.all bO=true∧gR Γ.T cx n st=some (.f (.typ .range)) :=
 ob h fun q hq h=>ob h fun w hw h=>aD h fun hr h=>ob hq fun z hz hq=>ob hq fun n hn hq=>aD hq fun h1 hq=>aD hq fun h2 hq=>by
  obtain⟨p,hp⟩:=d4 hn
  refine⟨n,p,z.2.2.2,?_,?_,?_⟩
  ·rw[rL hz,hp,bN h1,← Option.some.inj h,← Option.some.inj hq]
  ·rw[← Option.some.inj h,← Option.some.inj hq];exact h2
  ·rw[← Option.some.inj hq]at hw
   refine hw.trans ?_
   revert hr
   refine qP (P:=fun b=>b=true→_) (fun t ht hr=>?_) fun _=>nk6
   cases t with
   | range=>exact fR ht fun y h1 h2=>by rw[h1,pS h2]
   | _=>exact nk6 hr
noncomputable def TI (Γ:Gm) (H:PM) (F:Fr) (fz:Bool) (st:St) (x:Pg (List FV × St)) (e:Expr):Prop :=
 ∀ {α β:Type}{V:Cf→α→β→Prop}{k:List FV × St→Pg (β × St)}{Q₀:α→Shared→Prop}{Q:Value→Shared→Prop}{E:Value→Shared→Prop}{c:Cf}{s:Shared},Ok Γ H F c→aC Γ.w H F.env c st s.heap→aG Γ V H F (x.bind k) c s Q₀ E →
  (∀ xs st' c' s₁,aN Γ.C x=.ok (xs,st')→c.le c'→Ok Γ H F c'→aS s s₁→aG Γ V H F (k (xs,st')) c' s₁ Q₀ E→oY Γ.w F.A (BA fz c') H F.env c' st' s₁ xs Q) →
  bO e=true∧wpAny (model pw Γ.w) F.A (eval e F.env) (fun x s₁=>wpAny (model pw Γ.w) F.A (pyIter x) Q E s₁) E s
theorem jX {α β γ:Type} (x:Pg α) (f:α→Pg β) (g:β→Pg γ):(x.bind f).bind g=x.bind fun a=>(f a).bind g:=by
 induction x with
 | ask c m q k ih=>exact congrArg (Pg.ask c m q) (funext ih)
 | _=>rfl
theorem aG.optB {α β δ ε:Type}{V:Cf→α→β→Prop}{Q:α→Shared→Prop}{y:Option ε}{f:ε→Pg (δ × St)}{k:δ × St→Pg (β × St)}{P:Prop} (g:aG Γ V H F ((Mine.opt y f).bind k) c s Q E) (n:∀ a,y=some a→aG Γ V H F ((f a).bind k) c s Q E→P):P:=by
 cases y with
 | none=>exact g.stuck
 | some a=>exact n a rfl g
theorem AQ {α β γ:Type}{C:bW}{x:Pg (α × St)}{a:α}{st:St}{f:α × St→Option β}{k:α × St→β→Pg γ}{y:β} (e:aN C x=.ok (a,st)) (h:f (a,st)=some y):aN C (x.bind fun a=>opt (f a) (k a))=aN C (k (a,st) y):=by
 rw[aZ,e]
 show aN C (opt (f (a,st)) _)=_
 rw[h];rfl
theorem oY.same {A:Around}{FT:Addr→Prop}{env:Env}{s s':Shared} (q:oY Γ.w A FT H env c st s xs Q) (z:aS s s'):oY Γ.w A FT H env c st s' xs Q:=fun I s' St Pv fp i1 i2 i3 i4 i5 i6 i7=>q I s' St Pv fp i1 i2 i3 i4 i5 i6 (z.trans i7)
theorem uE (hK:cS Γ.w Γ.K Γ.T) (hI:cA Γ H ih) (hF:aV Γ F cx) {fz:Bool}{e:Expr}:TI Γ H F fz st (jB Γ.T ih fz cx e st) e:=by
 refine qP (P:=fun x=>TI Γ H F fz st x e) (fun args hr {_ _ _ k Q₀ Q E c s} o R g n=>?_) fun _ {_ _ _ k Q₀ Q E c s} o R g n=>?_
 ·obtain⟨m,p,pos,rfl,ha,hl⟩:=vN hr
  refine⟨rfl,lW ?_⟩
  refine pD hK hF o R hl fun v fv=>?_
  rw[show v=.type "range" from fv]
  rw[jX]at g
  refine bM (Γ:=Γ) (P:=fun _=>True) ha (lS (Γ:=Γ) "range") (aG.bind g (i8 hI hF pos args st) o R fun ws st₂ c₂ vs s₂ e₂ l₂ o₂ R₂ p₂ z₂ g=>⟨trivial,aG.optB g fun xs hx g=>?_⟩)
  have q:=n xs st₂ c₂ s₂ (AQ e₂ hx) l₂ o₂ z₂ g
  refine fA hx (fun u hu hx=>ob hx fun j hj hx=>?_) fun _ hx=>ob hx fun u hu hx=>ob hx fun i hi hx=>ob hx fun j hj hx=>?_
  ·refine p₂.oneE hu fun v p=>p.iE hj fun t=>call_range_1 ?_
   exact tD hF.handled (R₂.grows (aY.push s₂.heap _)) (IsRange.new _ _ _ _ _ _ _) hx (q.same ⟨rfl,rfl⟩)
  ·refine p₂.twoE hu fun v v' p p'=>p.iE hi fun t=>p'.iE hj fun t'=>call_range_2 ?_
   exact tD hF.handled (R₂.grows (aY.push s₂.heap _)) (IsRange.new _ _ _ _ _ _ _) hx (q.same ⟨rfl,rfl⟩)
 ·cases hp:bO e with
  | false=>rw[hp]at g;exact g.stuck
  | true =>
   rw[hp]at g
   refine⟨rfl,?_⟩
   replace g:aG _ _ _ _ (((ih cx e st).bind fun a=>opt (xG fz a.1 a.2) fun vs=>.ok (vs,a.2)).bind k) _ _ _ _:=g
   rw[jX]at g
   exact aG.bind g (hI F cx e st hF) o R fun w₁ st₁ c₁ v₁ s₁ e₁ l₁ o₁ R₁ p₁ z₁ g=>aG.optB g fun xs hx g=>Li hF.handled R₁ p₁ hx (n _ _ c₁ s₁ (hp.symm ▸ AQ e₁ hx) l₁ o₁ z₁ g)
end
end Mine
end
section
namespace Mine
theorem dK {α β:Type}{a a':α}{b b':β}{P:Prop} (e:(a,b)=(a',b')) (k:a=a'→b=b'→P):P:=k (congrArg Prod.fst e) (congrArg Prod.snd e)
theorem xN {α:Type}{C:bW}{x:Pg α}{a:α} (h:aN C (fB x)=.ok a):aN C x=.ok a:=by
 induction x with
 | stuck=>exact h
 | raise=>exact nk1 h
 | ok=>exact h
 | ask c m q k ih =>
  replace h:(calm (q.run C)).bind (fun r=>aN C (fB (k r)))=.ok a:=h
  show(kI c (q.run C)).bind (fun r=>aN C (k r))=.ok a
  cases e:q.run C with
  | stuck=>rw[e]at h;exact nk1 h
  | raise=>rw[e]at h;exact nk1 h
  | ok r=>rw[e]at h;cases c<;>exact ih r h
theorem qX {α:Type}{C:bW}{x:Pg α} (h:aN C (fB x)=.raise):False:=by
 induction x with
 | stuck=>cases h
 | raise=>cases h
 | ok=>cases h
 | ask c m q k ih =>
  replace h:(calm (q.run C)).bind (fun r=>aN C (fB (k r)))=.raise:=h
  cases e:q.run C with
  | stuck=>rw[e]at h;cases h
  | raise=>rw[e]at h;cases h
  | ok r=>rw[e]at h;exact ih r h
section
variable {Γ:Gm}{H:PM}{F:Fr}{cx:Cx}{c:Cf}{s:Shared}{st:St}{xh:Cx→Stmt→St→Pg (Fl × St)}
theorem aG.calm {α β:Type}{V:Cf→α→β→Prop}{Q:α→Shared→Prop}{E:Value→Shared→Prop}{x:Pg (β × St)}{P:Prop} (g:aG Γ V H F (fB x) c s Q E) (k:∀ b st',aN Γ.C x=.ok (b,st')→(∀ c' a s',c.le c'→aC Γ.w H F.env c' st' s'.heap→V c' a b→aS s s'→Q a s')→P):P:=by
 cases h:aN Γ.C (fB x) with
 | stuck=>exact absurd h g.go
 | raise=>exact(qX h).elim
 | ok r=>exact k r.1 r.2 (xN h) (g.ok r.1 r.2 h)
theorem TG.ok {α β:Type}{V:Cf→α→β→Prop}{t:Sem α}{x:Pg (β × St)}{b:β}{st':St} (g:TG Γ V H F st x t) (e:aN Γ.C x=.ok (b,st')) (o:Ok Γ H F c) (R:aC Γ.w H F.env c st s.heap) {Q:α→Shared→Prop}{E:Value→Shared→Prop}
  (q:∀ c' a s',c.le c'→Ok Γ H F c'→aC Γ.w H F.env c' st' s'.heap→V c' a b→aS s s'→Q a s'):wpAny (model pw Γ.w) F.A t Q E s :=
 g c s Q E o R ⟨fun b' st'' e' c' a s' l R' v z=>dK (nE (e.symm.trans e')) fun e1 e2=>q c' a s' l (o.mono _ l) (e2 ▸ R') (e1 ▸ v) z,fun e'=>nk2 (e'.symm.trans e),fun e'=>nk1 (e'.symm.trans e)⟩
theorem aC.noFs {w:World}{env:Env}{h:Heap} (R:aC w H env c st h) {I:Addr} (hH:H I=none):I ∉ c.fs:=fun z=>by have:=R.fsH I z;rw[hH]at this;exact nk6 this
theorem aC.noCel {w:World}{env:Env}{h:Heap} (R:aC w H env c st h) {I a:Addr}{x:Str} (hH:H I=none) (hw:c.ow I=none) (e:env.cells.lookup x=some a):a ≠ I:=fun z=>(R.ix.cel x a e).elim (fun y=>nk3 (hw.symm.trans (z ▸ y))) fun y=>y.2.elim fun o y=>nk3 (hH.symm.trans (z ▸ y.1))
theorem aC.hideO {w:World}{env:Env}{h:Heap} (R:aC w H env c st h) {D:Addr}{ob:Obj} (e:h.get? D=some ob) (hB:c.B D=none) (hH:H D=none) (hw:c.ow D=none) :
  PM.apart H (PM.one D ob)∧aC w (PM.mix H (PM.one D ob)) env c st h ∧
   ∀ {c':Cf}{st':St}{h':Heap},c.le c'→aC w (PM.mix H (PM.one D ob)) env c' st' h'→aC w H env c' st' h'∧h'.get? D=some ob∧c'.B D=none∧c'.ow D=none:=by
 have dj:PM.apart H (PM.one D ob):=fun a o z=>PM.oneE z fun z _=>z ▸ hH
 refine⟨dj,R.hide dj fun a o z=>PM.oneE z fun z z'=>z ▸ z' ▸ ⟨e,hB,hw⟩,fun {c' st' h'} l R'=>?_⟩
 have nI:=R.noFs hH
 obtain⟨R'',q⟩:=R'.unhide dj (fun x a ea=>eW (R.noCel hH hw ea)) fun a ha=>eW fun z=>nI (l.fs ▸ z ▸ ha)
 obtain⟨q1,q2,q3⟩:=q D ob gQ
 exact⟨R'',q1.is (l.fs ▸ nI),q2,q3⟩
noncomputable def vJ (H:PM) (c:Cf) (b:Addr):Prop:=∃ o,H b=some o∧b ∉ c.fs
section
variable {w:World}{A:Around}{I:Addr}{xs:List FV}{Stt:Nat→Heap→Prop}{Pv:Nat→Value→Prop}{fp:List Addr}{env:Env}{h:Heap}
theorem lR.hideH (it:lR w A (vJ H c) c I xs Stt Pv fp) {k:Nat} (hs:Stt k h) (R:aC w H env c st h) (hB:c.B I=none) (hH:H I=none) (hw:c.ow I=none) :
  ∃ ob,PM.apart H (PM.one I ob)∧aC w (PM.mix H (PM.one I ob)) env c st h ∧
   ∀ {c':Cf}{st':St}{h':Heap},c.le c'→aC w (PM.mix H (PM.one I ob)) env c' st' h'→aC w H env c' st' h'∧Stt k h'∧c'.B I=none∧c'.ow I=none:=by
 obtain⟨ob,e⟩:=it.obj k h hs
 obtain⟨dj,R1,back⟩:=R.hideO e hB hH hw
 refine⟨ob,dj,R1,fun {c' st' h'} l R'=>?_⟩
 obtain⟨R2,eI,q2,q3⟩:=back l R'
 refine⟨R2,it.walks.frame k h h' hs fun b hb o eb=>?_,q2,q3⟩
 rcases it.foot b hb with z | z | z
 ·rw[z]at eb ⊢;rw[← Option.some.inj (e.symm.trans eb)];exact eI
 ·obtain⟨o',e'⟩:=z
  rw[Option.some.inj (eb.symm.trans (R.b _ _ e'))];exact R'.b _ _ (l.b _ _ e')
 ·obtain⟨o',e',nf⟩:=z
  rw[Option.some.inj (eb.symm.trans ((R.hh b o' e').is nf))];exact(R2.hh b o' e').is (l.fs ▸ nf)
theorem lR.monoH {c':Cf} (i:lR w A (vJ H c) c I xs Stt Pv fp) (l:c.le c'):lR w A (vJ H c') c' I xs Stt Pv fp :=
 ⟨i.walks,i.obj,fun b hb=>(i.foot b hb).imp id fun q=>q.imp (fun q=>q.imp fun o e=>l.b _ _ e) fun q=>q.imp fun o q=>⟨q.1,l.fs ▸ q.2⟩,fun k v lt p=>(i.val k v lt p).imp fun x q=>⟨q.1,q.2.mono l.b⟩⟩
theorem lR.fz (i:lR w A (BA true c) c I xs Stt Pv fp):lR w A (vJ H c) c I xs Stt Pv fp:=⟨i.walks,i.obj,fun b hb=>(i.foot b hb).imp id fun q=>q.imp id fun q=>nk5 q.1,i.val⟩
end
theorem zH {xs:List FV}{i:Nat}{x:FV} (hx:xs[i]? = some x):xs.drop i=x::xs.drop (i + 1):=by
 obtain⟨hi,e⟩:=List.getElem?_eq_some_iff.mp hx
 rw[List.drop_eq_getElem_cons hi,e]
abbrev EC (cx:Cx) (xh:Cx→Stmt→St→Pg (Fl × St)) (n:Str) (b:List Stmt):List FV→St→Pg (Fl × St):=KL (fun x st=>gO cx n (.f x) st) (dS xh cx b)
inductive BL (Γ:Gm) (H:PM) (F:Fr) (I:Addr) (xs:List FV) (Stt:Nat→Heap→Prop) (c₁:Cf) (s₁:Shared) (g:List FV→St→Pg (Fl × St)) (r:O (Fl × St)) (m:Nat) (s':Shared):Prop where
 | mk (i:Nat) (c':Cf) (st':St) (hm:i + m=xs.length) (l:c₁.le c') (R:aC Γ.w H F.env c' st' s'.heap) (hs:Stt i s'.heap) (hB:c'.B I=none) (hw:c'.ow I=none) (z:aS s₁ s') (e:aN Γ.C (g (xs.drop i) st')=r):BL Γ H F I xs Stt c₁ s₁ g r m s'
noncomputable def Mn (A:Around) (env:Env) (Q:Flow→Shared→Prop) (E:Value→Shared→Prop) (r:Result) (s':Shared):Prop:=match r with
 | .ok f=>Q f s'
 | .error e=>cameBackBy (model pw Γ.w) A env E e s'
theorem Lv (hK:cS Γ.w Γ.K Γ.T) (hI:cA Γ H (E0 Γ.T)) (hX:∀ H,xA Γ H xh) (hF:aV Γ F cx) {n:Str}{np p:Pos}{it:Expr}{b:List Stmt} :
  TG Γ (VF Γ.w) H F st ((jB Γ.T (E0 Γ.T) true cx it st).bind fun r=>fB (EC cx xh n b r.1 r.2)) (exec (.For (.Name n np) it b [] p) F.env):=by
 intro c s Q E o R g
 have key:=uE (fz:=true) (st:=st) (e:=it) hK hI hF (Q:=fun itv s₂=>codeAny (model pw Γ.w) F.A (.forLoop (.Name n np) itv b [] F.env) (Mn (Γ:=Γ) F.A F.env Q E) s₂) (E:=E) o R g ?_
 ·exact wpAny_For key.2 (fun x=>pN key.1 _ x)
 intro xs st₁ c₁ s₁ _ l₁ o₁ z₁ g I s₂ Stt Pv fp itr oP hB hH hw R₂ z₂
 refine aG.calm g fun f stE hf fin=>?_
 have itr':lR Γ.w F.A (vJ H c₁) c₁ I xs Stt Pv fp:=itr.fz
 refine codeAny_forLoop (BL Γ H F I xs Stt c₁ s₁ (EC cx xh n b) (.ok (f,stE))) (fun m s' hh=>?_) xs.length (BL.mk 0 c₁ st₁ (Nat.zero_add _) (.refl c₁) R₂ oP hB hw z₂ hf)
 cases hh with | mk i c' st' hm l' R' hst hB' hw' z' hf' =>
 have o':=o₁.mono _ l'
 have fin:=fun c'' fl s'' (l:c'.le c'') R v (z:aS s' s'')=>fin c'' fl s'' (l'.trans l) R v (z'.trans z)
 cases m with
 | zero =>
  obtain rfl:i=xs.length:=hm
  refine itr.walks.done s' _ _ hst fun h' tk hk=>?_
  have R'':=R'.but (h':=h') (fun b o hb e=>hk b o (fun z=>hb (List.mem_singleton.mp z)) e) hB' hH hw'
  rw[List.drop_length]at hf'
  exact dK (nE (a:=(Fl.next,st')) hf') fun e1 e2=>wpAny_execs_nil (fin c' .next _ (.refl c') (e2 ▸ R'') (e1 ▸ (rfl:VF Γ.w c' .next .next)) ⟨rfl,rfl⟩)
 | succ m =>
  have hi:i < xs.length:=by omega
  refine itr.walks.item i s' _ _ hi hst fun v h' tk hv hst' hk=>?_
  have R₃:=R'.but (h':=h') (fun b o hb e=>hk b o (fun z=>hb (List.mem_singleton.mp z)) e) hB' hH hw'
  obtain⟨x,hx,fx⟩:=(itr'.monoH l').val i v hi hv
  rw[zH hx]at hf'
  refine BJ (k:=fun st=>(dS xh cx b st).bind fun r=>match r.1 with
   | .next=>EC cx xh n b (xs.drop (i + 1)) r.2
   | .ret w=>.ok (.ret w,r.2)
   | _=>.stuck) hf' fun st₄ e₄ hf'=>uS hf' fun r e₅ hf'=>?_
  obtain⟨ob,dj,R₄,back⟩:=(itr'.monoH l').hideH (k:=i + 1) (h:=h') hst' R₃ hB' hH hw'
  refine wpAny_assign_Name (kU (s:={ s' with heap:=h',toks:=tk }) hF (o'.hide dj) R₄ (aH.f fx) e₄ fun s₄ R₄ z₄=>?_)
  refine TG.ok (mZ (hX _) hF b st₄) e₅ (o'.hide dj) R₄ fun c₅ flv s₅ l₅ o₅ R₅ v₅ z₅=>?_
  obtain⟨R₆,h6,h7,h8⟩:=back l₅ R₅
  have zz:aS s' s₅:=aS.trans ⟨rfl,rfl⟩ (z₄.trans z₅)
  obtain⟨fl,st₅⟩:=r
  cases fl with
  | next=>rw[show flv=.next from v₅];exact⟨m,Nat.lt_succ_self m,BL.mk (i + 1) c₅ st₅ (by omega) (l'.trans l₅) R₆ h6 h7 h8 (z'.trans zz) hf'⟩
  | ret w =>
   obtain⟨v,rfl,p⟩:=v₅
   exact dK (nE (a:=(Fl.ret w,st₅)) hf') fun e1 e2=>fin c₅ (.ret v) s₅ l₅ (e2 ▸ R₆) (e1 ▸ (⟨v,rfl,p⟩:VF Γ.w c₅ (.ret v) (.ret w))) zz
  | _=>exact nk1 hf'
end
end Mine
end
section
namespace Mine
noncomputable def bZ.isG (t:bZ):Bool:=@bZ.rec (fun _=>Bool) false (fun _=>false) (fun _=>true) (fun _=>true) (fun _=>false) t
noncomputable def dQ (c:Cf) (h:Heap):PM:=fun a=>(c.ow a).bind fun t=>gd (!t.isG) (h.get? a)
theorem kC {c:Cf}{h:Heap}{a:Addr}{t:bZ} (q:c.ow a=some t) (z:t.isG=false):dQ c h a=h.get? a:=by
 show(c.ow a).bind (fun t=>gd (!t.isG) (h.get? a))=_
 rw[q]
 show gd (!t.isG) _=_
 rw[z];rfl
theorem GL {b c:Bool}{P:Prop} (h : @Bool.rec (fun _=>Bool) false c b=true) (k:b=true→c=true→P):P:=by
 cases b with
 | false=>exact nk6 h
 | true=>exact k rfl h
theorem tS {n:Nat}{l:List MO}:∀ {k C:Nat}{fs:List (Str × PV)},mP n l=true→l[k]? = some (.inst C fs)→wV n fs=true:=by
 induction l with
 | nil=>exact fun _ e=>nk3 e
 | cons m r ih =>
  intro k C fs h e
  refine GL (b:=oe (pG m) (fun q=>wV n q.2) true) (c:=mP n r) h fun h1 h2=>?_
  cases k with
  | zero=>rw[show m=.inst C fs from Option.some.inj e]at h1;exact h1
  | succ k=>exact ih h2 e
theorem rR {n:Nat}{fs:List (Str × PV)} (h:wV n fs=true):∀ x ∈ fs,sO n x.2=true:=by
 induction fs with
 | nil=>exact iJ
 | cons y r ih=>exact fun x m=>GL (b:=sO n y.2) (c:=wV n r) h fun h1 h2=>(List.mem_cons.mp m).elim (fun e=>e ▸ h1) fun m=>ih h2 x m
noncomputable def bZ.below (m:Nat) (t:bZ):Option bZ:=@bZ.rec (fun _=>Option bZ) none (fun _=>none) (fun k=>gd (Nat.blt k m) (some (.g k))) (fun k=>gd (Nat.blt k m) (some (.d k))) (fun _=>none) t
noncomputable def Cf.back (c c₂:Cf) (m:Nat):Cf:=⟨c₂.B,fun a=>oe (c₂.ow a) (bZ.below m) ((c.ow a).bind fun t=>gd (!t.isG) (some t)),c₂.S.take m,c.L,c.ro,c.fs⟩
section
variable {c c₂:Cf}{m:Nat}{a:Addr}{t:bZ}
theorem f7 {x:Option bZ} (e:c₂.ow a=x):(c.back c₂ m).ow a=oe x (bZ.below m) ((c.ow a).bind fun t=>gd (!t.isG) (some t)):=e ▸ rfl
theorem LZ (e:c₂.ow a=none) (q:c.ow a=some t) (z:t.isG=false):(c.back c₂ m).ow a=some t:=by
 refine(f7 e).trans ?_
 rw[q]
 show gd (!t.isG) _=_
 rw[z];rfl
theorem DX (e:c₂.ow a=none∨c₂.ow a=some .v) (q:c.ow a=none):(c.back c₂ m).ow a=none:=e.elim (fun e=>(f7 e).trans (by rw[q];rfl)) fun e=>f7 e
theorem Du {k:Nat} (h:m ≤ k) (e:c₂.ow a=some (.g k)∨c₂.ow a=some (.d k)):(c.back c₂ m).ow a=none:=by
 have z:Nat.blt k m=false:=Bool.eq_false_iff.mpr fun z=>Nat.lt_irrefl _ (Nat.lt_of_le_of_lt h (eK z))
 rcases e with e | e
 ·refine(f7 e).trans ?_;show gd (Nat.blt k m) _=_;rw[z];rfl
 ·refine(f7 e).trans ?_;show gd (Nat.blt k m) _=_;rw[z];rfl
theorem Cq {k:Nat} (h:k < m) (e:c₂.ow a=some (.g k)):(c.back c₂ m).ow a=some (.g k):=by refine(f7 e).trans ?_;show gd (Nat.blt k m) _=_;rw[show Nat.blt k m=true from Nat.ble_eq_true_of_le h];rfl
theorem J6 {k:Nat} (h:k < m) (e:c₂.ow a=some (.d k)):(c.back c₂ m).ow a=some (.d k):=by refine(f7 e).trans ?_;show gd (Nat.blt k m) _=_;rw[show Nat.blt k m=true from Nat.ble_eq_true_of_le h];rfl
theorem LV (e:(c.back c₂ m).ow a=some t) {P:Prop} (g:∀ k,t=.g k→k < m→c₂.ow a=some (.g k)→P) (d:∀ k,t=.d k→k < m→c₂.ow a=some (.d k)→P) (h:c₂.ow a=none→c.ow a=some t→t.isG=false→P):P:=by
 cases y:c₂.ow a with
 | none=>exact ob ((f7 y).symm.trans e) fun t' q e=>aD e fun z e=>have e:=Option.some.inj e;h y (e ▸ q) (e ▸ gV z)
 | some t' =>
  have e:=(f7 y).symm.trans e
  cases t' with
  | g k=>exact aD e fun z e=>g k (Option.some.inj e).symm (eK z) y
  | d k=>exact aD e fun z e=>d k (Option.some.inj e).symm (eK z) y
  | _=>exact nk3 e
theorem dM {α:Type}{l:List α}{k m:Nat} (h:k < m):(l.take m)[k]? = l[k]?:=List.getElem?_take_of_lt h
theorem aH.back {w:World}{v:Value}{x:PV} (p:aH w c₂ v x) (h:sO m x=true):aH w (c.back c₂ m) v x:=by
 cases x with
 | f x=>exact p
 | ref k=>exact p.refI.imp fun s q=>⟨q.1,(dM (eK h)).trans q.2⟩
 | loc=>exact nk6 h
theorem Own.keep {w:World}{env:Env}{c':Cf}{st:St}{o o':Obj}{g:List MO} (p:Own w env c st a o t) (l:c.le c') (z:t.isG=false) (e:o'.data=o.data) (f:∀ k,t=.l k→o'=o):Own w env c' { st with g:=g } a o' t:=by
 cases t with
 | v=>exact And.imp_right (fun q=>q.imp fun _ q=>q.imp fun _ q=>⟨e.trans q.1,q.2.1,fun x u e=>lK l (q.2.2 x u e)⟩) p
 | c x=>exact And.imp_right (fun q=>q.imp fun _ q=>⟨e.trans q.1,fun u e=>lK l (q.2 u e)⟩) p
 | l k=>exact f k rfl ▸ ⟨kD l.l p.1,fun xs e=>(p.2 xs e).imp fun _ q=>q.imp fun _ q=>⟨q.1,q.2.mono l.b⟩⟩
 | _=>exact nk5 z
end
section
variable {w:World}{H P:PM}{c c₂:Cf}{st st₂:St}{env env₂:Env}{h h₂:Heap}{m:Nat}
theorem aC.hid_apart (R:aC w H env c st h):PM.apart H (dQ c h):=fun a o e=>ob e fun t q _=>R.owH q
theorem aC.hidden (R:aC w H env c st h) (R₂:aC w (PM.mix H (dQ c h)) env₂ c₂ st₂ h₂) {a:Addr}{t:bZ} (q:c.ow a=some t) (z:t.isG=false):c₂.ow a=none∧c₂.B a=none∧∃ o,Own w env c st a o t∧oJ c₂.fs h₂ a o:=by
 obtain⟨o,e,ho⟩:=R.owG q
 have e2:PM.mix H (dQ c h) a=some o:=PM.mix_r ((kC q z).trans e)
 refine⟨?_,?_,o,ho,R₂.hh a o e2⟩
 ·cases y:c₂.ow a with
  | none=>rfl
  | some t'=>exact nk3 ((R₂.owH y).symm.trans e2)
 ·cases y:c₂.B a with
  | none=>rfl
  | some o'=>exact nk3 ((R₂.bh a o' y).symm.trans e2)
theorem aC.back (R:aC w H env c st h) (R₂:aC w (PM.mix H (dQ c h)) env₂ c₂ st₂ h₂) (hb:c.B.le c₂.B) (hs:c.S <+: c₂.S) (hfs:c₂.fs=env.locals::c.fs) (hm:st.g.length ≤ m) (hm2:m ≤ st₂.g.length) (ok:mP m (st₂.g.take m)=true):c.le (c.back c₂ m)∧aC w H env (c.back c₂ m) { st with g:=st₂.g.take m } h₂:=by
 have l:c.le (c.back c₂ m):=⟨hb,by
  obtain⟨t,ht⟩:=hs
  show c.S <+: c₂.S.take m
  rw[← ht,List.take_append,List.take_of_length_le (R.ix.gl ▸ hm)]
  exact List.prefix_append _ _,List.prefix_refl _,rfl,rfl⟩
 have hid:∀ {a:Addr}{t:bZ},c.ow a=some t→t.isG=false→(c.back c₂ m).ow a=some t:=fun q z=>LZ (R.hidden R₂ q z).1 q z
 have tl:∀ {α:Type}{l:List α}{k:Nat}{x:α},(l.take m)[k]? = some x→k < m:=fun e=>Nat.lt_of_lt_of_le (dJ e) (List.length_take_le _ _)
 refine⟨l,R₂.b,fun a o e=>(PM.mixN (R₂.bh a o e)).2,fun a o e=>(R₂.hh a o (PM.mix_l R.hid_apart e)).imp id fun q=>⟨?_,q.2⟩,R.fsH,fun a t e=>LV e (fun k z hk e=>?_) (fun k z hk e=>?_) fun n e z=>?_,hid R.ix.loc rfl,fun x a e=>(R.ix.cel x a e).imp (fun q=>hid q rfl) fun q=>⟨q.1,q.2.imp fun o q=>⟨q.1,q.2.mono l⟩⟩,R.ix.celd,?_,fun k sl e=>?_,R.ix.ll,fun k a xs e1 e2=>hid (R.ix.l k a xs e1 e2) rfl,R.ix.nol⟩
 ·have q:=hfs ▸ q.1
  exact(List.mem_cons.mp q).elim (fun z=>nk3 ((R.owH R.ix.loc).symm.trans (z ▸ e))) id
 ·rw[z]
  exact⟨R₂.owB e,(PM.mixN (R₂.owH e)).2,(R₂.owG e).imp fun o q=>⟨q.1,q.2.imp fun sl q=>⟨(dM hk).trans q.1,q.2.1,fun m' e=>jD.mono (.refl _) (q.2.2 m' ((dM hk).symm.trans e))⟩⟩⟩
 ·rw[z]
  exact⟨R₂.owB e,(PM.mixN (R₂.owH e)).2,(R₂.owG e).imp fun o q=>⟨q.1,q.2.imp fun a' q=>⟨(dM hk).trans q.1,fun C fs e=>(q.2 C fs ((dM hk).symm.trans e)).imp fun es q=>q.imp fun n q=>⟨q.1,iA.map (fun x u hx p=>p.back (rR (tS ok e) x hx)) q.2⟩⟩⟩⟩
 ·obtain⟨_,nB,o,ho,hi⟩:=R.hidden R₂ e z
  refine⟨nB,R.owH e,?_⟩
  rcases hi with hi | ⟨hi,sl,hh⟩
  ·exact⟨o,hi,ho.keep l z rfl fun _ _=>rfl⟩
  ·refine⟨_,hh,ho.keep l z rfl fun k tk=>?_⟩
   have hi:=hfs ▸ hi
   exact(List.mem_cons.mp hi).elim (fun y=>by rw[y,R.ix.loc,tk]at e;cases e) fun y=>absurd y (R.noFs (R.owH e))
 ·show(c₂.S.take m).length=(st₂.g.take m).length
  rw[List.length_take,List.length_take,R₂.ix.gl]
 ·have hk:=tl e
  have:=R₂.ix.g k sl ((dM hk).symm.trans e)
  cases sl with
  | o a d=>exact⟨Cq hk this.1,J6 hk this.2⟩
  | l a=>exact Cq hk this
end
end Mine
end
section
namespace Mine
section
variable {Γ:Gm}{H:PM}{F:Fr}{cx:Cx}{c c':Cf}{s:Shared}{st:St}{ih:Cx→Expr→St→Pg (PV × St)}{w:World}{env:Env}{h h':Heap}
noncomputable def oW (ifs:List Expr) (env:Env) (b:Bool):Sem Bool:=forIn ifs b fun c r=>if r=true then do let ok ← PySem.isTrue c env (eval c env);pure (ForInStep.yield ok) else pure (ForInStep.yield r)
theorem EK {A:Around}{Q:Bool→Shared→Prop}{E:Value→Shared→Prop} (ifs:List Expr) (h:Q false s):wpAny (model pw Γ.w) A (oW ifs env false) Q E s:=by
 induction ifs with
 | nil=>exact wpAny_pure h
 | cons e r ih =>
  unfold oW
  rw[List.forIn_cons,if_neg (by decide)]
  exact wpAny_bind (wpAny_pure ih)
theorem EO (hI:cA Γ H ih) (hF:aV Γ F cx) {Q:Bool→Shared→Prop}{E:Value→Shared→Prop} (ifs:List Expr):∀ {st:St}{r:Bool × St}{c:Cf}{s:Shared},aN Γ.C (nL ih cx ifs st)=.ok r→Ok Γ H F c→aC Γ.w H F.env c st s.heap →
  (∀ c' s',c.le c'→Ok Γ H F c'→aC Γ.w H F.env c' r.2 s'.heap→aS s s'→Q r.1 s')→wpAny (model pw Γ.w) F.A (oW ifs F.env true) Q E s:=by
 induction ifs with
 | nil=>exact fun e o R q=>wpAny_pure (by rw[← nE e]at q;exact q _ _ (.refl _) o R (.refl _))
 | cons i l ihl =>
  intro st r c s e o R q
  refine uS (f:=fun (t:Bool × St)=>bif t.1 then nL ih cx l t.2 else .ok (false,t.2)) e fun t e₁ e₂=>?_
  unfold oW
  rw[List.forIn_cons,if_pos rfl]
  refine wpAny_bind (wpAny_bind (TG.ok (vQ hI hF 6 i st) e₁ o R fun c₁ t' s₁ l₁ o₁ R₁ v₁ z₁=>wpAny_pure ?_))
  obtain⟨b,st₁⟩:=t
  obtain rfl:t'=b:=v₁
  cases t' with
  | true=>exact ihl e₂ o₁ R₁ fun c' s' l o R z=>q c' s' (l₁.trans l) o R (z₁.trans z)
  | false=>rw[← nE e₂]at q;exact EK l (q c₁ s₁ l₁ o₁ R₁ z₁)
theorem KV {A:Around}{D:Addr}{us:List Value}{n:Nat}{v:Value}{Q:Value→Shared→Prop}{E:Value→Shared→Prop} (e:s.heap.get? D=some (PySem.W.listOf us.toArray n)) (hz:us.length ≤ sizeLine)
  (q:∀ h' n',h'.get? D=some (PySem.W.listOf (us++[v]).toArray n')→(∀ b,b ≠ D→h'.get? b=s.heap.get? b)→Q .none { s with heap:=h' }):wpAny (model pw w) A (call (.builtin "list.append") [.ref D,v]) Q E s:=by
 refine call_meets (id := "list.append") slot_list_append ⟨_,e,rfl⟩ entry_list_append (args_list_append _ _) (AutoListH.list_append_list_val_0 D us.toArray n v (by rw[List.size_toArray];exact hz)) ⟨e,?_⟩
 refine q _ (if (us.toArray.push v).size == us.toArray.size then n else n + 1) ?_ fun b hb=>Heap.get?_update_ne _ _ _ _ hb
 rw[Heap.get?_update_self _ e rfl,← List.push_toArray]
 rfl
structure sK (w:World) (H:PM) (c:Cf) (D:Addr) (h:Heap) (vs:List FV):Prop where
 B:c.B D=none
 hH:H D=none
 ow:c.ow D=none
 obj:∃ us n,h.get? D=some (PySem.W.listOf us.toArray n)∧aQ w c.B us vs
theorem sK.mono {D:Addr}{vs:List FV} (a:sK w H c D h vs) (l:c.le c') (hB:c'.B D=none) (hw:c'.ow D=none) (k:∀ o,h.get? D=some o→h'.get? D=some o):sK w H c' D h' vs :=
 ⟨hB,a.hH,hw,a.obj.imp fun us q=>q.imp fun n q=>⟨k _ q.1,q.2.mono l.b⟩⟩
noncomputable def B1 (elt:Expr) (gens:List Comprehension) (sc:Scope) (pos:Pos) (k:Nat) (acc:Value) (env:Env) (r:Sem Fin):Sem Fin :=
 match gens[k + 1]? with
 | some g'=>do
  let x ← eval g'.iter env
  standAt g'.iter.pos
  let x ← if g'.is_async != 0 then foldedIterable g'.iter x else foldedSetIterable g'.iter env x
  let _ ← runOwn (.compStart (.ListComp elt gens sc pos) (k + 1) (← holding [x] (if g'.is_async != 0 then asyncIter x else pyIter x)) acc env) env
  r
 | none=>do
  (do let _ ← call (.builtin "list.append") [acc,← eval elt env]:Sem Unit)
  r
noncomputable def A7 (elt:Expr) (gens:List Comprehension) (sc:Scope) (pos:Pos) (k:Nat) (g:Comprehension) (it acc:Value) (env:Env) (v:Value):Sem Fin:=do
 assign g.target env v
 let ok ← oW g.ifs env true
 if ok then B1 elt gens sc pos k acc env (again (.compLoop (.ListComp elt gens sc pos) k it acc env)) else again (.compLoop (.ListComp elt gens sc pos) k it acc env)
theorem yZ {elt target iter:Expr}{ifs:List Expr}{gens:List Comprehension}{sc:Scope}{pos:Pos}{k:Nat}{it acc:Value} (hg:gens[k]? = some ⟨target,iter,ifs,0⟩) :
  compTurn (.ListComp elt gens sc pos) k it acc env=(do
   standAt iter.pos
   match ← pyNext it with
   | none=>pure (.done .next)
   | some v =>
    letOwnedTupleGo target it v
    A7 elt gens sc pos k ⟨target,iter,ifs,0⟩ it acc env v):=by
 unfold compTurn
 simp only[hg]
 rfl
theorem wN {R:Result→Shared→Prop}{A:Around}{elt:Expr}{gens:List Comprehension}{sc:Scope}{pos:Pos}{k:Nat}{I:Addr}{acc:Value}{g:Comprehension} (hg:gens[k]? = some g) (ha:g.is_async=0) (h:codeAny (model pw w) A (.compLoop (.ListComp elt gens sc pos) k (.ref I) acc env) R s)
  (hself:∀ (Q:Value→Shared→Prop) (E:Value→Shared→Prop),Q (.ref I) s→wpAny (model pw w) A (pyIter (.ref I)) Q E s):codeAny (model pw w) A (.compStart (.ListComp elt gens sc pos) k (.ref I) acc env) R s:=by
 refine codeAny_of_tree ?_
 show wpAny _ _ ((compStart (.ListComp elt gens sc pos) k (.ref I) acc env).onRaise (fun x=>do noteFrame x env;standAt theWindowsPlace)) _ _ s
 refine wpAny_notedAt ?_
 unfold compStart
 have e1:((clausesOf (.ListComp elt gens sc pos))[k]?).elim false (·.is_async != 0)=false:=by
  show(gens[k]?).elim false (·.is_async != 0)=false
  rw[hg];show(g.is_async != 0)=false;rw[ha];rfl
 have e2:(clausesOf (.ListComp elt gens sc pos))[k]? = some g:=hg
 rw[e1,e2]
 show wpAny _ _ (ask >>= _) _ _ s
 refine wpAny_bind (wpAny_askSetting (wpAny_ite ?_))
 split
 ·first
   | exact wpAny_bind (wpAny_pure (wpAny_pure (And.intro rfl h)))
   | exact wpAny_pure (And.intro rfl h)
 ·refine wpAny_bind (wpAny_rule ?_)
  show wpAny _ _ (standAt g.iter.pos >>= _) _ _ s
  exact wpAny_bind (wpAny_standAt (wpAny_bind (hself _ _ (wpAny_pure (And.intro rfl h)))))
theorem jF {b:Bool}{g:Comprehension} (h:iR b g=true):g.is_async=0∧(∃ n p,g.target=.Name n p)∧(b=false→bO g.iter=true)∧iR true g=true:=by
 obtain⟨h1,h3⟩:=Bool.and_eq_true_iff.mp h
 obtain⟨h1',h2⟩:=Bool.and_eq_true_iff.mp h1
 refine⟨beq_iff_eq.mp h1',?_,fun z=>by rw[z]at h3;exact h3,Bool.and_eq_true_iff.mpr ⟨h1,rfl⟩⟩
 obtain⟨n,e⟩:=Option.isSome_iff_exists.mp h2
 exact⟨n,d4 e⟩
noncomputable def EH (Γ:Gm) (H:PM) (F:Fr) (c:Cf) (s:Shared) (D:Addr) (vs:List FV) (x:Pg (List FV × St)) (P:(Shared→Prop)→Prop):Prop :=
 ∀ r K,aN Γ.C x=.ok r→(vs++r.1).length ≤ sizeLine→(∀ c' s',c.le c'→aC Γ.w H F.env c' r.2 s'.heap→sK Γ.w H c' D s'.heap (vs++r.1)→aS s s'→K s')→P K
noncomputable def HD (Γ:Gm) (F:Fr) (inner:St→Pg (List FV × St)) (elt:Expr) (gens:List Comprehension) (sc:Scope) (pos:Pos) (k:Nat):Prop:=∀ {H:PM}{c:Cf}{st:St}{s:Shared}{D:Addr}{vs:List FV}{r:Sem Fin}{Q:Fin→Shared→Prop}{E:Value→Shared→Prop},
 Ok Γ H F c→aC Γ.w H F.env c st s.heap→sK Γ.w H c D s.heap vs→EH Γ H F c s D vs (inner st) fun K=>(∀ s',K s'→wpAny (model pw Γ.w) F.A r Q E s')→wpAny (model pw Γ.w) F.A (B1 elt gens sc pos k (.ref D) F.env r) Q E s
theorem AN (hI:∀ H,cA Γ H ih) (hF:aV Γ F cx) {elt:Expr}{gens:List Comprehension}{sc:Scope}{pos:Pos}{k:Nat}{g:Comprehension}{inner:St→Pg (List FV × St)} (hok:iR true g=true) (hin:HD Γ F inner elt gens sc pos k)
  {v it:Value}{x:FV}{D:Addr}{vs:List FV}{Q:Fin→Shared→Prop}{E:Value→Shared→Prop} (o:Ok Γ H F c) (R:aC Γ.w H F.env c st s.heap) (f:aO Γ.w c.B v x) (ac:sK Γ.w H c D s.heap vs) :
  EH Γ H F c s D vs (lU ih cx inner g x st) fun K=>(∀ s',K s'→Q (.again (.compLoop (.ListComp elt gens sc pos) k it (.ref D) F.env)) s')→wpAny (model pw Γ.w) F.A (A7 elt gens sc pos k g it (.ref D) F.env v) Q E s:=by
 intro r K e hz q hq
 obtain⟨_,⟨tn,tp,ht⟩,_⟩:=jF hok
 refine BJ e fun st₁ e₁ e=>uS e fun a e₂ e=>?_
 refine ob e₁ fun n hn e₁=>?_
 rw[ht]at hn
 obtain⟨us,n',eD,fus⟩:=ac.obj
 obtain⟨dj,R₀,back⟩:=R.hideO eD ac.B ac.hH ac.ow
 unfold A7
 rw[ht]
 refine wpAny_bind (wpAny_assign_Name (kU hF (o.hide dj) R₀ (aH.f f) (by rw[Option.some.inj hn];exact e₁) fun s₁ R₁ z₁=>wpAny_bind (EO (hI _) hF g.ifs e₂ (o.hide dj) R₁ fun c₂ s₂ l₂ o₂ R₂ z₂=>?_)))
 obtain⟨b,st₂⟩:=a
 obtain⟨R₃,eD',h7,h8⟩:=back l₂ R₂
 have ac₂:sK Γ.w H c₂ D s₂.heap vs:=ac.mono l₂ h7 h8 fun ob e=>Option.some.inj (eD.symm.trans e) ▸ eD'
 have zz:=z₁.trans z₂
 cases b with
 | false =>
  rw[← nE e]at q
  exact wpAny_pure (hq _ (q c₂ s₂ l₂ R₃ (by rw[List.append_nil];exact ac₂) zz))
 | true=>exact hin (o.mono _ l₂) R₃ ac₂ r K e hz (fun c' s' l R a z=>q c' s' (l₂.trans l) R a (zz.trans z)) fun s' k=>wpAny_pure (hq s' k)
theorem IK (hI:∀ H,cA Γ H ih) (hF:aV Γ F cx) {elt:Expr}{gens:List Comprehension}{sc:Scope}{pos:Pos}{k:Nat} (hn:gens[k + 1]? = none):HD Γ F (vP ih cx elt) elt gens sc pos k:=by
 intro H c st s D vs r Q E o R ac r' K e hz q hq
 refine uS e fun a e₁ e=>BJ e fun y hy e=>?_
 rw[← nE e]at q hz
 obtain⟨us,n,eD,fus⟩:=ac.obj
 obtain⟨dj,R₀,back⟩:=R.hideO eD ac.B ac.hH ac.ow
 unfold B1
 rw[hn]
 refine wpAny_bind (wpAny_bind (TG.ok (hI _ F cx elt st hF) e₁ (o.hide dj) R₀ fun c₄ u s₄ l₄ o₄ R₄ p₄ z₄=>?_))
 obtain⟨R₅,eD',h7,h8⟩:=back l₄ R₄
 have hz':us.length ≤ sizeLine:=by
  rw[fus.length]
  exact Nat.le_trans (by rw[List.length_append];exact Nat.le_add_right _ _) hz
 exact wpAny_bind (KV eD' hz' fun h' n' g1 g2=>wpAny_pure (hq _ (q c₄ _ l₄ (R₅.but (fun b o hb e=>(g2 b hb).trans e) h7 ac.hH h8) ⟨h7,ac.hH,h8,us++[u],n',g1,aQ.append (.cons (p₄.fE hy) .nil) (fus.mono l₄.b)⟩ (z₄.trans ⟨rfl,rfl⟩))))
inductive Oj (Γ:Gm) (H:PM) (F:Fr) (I D:Addr) (xs:List FV) (Stt:Nat→Heap→Prop) (c:Cf) (s:Shared) (f:FV→St→Pg (List FV × St)) (zs:List FV) (st':St) (m:Nat) (s':Shared):Prop where
 | mk (i:Nat) (c':Cf) (st₁:St) (ws us:List FV) (hm:i + m=xs.length) (l:c.le c') (R:aC Γ.w H F.env c' st₁ s'.heap) (hs:Stt i s'.heap) (hB:c'.B I=none) (hw:c'.ow I=none) (ac:sK Γ.w H c' D s'.heap ws) (z:aS s s') (e:aN Γ.C (iW f (xs.drop i) st₁)=.ok (us,st')) (ez:ws++us=zs):Oj Γ H F I D xs Stt c s f zs st' m s'
noncomputable def BU (Γ:Gm) (F:Fr) (x:List FV→St→Pg (List FV × St)) (elt:Expr) (gens:List Comprehension) (sc:Scope) (pos:Pos) (k:Nat):Prop:=∀ {H:PM}{c:Cf}{st:St}{s:Shared}{xs:List FV}{I:Addr}{Stt:Nat→Heap→Prop}{Pv:Nat→Value→Prop}{fp:List Addr}{D:Addr}{vs:List FV}{R:Result→Shared→Prop},
 Ok Γ H F c→aC Γ.w H F.env c st s.heap→lR Γ.w F.A (vJ H c) c I xs Stt Pv fp→Stt 0 s.heap→c.B I=none→H I=none→c.ow I=none→sK Γ.w H c D s.heap vs→D ≠ I →
 EH Γ H F c s D vs (x xs st) fun K=>(∀ s',K s'→R (.ok .next) s')→codeAny (model pw Γ.w) F.A (.compLoop (.ListComp elt gens sc pos) k (.ref I) (.ref D) F.env) R s
theorem H5 (hI:∀ H,cA Γ H ih) (hF:aV Γ F cx) {elt:Expr}{gens:List Comprehension}{sc:Scope}{pos:Pos}{k:Nat}{g:Comprehension}{inner:St→Pg (List FV × St)} (hg:gens[k]? = some g) (hok:iR true g=true) (hin:HD Γ F inner elt gens sc pos k):BU Γ F (iW (lU ih cx inner g)) elt gens sc pos k:=by
 intro H c st s xs I Stt Pv fp D vs R o Rr it oP iB iH iw ac ne r K e hz post hR
 obtain⟨ha,⟨tn,tp,ht⟩,_⟩:=jF hok
 have B:=@AN Γ
 obtain⟨target,iter,ifs,asy⟩:=g
 subst ha ht
 refine codeAny_loop rfl (Oj Γ H F I D xs Stt c s (lU ih cx inner ⟨.Name tn tp,iter,ifs,0⟩) (vs++r.1) r.2) (fun m s' hI'=>?_) xs.length (.mk 0 c st vs r.1 (Nat.zero_add _) (.refl c) Rr oP iB iw ac (.refl s) e rfl)
 cases hI' with | mk i c' st₁ ws us hm l' R' hst hB' hw' ac' z' hf hws =>
 have o':=o.mono _ l'
 show wpAny _ F.A ((compTurn (.ListComp elt gens sc pos) k (.ref I) (.ref D) F.env).onRaise (fun x=>do noteFrame x F.env;theTreesLotGoes x)) _ _ s'
 refine wpAny_noted ?_
 rw[yZ hg]
 refine wpAny_bind (wpAny_standAt (wpAny_bind ?_))
 cases m with
 | zero =>
  obtain rfl:i=xs.length:=hm
  refine it.walks.done s' _ _ hst fun h' tk hk=>?_
  have R'':=R'.but (h':=h') (fun b o hb e=>hk b o (fun z=>hb (List.mem_singleton.mp z)) e) hB' iH hw'
  rw[List.drop_length]at hf
  refine dK (nE (a:=([],st₁)) hf) fun e1 e2=>wpAny_pure (hR _ (post c' _ l' (e2 ▸ R'') ?_ (z'.trans ⟨rfl,rfl⟩)))
  rw[← hws,← e1,List.append_nil]
  exact ac'.mono (.refl c') ac'.B ac'.ow fun ob e=>hk D ob (fun z=>ne (List.mem_singleton.mp z)) e
 | succ m =>
  have hi:i < xs.length:=by omega
  refine it.walks.item i s' _ _ hi hst fun v h' tk hv hst' hk=>?_
  have R₃:=R'.but (h':=h') (fun b o hb e=>hk b o (fun z=>hb (List.mem_singleton.mp z)) e) hB' iH hw'
  have it':=it.monoH l'
  obtain⟨x,hx,fx⟩:=it'.val i v hi hv
  rw[zH hx]at hf
  refine uS (f:=fun (a:List FV × St)=>(iW (lU ih cx inner ⟨.Name tn tp,iter,ifs,0⟩) (xs.drop (i + 1)) a.2).bind fun q=>.ok (a.1++q.1,q.2)) hf fun a e₁ hf=>uS hf fun q e₂ hf=>dK (nE (a:=(a.1++q.1,q.2)) hf) fun e3 e4=>?_
  obtain⟨ob,dj,R₄,back⟩:=it'.hideH (k:=i + 1) (h:=h') hst' R₃ hB' iH hw'
  have ac₃:=ac'.mono (h':=h') (.refl c') ac'.B ac'.ow fun ob e=>hk D ob (fun z=>ne (List.mem_singleton.mp z)) e
  have ee:ws++a.1++q.1=vs++r.1:=by rw[List.append_assoc,e3];exact hws
  have hz':(ws++a.1).length ≤ sizeLine:=Nat.le_trans (by rw[← ee,List.length_append (bs:=q.1)];exact Nat.le_add_right _ _) hz
  refine AN (s:={ s' with heap:=h',toks:=tk }) hI hF hok hin (o'.hide dj) R₄ fx ⟨ac₃.B,PM.mixN' (fun o z=>PM.oneE z fun z _=>ne z) ac₃.hH,ac₃.ow,ac₃.obj⟩ a _ e₁ hz' (fun c₅ s₅ l₅ R₅ ac₅ z₅=>?_) fun s' k=>⟨rfl,m,Nat.lt_succ_self m,k⟩
  obtain⟨R₆,h6,h7,h8⟩:=back l₅ R₅
  exact .mk (i + 1) c₅ a.2 (ws++a.1) q.1 (by omega) (l'.trans l₅) R₆ h6 h7 h8 ⟨ac₅.B,ac'.hH,ac₅.ow,ac₅.obj⟩ (z'.trans (aS.trans ⟨rfl,rfl⟩ z₅)) (by rw[e₂,← e4]) ee
theorem IA (hK:cS Γ.w Γ.K Γ.T) (hI:∀ H,cA Γ H ih) (hF:aV Γ F cx) {elt:Expr}{gens:List Comprehension}{sc:Scope}{pos:Pos}{k:Nat}{g':Comprehension}{x:List FV→St→Pg (List FV × St)} (hok':iR false g'=true) (hn:gens[k + 1]? = some g')
  (hL:BU Γ F x elt gens sc pos (k + 1)):HD Γ F (fun st=>(jB Γ.T ih true cx g'.iter st).bind fun q=>x q.1 q.2) elt gens sc pos k:=by
 intro H c st s D vs rr Q E o R ac r K e hz q hq
 obtain⟨us,n,eD,fus⟩:=ac.obj
 obtain⟨dj,R₀,back⟩:=R.hideO eD ac.B ac.hH ac.ow
 unfold B1
 rw[hn]
 have ha:=(jF hok').1
 have g0:aG Γ (fun _ (_:Unit) (_:List FV)=>True) (PM.mix H (PM.one D (PySem.W.listOf us.toArray n))) F ((jB Γ.T ih true cx g'.iter st).bind fun q=>x q.1 q.2) c s (fun _ _=>True) E:=⟨fun _ _ _ _ _ _ _ _ _ _=>trivial,fun e'=>nk2 (e'.symm.trans e),fun e'=>nk1 (e'.symm.trans e)⟩
 have key:=uE (fz:=true) hK (hI _) hF (Q:=fun itv s₄=>wpAny (model pw Γ.w) F.A (do let _ ← runOwn (.compStart (.ListComp elt gens sc pos) (k + 1) itv (.ref D) F.env) F.env;rr) Q E s₄) (E:=E) (o.hide dj) R₀ g0 ?_
 ·refine wpAny_bind (wpAny_mono key.2 (fun xv s₄ h₄=>?_) fun _ _ z=>z)
  have e1:(g'.is_async != 0)=false:=by rw[ha];rfl
  simp only[e1]
  refine wpAny_bind (wpAny_standAt (wpAny_bind (wpAny_of_eq (pN key.1 _ xv) ?_)))
  exact wpAny_bind (wpAny_holding (wpAny_mono h₄ (fun itv s₅ h₅=>h₅) fun _ _ z=>z))
 intro xs st₃ c₃ s₃ e₃ l₃ o₃ z₃ _ I s₄ Stt Pv fp itr oP iB iH iw R₄ z₄
 rw[aZ,e₃]at e
 obtain⟨R₅,eD',h7,h8⟩:=back l₃ R₄
 have nI:=PM.mixN iH
 have neD:D ≠ I:=fun z=>by rw[← z]at nI;exact nk3 (nI.1.symm.trans gQ)
 have o₅:Ok Γ H F c₃:=o.mono _ l₃
 exact wpAny_bind (wpAny_runOwn (wN hn ha (hL o₅ R₅ itr.fz oP iB nI.2 iw ⟨h7,ac.hH,h8,us,n,eD',fus.mono l₃.b⟩ neD r K e hz (fun c₆ s₆ l₆ R₆ ac₆ z₆=>q c₆ s₆ (l₃.trans l₆) R₆ ac₆ (z₃.trans (z₄.trans z₆))) fun s' k=>hq s' k) fun Q' E' q'=>itr.walks.self 0 s₄ Q' E' oP q'))
theorem Cb (hK:cS Γ.w Γ.K Γ.T) (hI:∀ H,cA Γ H ih) (hF:aV Γ F cx) {elt:Expr}{gens:List Comprehension}{sc:Scope}{pos:Pos} (rest:List Comprehension) :
  ∀ {g:Comprehension}{k:Nat},gens.drop k=g::rest→iR true g=true→rest.all (iR false)=true→BU Γ F (nN Γ.T ih cx elt rest g) elt gens sc pos k:=by
 have at_:∀ {k n:Nat}{l:List Comprehension},gens.drop k=l→gens[k + n]? = l[n]?:=fun e=>by rw[← e,List.getElem?_drop]
 induction rest with
 | nil=>exact fun hk h1 _=>H5 hI hF (at_ (n:=0) hk) h1 (IK hI hF (at_ (n:=1) hk))
 | cons g' gs ihg =>
  intro g k hk h1 h2
  obtain⟨h2,h3⟩:=Bool.and_eq_true_iff.mp h2
  exact H5 hI hF (at_ (n:=0) hk) h1 (IA hK hI hF h2 (at_ (n:=1) hk) (ihg (by rw[← List.drop_drop,hk];rfl) (jF h2).2.2.2 h3))
end
end Mine
end
section
namespace Mine
theorem jM {α:Type}{x n:Str}{v:α}{r:List (Str × α)} (h:x=n):((n,v)::r).lookup x=some v:=(fO x ((n,v)::r)).symm.trans (mH h)
theorem kR {α:Type}{x n:Str}{v:α}{r:List (Str × α)} (h:x ≠ n):((n,v)::r).lookup x=r.lookup x:=(fO x ((n,v)::r)).symm.trans ((iO h).trans (fO x r))
noncomputable def oQ (env:Env) (l:List (Str × NameKind)):List (Str × Addr)→List (Str × Addr):=@List.rec (Str × NameKind) (fun _=>List (Str × Addr)→List (Str × Addr)) (fun acc=>acc) (fun p _ k acc=>k (if p.2 == .free then (p.1,(env.cells.lookup p.1).getD 0)::acc else acc)) l
theorem Nn {env:Env}{p:Str × NameKind}{r:List (Str × NameKind)}{acc:List (Str × Addr)}:oQ env (p::r) acc=oQ env r (if p.2 == .free then (p.1,(env.cells.lookup p.1).getD 0)::acc else acc):=rfl
theorem Jt {env:Env}{x:Str}{a:Addr} (l:List (Str × NameKind)):∀ {acc:List (Str × Addr)},(oQ env l acc).lookup x=some a→acc.lookup x=some a∨((x,NameKind.free) ∈ l∧a=(env.cells.lookup x).getD 0):=by
 induction l with
 | nil=>exact fun h=>.inl h
 | cons p r ih =>
  intro acc h
  rcases ih h with h | h
  ·revert h
   refine jT (P:=fun z:List (Str × Addr)=>z.lookup x=some a→_) (fun hk h=>?_) fun _ h=>.inl h
   by_cases e:x=p.1
   ·rw[jM e]at h
    exact .inr ⟨by rw[e,← show p.2=.free from beq_iff_eq.mp hk];exact List.mem_cons_self,by rw[e];exact(Option.some.inj h).symm⟩
   ·exact .inl ((kR e).symm.trans h)
  ·exact .inr ⟨List.mem_cons_of_mem _ h.1,h.2⟩
theorem Eu {env:Env}{x:Str} (l:List (Str × NameKind)):∀ {acc:List (Str × Addr)},(x,NameKind.free) ∈ l∨(acc.lookup x).isSome=true→((oQ env l acc).lookup x).isSome=true:=by
 induction l with
 | nil=>exact fun h=>h.elim (fun h=>absurd h List.not_mem_nil) id
 | cons p r ih =>
  intro acc h
  refine ih ?_
  by_cases e:x=p.1
  ·rcases h with h | h
   ·rcases List.mem_cons.mp h with h | h
    ·rw[← h];exact .inr (by rw[if_pos (show((x,NameKind.free).2 == NameKind.free)=true from rfl),jM rfl];rfl)
    ·exact .inl h
   ·exact .inr (jT (P:=fun z:List (Str × Addr)=>(z.lookup x).isSome=true) (fun _=>by rw[jM e];rfl) fun _=>h)
  ·exact h.imp (fun h=>(List.mem_cons.mp h).resolve_left fun z=>e (by rw[← z])) fun h=>jT (P:=fun z:List (Str × Addr)=>(z.lookup x).isSome=true) (fun _=>by rw[kR e];exact h) fun _=>h
theorem Bp {env:Env}{sc:Scope} (h:∀ n,(n,NameKind.free) ∈ sc.names→(env.cells.lookup n).isSome=true):closureFor sc env=pure (oQ env sc.names []):=by
 have key:∀ (names:List (Str × NameKind)) (acc:List (Str × Addr)),(∀ n,(n,NameKind.free) ∈ names→(env.cells.lookup n).isSome=true) →
   (forIn names acc (fun (x:Str × NameKind) (cs:List (Str × Addr))=>(if (x.2 == .free)=true then do let a ← cellOf env x.1;pure (ForInStep.yield ((x.1,a)::cs)) else pure (ForInStep.yield cs):Sem (ForInStep (List (Str × Addr))))))=pure (oQ env names acc):=by
  intro names
  induction names with
  | nil=>exact fun acc _=>rfl
  | cons p r ih =>
   intro acc hh
   have hh':=fun m hm=>hh m (List.mem_cons_of_mem p hm)
   rw[List.forIn_cons,Nn]
   by_cases hk:(p.2 == NameKind.free)=true
   ·obtain⟨a,ha⟩:=Option.isSome_iff_exists.mp (hh p.1 (by rw[← show p.2=.free from beq_iff_eq.mp hk];exact List.mem_cons_self))
    have e1:cellOf env p.1=pure a:=by unfold cellOf;rw[ha]
    rw[if_pos hk,if_pos hk,e1,ha,pure_bind,pure_bind]
    exact ih _ hh'
   ·rw[if_neg hk,if_neg hk,pure_bind]
    exact ih _ hh'
 unfold closureFor
 have:=key sc.names [] h
 simp only[bind_pure]
 exact this
theorem Cu {α:Type} (pr:Str→Bool) (x:Str) (l:List (Str × α)):lk x (l.filter fun p=>pr p.1)=gd (pr x) (lk x l):=by
 induction l with
 | nil=>cases pr x<;>rfl
 | cons p r ih =>
  rw[List.filter_cons]
  by_cases e:x=p.1
  ·rw[mH e,← e]
   cases hp:pr x with
   | true=>exact mH e
   | false=>exact ih.trans (by rw[hp];rfl)
  ·rw[iO e]
   exact jT (P:=fun z=>lk x z=_) (fun _=>(iO e).trans ih) fun _=>ih
theorem nU {α:Type}{x:Str}{k:α}{l:List (Str × α)} (h:l.lookup x=some k):(x,k) ∈ l:=by
 induction l with
 | nil=>exact nk3 h
 | cons p r ih =>
  by_cases e:x=p.1
  ·rw[jM e]at h;rw[e,← Option.some.inj h];exact List.mem_cons_self
  ·rw[kR e]at h;exact List.mem_cons_of_mem _ (ih h)
theorem Ab {f:Str × NameKind→Str × NameKind} (hf:∀ p,(f p).1=p.1) {x:Str}{k:NameKind}{l:List (Str × NameKind)} (h:l.lookup x=some k):(l.map f).lookup x=some (f (x,k)).2:=by
 induction l with
 | nil=>exact nk3 h
 | cons p r ih =>
  by_cases e:x=p.1
  ·rw[jM e]at h;rw[← Option.some.inj h,e];exact jM (hf p).symm
  ·rw[kR e]at h;exact(kR fun z=>e (z.trans (hf p))).trans (ih h)
section
variable {Γ:Gm}{w:World}{H P:PM}{F:Fr}{cx:Cx}{c:Cf}{st:St}{env:Env}{h h':Heap}
noncomputable def Ll (env:Env) (p:Str × NameKind):Str × NameKind:=if (p.2 == NameKind.free&&env.scope.kind == .function&&env.kindOf p.1 == some .cell) then (p.1,NameKind.cell) else (p.1,p.2)
theorem aV.comp (hF:aV Γ F cx) {sc:Scope}{cl:List (Str × Addr)}{C:Addr} (hk:sc.kind=.function) (hc:∀ p ∈ sc.names,p.2 ≠ .cell):aV Γ ⟨F.A,compEnvC sc cl C F.env,F.fenv,F.outer,true⟩ ⟨cx.f,sc,cx.m⟩:=by
 have hf:∀ p,(Ll F.env p).1=p.1:=fun p=>jT (P:=fun z:Str × NameKind=>z.1=p.1) (fun _=>rfl) fun _=>rfl
 have g:∀ {x:Str}{k:NameKind},kindOf sc x=some k→(compEnvC sc cl C F.env).kindOf x=some (Ll F.env (x,k)).2:=fun h=>Ab (f:=Ll F.env) hf (dT h)
 exact⟨hk,fun x k h hn=>(g h).trans (jT (P:=fun z:Str × NameKind=>some z.2=some k) (fun z=>absurd (beq_iff_eq.mp (Bool.and_eq_true_iff.mp (Bool.and_eq_true_iff.mp z).1).1) hn) fun _=>rfl),
  fun x h=>jT (P:=fun z:Str × NameKind=>(compEnvC sc cl C F.env).kindOf x=some z.2→_) (fun _=>.inr) (fun _=>.inl) (g h),fun x h=>absurd rfl (hc _ (nU (dT h))),hF.globals,hF.builtins,hF.handled,hF.frames,hF.frame,hF.depth,hF.units⟩
noncomputable def lT (c:Cf) (a:Addr):Option bZ:=(c.ow a).bind fun t=>gd t.isG (some t)
theorem Ew {a:Addr}{t:bZ}{P:Prop} (e:lT c a=some t) (k:c.ow a=some t→t.isG=true→P):P:=ob (x:=c.ow a) e fun t' q e=>aD e fun y e=>have e:=Option.some.inj e;k (e ▸ q) (e ▸ y)
theorem Cn {a:Addr}{t:bZ} (e:c.ow a=some t) (z:t.isG=true):lT c a=some t:=by show(c.ow a).bind _=_;rw[e];show gd t.isG _=_;rw[z];rfl
theorem GR {a:Addr} (e:c.ow a=none):lT c a=none:=by show(c.ow a).bind _=_;rw[e];rfl
theorem aC.enter (R:aC w H env c st h) (gr:aY h h') {c₁:Cf}{env₁:Env}{st₁:St} (hB:c₁.B=c.B) (hfs:c₁.fs=env.locals::c.fs)
  (own:∀ a t,c₁.ow a=some t→(lT c a=some t∧∀ o,Own w env c st a o t→Own w env₁ c₁ st₁ a o t)∨(h.get? a=none∧∃ o,h'.get? a=some o∧Own w env₁ c₁ st₁ a o t)) (ix:Ix w (PM.mix H (dQ c h)) env₁ c₁ st₁.g st₁.l st₁.c):aC w (PM.mix H (dQ c h)) env₁ c₁ st₁ h' where
 b a o e:=gr _ _ (R.b a o (hB ▸ e))
 bh a o e:=PM.mixN' (fun o' q=>ob q fun t q _=>nk3 ((R.owB q).symm.trans (hB ▸ e))) (R.bh a o (hB ▸ e))
 hh a o e:=PM.mixE e (fun o' q e=>.inl (Option.some.inj e ▸ gr _ _ (ob q fun t _ e=>aD e fun _ e=>e))) fun _ e=>((R.hh a o e).grows gr).imp id fun q=>⟨hfs ▸ List.mem_cons_of_mem _ q.1,q.2⟩
 fsH a e:=Option.isSome_iff_exists.mpr ((List.mem_cons.mp (hfs ▸ e)).elim (fun e=>(R.owG R.ix.loc).imp fun o q=>by rw[e];exact PM.mix_r ((kC R.ix.loc rfl).trans q.1)) fun e=>(Option.isSome_iff_exists.mp (R.fsH a e)).imp fun o q=>PM.mix_l R.hid_apart q)
 own a t e:=(own a t e).elim (fun q=>Ew q.1 fun e z=>⟨hB ▸ R.owB e,PM.mixN' (fun o' q'=>ob q' fun t₂ q₂ e'=>aD e' fun y _=>by rw[← Option.some.inj (e.symm.trans q₂),z]at y;exact nk6 y) (R.owH e),(R.owG e).imp fun o p=>⟨gr _ _ p.1,q.2 o p.2⟩⟩)
  fun q=>have n:=R.free q.1;⟨hB ▸ n.1,PM.mixN' (fun o' q=>ob q fun t q _=>nk3 (n.2.2.symm.trans q)) n.2.1,q.2⟩
 ix:=ix
noncomputable def Cf.comp (c:Cf) (L C:Addr):Cf:=⟨c.B,iP (lT c) C (some .v),c.S,c.L,true,L::c.fs⟩
theorem w5 {l:List MO}{k:Nat}{m:MO} (h:(l.map fun _=>MO.dead)[k]? = some m):MO.dead=m:=by
 rw[List.getElem?_map]at h
 cases q:l[k]? with
 | none=>rw[q]at h;exact nk3 h
 | some=>rw[q]at h;exact Option.some.inj h
theorem aC.comp (R:aC w H env c st h) {sc:Scope}{C:Addr}{cenv:Env} (gr:aY h h') (hl:cenv.locals=C) (hcl:cenv.cells=oQ env sc.names []) (hN:h'.Ns C fun _=>none) (nC:h.get? C=none)
  (hfree:∀ n,(n,NameKind.free) ∈ sc.names→(env.cells.lookup n).isSome=true):aC w (PM.mix H (dQ c h)) cenv (c.comp env.locals C) (BX sc st) h':=by
 have nw:=(R.free nC).2.2
 have owG:∀ {a:Addr}{t:bZ},c.ow a=some t→t.isG=true→(c.comp env.locals C).ow a=some t:=fun e z=>pZ (f:=lT c) (GR nw) (Cn e z)
 have cap:∀ {x:Str}{u:PV},lk x (BX sc st).c=some u→lk x sc.names=some .free∧lk x st.c=some u:=fun {x u} e=>aD ((Cu (fun y=>lk y sc.names == some .free) x st.c).symm.trans e) fun h e=>⟨beq_iff_eq.mp h,e⟩
 have cof:∀ {x:Str}{o:Obj},jI w c st.c x o→jI w (c.comp env.locals C) (BX sc st).c x o:=fun q=>q.imp fun v₀ q=>⟨q.1,fun u e=>q.2 u (cap e).2⟩
 refine R.enter gr rfl rfl (fun a t e=>jS (f:=lT c) (a:=C) (x:=some bZ.v) e (fun z e=>.inr ?_) fun z e=>.inl ⟨e,fun o p=>Ew e fun e y=>?_⟩) ⟨by rw[hl];exact gQ,fun x a e=>?_,fun x u e=>?_,R.ix.gl,fun k sl e=>?_,(by show c.L.length=(st.l.map _).length;rw[List.length_map];exact R.ix.ll),fun k a xs _ e=>(by cases w5 e),fun k D fs e=>(by cases w5 e)⟩
 ·obtain⟨o,es,ep,e',q1,q2,_⟩:=hN
  rw[z,← Option.some.inj e]
  exact⟨nC,o,e',hl.symm,es,ep,q1,q2,fun x u e=>nk3 e⟩
 ·cases t with
  | g k=>exact p
  | d k=>exact p
  | _=>exact nk6 y
 ·rw[hcl]at e
  rcases Jt _ e with e | ⟨e1,e2⟩
  ·exact nk3 e
  ·obtain⟨a',ha'⟩:=Option.isSome_iff_exists.mp (hfree x e1)
   rw[ha']at e2
   rw[e2]
   refine .inr ⟨rfl,?_⟩
   rcases R.ix.cel x a' ha' with q | q
   ·obtain⟨o,q1,q2⟩:=R.owG q
    exact⟨o,PM.mix_r ((kC q rfl).trans q1),cof q2.2⟩
   ·exact q.2.imp fun o q=>⟨PM.mix_l R.hid_apart q.1,cof q.2⟩
 ·rw[hcl]
  exact Eu _ (.inl (nU ((fO _ _).symm.trans (cap e).1)))
 ·have q:=R.ix.g k sl e
  cases sl with
  | o a d=>exact⟨owG q.1 rfl,owG q.2 rfl⟩
  | l a=>exact owG q rfl
end
end Mine
end
section
namespace Mine
section
variable {Γ:Gm}{H P:PM}{F:Fr}{cx:Cx}{c:Cf}{s:Shared}{st:St}{ih:Cx→Expr→St→Pg (PV × St)}{h:Heap}
theorem I6 {α:Type} (x:Pg α):x.bind .ok=x:=by
 induction x with
 | ask c m q k ih=>exact congrArg (Pg.ask c m q) (funext ih)
 | _=>rfl
theorem gZ {α:Type}{p:α→Bool}{l:List α} (h:l.all p=true) {x:α} (m:x ∈ l):p x=true:=List.all_eq_true.mp h x m
theorem HP {a b:Bool} (h:(a||b)=true) (n:a=false):b=true:=by rw[n]at h;exact h
theorem Av {sc:Scope} (h:DH sc=true):sc.kind=.function∧(∀ p ∈ sc.names,p.2 ≠ .cell)∧∀ p ∈ sc.names,p.2=.local→sc.names.lookup p.1=some .local:=by
 obtain⟨h1,h2⟩:=Bool.and_eq_true_iff.mp h
 refine⟨beq_iff_eq.mp h1,fun p hp e=>?_,fun p hp e=>?_⟩
 ·have:=(Bool.and_eq_true_iff.mp (Bool.and_eq_true_iff.mp (gZ h2 hp)).1).1
  rw[e]at this
  exact nk6 this
 ·have:=(Bool.and_eq_true_iff.mp (Bool.and_eq_true_iff.mp (gZ h2 hp)).1).2
  exact(fO _ _).symm.trans (beq_iff_eq.mp (HP this (by rw[e];rfl)))
theorem Ok.comp (o:Ok Γ H F c) (R:aC Γ.w H F.env c st h) {cenv:Env}{C:Addr}:Ok Γ (PM.mix H (dQ c h)) ⟨F.A,cenv,F.fenv,F.outer,true⟩ (c.comp F.env.locals C):=by
 have here:∃ o,PM.mix H (dQ c h) F.env.locals=some o∧∀ vs,o.data ≠ .fields vs:=(R.owG R.ix.loc).imp fun o q=>⟨PM.mix_r ((kC R.ix.loc rfl).trans q.1),fun vs z=>q.2.2.elim fun es q=>q.elim fun ep q=>by rw[q.1]at z;cases z⟩
 exact⟨rfl,o.k,fun a ob e=>(o.base a ob e).imp id fun q=>⟨PM.mix_l R.hid_apart q.1,fun z=>(List.mem_cons.mp z).elim (fun z=>nk3 ((R.owH R.ix.loc).symm.trans (z ▸ q.1))) q.2⟩,fun a ob e=>PM.mix_l R.hid_apart (o.h0 a ob e),
  fun e he=>⟨(o.outer e he).1,(o.outer e he).2.imp fun L q=>q.imp fun ob q=>⟨q.1,q.2.1,PM.mix_l R.hid_apart q.2.2.1,List.mem_cons_of_mem _ q.2.2.2.1,q.2.2.2.2⟩⟩,o.fkind,
  o.fframe.imp fun L q=>⟨q.1,q.2.1,.inr (q.2.2.elim (fun z=>by rw[z];exact here.imp fun ob q=>⟨q.1,List.mem_cons_self,q.2⟩) fun q=>q.imp fun ob q=>⟨PM.mix_l R.hid_apart q.1,List.mem_cons_of_mem _ q.2.1,q.2.2⟩)⟩,
  fun a e=>(List.mem_cons.mp e).elim (fun e=>by rw[e];exact here) fun e=>(o.fsD a e).imp fun ob q=>⟨PM.mix_l R.hid_apart q.1,q.2⟩⟩
theorem aG.gpB {α β δ:Type}{V:Cf→α→β→Prop}{Q:α→Shared→Prop}{E:Value→Shared→Prop}{b:Bool}{x:Pg (δ × St)}{k:δ × St→Pg (β × St)}{P:Prop} (g:aG Γ V H F ((Mine.gp b x).bind k) c s Q E) (n:b=true→aG Γ V H F (x.bind k) c s Q E→P):P:=by
 cases b with
 | false=>exact g.stuck
 | true=>exact n rfl g
theorem aG.calmB {α β δ:Type}{V:Cf→α→β→Prop}{Q:α→Shared→Prop}{E:Value→Shared→Prop}{x:Pg (δ × St)}{k:δ × St→Pg (β × St)}{P:Prop} (g:aG Γ V H F ((fB x).bind k) c s Q E) (n:∀ r,aN Γ.C x=.ok r→aG Γ V H F (k r) c s Q E→P):P:=by
 cases h:aN Γ.C (fB x) with
 | stuck=>exact absurd (by rw[aZ,h];rfl) g.go
 | raise=>exact(qX h).elim
 | ok r=>exact n r (xN h) (g.step h (.refl c) (.refl s))
noncomputable def NM (Γ:Gm) (H:PM) (F:Fr) (E:Value→Shared→Prop) (use:Option (Value→Sem Unit)) (Q:Value→Shared→Prop) (x:PV) (st':St) (c':Cf) (s₁:Shared):Prop :=
 ∀ a C s' m c'',c'.le c''→Ok Γ H F c''→aC Γ.w H F.env c'' st' s'.heap→aH Γ.w c'' a x→s'.heap.Ns C m→c''.B C=none→H C=none→c''.ow C=none→aS s₁ s'→compPost (model pw Γ.w) F.A E use Q a C (.ok .next) s'
theorem u8 (hK:cS Γ.w Γ.K Γ.T) (hI:∀ H,cA Γ H ih) (hF:aV Γ F cx) {elt:Expr}{gens:List Comprehension}{sc:Scope}{pos:Pos}{use:Option (Value→Sem Unit)}{α β:Type}{V:Cf→α→β→Prop}{k:PV × St→Pg (β × St)}{Q₀:α→Shared→Prop}{Q:Value→Shared→Prop}{E:Value→Shared→Prop}
  (o:Ok Γ H F c) (Rr:aC Γ.w H F.env c st s.heap) (g:aG Γ V H F ((vW Γ.T ih cx elt gens sc st).bind k) c s Q₀ E)
  (fin:∀ x st' c' s₁,c.le c'→aS s s₁→aG Γ V H F (k (x,st')) c' s₁ Q₀ E→NM Γ H F E use Q x st' c' s₁) :
  wpAny (model pw Γ.w) F.A (comprehension (.ListComp elt gens sc pos) sc F.env (firstIterPos gens pos) (newList []) (firstAsync gens) (firstIter gens F.env) use) Q E s:=by
 refine aG.gpB g fun hc g=>aG.gpB g fun hfr g=>?_
 cases gens with
 | nil=>exact g.stuck
 | cons g0 rest =>
 refine aG.gpB (b:=iR true g0) (x:=gp (rest.all (iR false)) _) g fun hg0 g=>aG.gpB g fun hg1 g=>?_
 obtain⟨hkind,hcell,hnames⟩:=Av hc
 have hfree:∀ n,(n,NameKind.free) ∈ sc.names→(F.env.cells.lookup n).isSome=true:=fun n hn=>by
  obtain⟨u,hu⟩:=Option.isSome_iff_exists.mp (HP (gZ hfr hn) rfl)
  exact Rr.ix.celd n u hu
 have ha:=(jF hg0).1
 obtain⟨target,iter,ifs,asy⟩:=g0
 subst ha
 rw[jX]at g
 have key:=uE (fz:=false) hK (hI H) hF (Q:=fun itv s₂=>wpAny (model pw Γ.w) F.A (newList []) (fun acc s₃=>wpAny (model pw Γ.w) F.A (newFunctionEnv sc F.env.globals (oQ F.env sc.names []) [] F.env.qual none .none (some F.env)) (fun cenv s₄ =>
    codeAny (model pw Γ.w) F.A (.compStart (.ListComp elt (⟨target,iter,ifs,0⟩::rest) sc pos) 0 itv acc { cenv with scope:=relabel sc F.env }) (compPost (model pw Γ.w) F.A E use Q acc cenv.locals) s₄) E s₃) E s₂) (E:=E) o Rr g ?_
 ·show wpAny _ _ (comprehension _ sc F.env _ (newList []) false (eval iter F.env) use) _ _ _
  exact wpAny_comprehension_free rfl (fun x=>pN key.1 _ x) (Bp hfree) hkind hnames key.2
 intro xs st₁ c₁ s₁ _ l₁ o₁ z₁ g I s₂ Stt Pv fp itr oP iB iH iw R₂ z₂
 rw[jX]at g
 refine aG.calmB g fun r hcomp g=>aG.gpB g fun hz g=>aG.gpB g fun hgok g=>aG.gpB g fun hle g=>?_
 have hle:=Nat.le_of_ble_eq_true hle
 have fin:=fin _ _ c₁ s₁ l₁ z₁ g
 refine wpAny_newObj_type (wpAny_newFunctionEnv hcell (fun y hy=>absurd hy List.not_mem_nil) (fun h₁ hns₁ hsb₁=>?_) hkind)
 dsimp only at hns₁ hsb₁ ⊢
 generalize hH2:s₂.heap.push { cls:=.type "list",dict:=none,data:=.seq ([]:List Value).toArray }=H2 at hns₁ hsb₁ ⊢
 have hC:H2.objs.size=s₂.heap.objs.size + 1:=by rw[← hH2,Heap.size_push]
 have below:∀ {b:Addr},b < s₂.heap.objs.size→b ≠ H2.objs.size:=fun hb=>by rw[hC];exact Nat.ne_of_lt (Nat.lt_succ_of_lt hb)
 have gr:aY s₂.heap h₁:=fun b ob e=>hsb₁.extBut b ob (below (Heap.lt_size e)) (Heap.get?_push_of_some _ (hH2 ▸ Heap.get?_push_of_some _ e))
 have nC:s₂.heap.get? H2.objs.size=none:=by
  cases q:s₂.heap.get? H2.objs.size with
  | none=>rfl
  | some ob=>exact absurd rfl (below (Heap.lt_size q))
 have neDC:s₂.heap.objs.size ≠ H2.objs.size:=by rw[hC];exact Nat.ne_of_lt (Nat.lt_succ_self _)
 obtain⟨cB,cH,cw⟩:=R₂.free nC
 obtain⟨dB,dH,dw⟩:=R₂.none_of_size
 have eD:h₁.get? s₂.heap.objs.size=some (PySem.W.listOf ([]:List Value).toArray 0):=hsb₁.extBut _ _ neDC (Heap.get?_push_of_some _ (hH2 ▸ Heap.get?_push_size _ rfl))
 have ltI:I < s₂.heap.objs.size:=(itr.obj 0 _ oP).elim fun ob e=>Heap.lt_size e
 have hidn:∀ {a:Addr},c₁.ow a=none→H a=none→PM.mix H (dQ c₁ s₂.heap) a=none:=fun q z=>PM.mixN' (fun o e=>ob e fun t e _=>nk3 (q.symm.trans e)) z
 have own:∀ {a:Addr},a ≠ H2.objs.size→c₁.ow a=none→(c₁.comp F.env.locals H2.objs.size).ow a=none:=fun ne q=>(eW (f:=lT c₁) ne).trans (GR q)
 have R₀:=R₂.comp (sc:=sc) (C:=H2.objs.size) (cenv:=compEnvC sc (oQ F.env sc.names []) H2.objs.size F.env) gr rfl rfl hns₁ nC hfree
 have o₀:=o₁.comp (C:=H2.objs.size) (cenv:=compEnvC sc (oQ F.env sc.names []) H2.objs.size F.env) R₂
 have hF₀:=hF.comp (sc:=sc) (cl:=oQ F.env sc.names []) (C:=H2.objs.size) hkind hcell
 have foot₀:∀ b,BA false c₁ b→vJ (PM.mix H (dQ c₁ s₂.heap)) (c₁.comp F.env.locals H2.objs.size) b:=fun b q=>by
  obtain⟨_,kk,e⟩:=q
  obtain⟨ob,hob,_⟩:=R₂.owG e
  exact⟨ob,PM.mix_r ((kC e rfl).trans hob),fun z=>(List.mem_cons.mp z).elim (fun z=>by rw[z,R₂.ix.loc]at e;cases e) (R₂.noFs (R₂.owH e))⟩
 have itr₀:lR Γ.w F.A (vJ (PM.mix H (dQ c₁ s₂.heap)) (c₁.comp F.env.locals H2.objs.size)) (c₁.comp F.env.locals H2.objs.size) I xs Stt Pv fp:=⟨itr.walks,itr.obj,fun b hb=>(itr.foot b hb).imp id fun q=>q.imp id (foot₀ b),itr.val⟩
 have st1:Stt 0 h₁:=itr.walks.frame 0 _ _ oP fun b _ ob e=>gr b ob e
 refine wN (g:=⟨target,iter,ifs,0⟩) rfl rfl ?_ fun Q' E' q'=>itr.walks.self 0 _ Q' E' st1 q'
 refine Cb (F:=⟨F.A,compEnvC sc (oQ F.env sc.names []) H2.objs.size F.env,F.fenv,F.outer,true⟩) hK hI hF₀ rest (k:=0) rfl hg0 hg1 o₀ R₀ itr₀ st1 iB (hidn iw iH) (own (below ltI) iw)
  ⟨dB,hidn dw dH,own neDC dw,[],0,eD,.nil⟩ (Nat.ne_of_gt ltI) r (fun s'=>compPost (model pw Γ.w) F.A E use Q (.ref s₂.heap.objs.size) H2.objs.size (.ok .next) s') hcomp (cY hz) (fun c₆ s₆ l₆ R₆ ac₆ z₆=>?_) fun s' k=>k
 obtain⟨us,n,eus,fus⟩:=ac₆.obj
 obtain⟨l₇,R₇⟩:=R₂.back R₆ l₆.b l₆.s l₆.fs.symm (m:=r.2.g.length) hle (Nat.le_refl _) (by rw[List.take_length];exact hgok)
 rw[List.take_length]at R₇
 have ow6C:c₆.ow H2.objs.size=some .v:=R₆.ix.loc
 obtain⟨R₈,l₈,B₈⟩:=R₇.freezeAt (.refl _) eus ac₆.B dH (DX (.inl ac₆.ow) dw)
 obtain⟨o6,e6,_,es6,ep6,q6,k6,_⟩:=R₆.owG ow6C
 exact fin _ _ _ _ _ (l₇.trans l₈) (o₁.mono _ (l₇.trans l₈)) R₈ (.f (.lst B₈ (fus.mono l₈.b))) ⟨o6,es6,ep6,e6,q6,k6,fun _=>rfl⟩ ((eW (Ne.symm neDC)).trans (R₆.owB ow6C)) cH (DX (.inr ow6C) cw) (z₂.trans (aS.trans ⟨rfl,rfl⟩ z₆))
theorem AJ (hK:cS Γ.w Γ.K Γ.T) (hI:∀ H,cA Γ H ih) (hF:aV Γ F cx) {elt:Expr}{gens:List Comprehension}{sc:Scope}{pos:Pos}:TG Γ (aH Γ.w) H F st (vW Γ.T ih cx elt gens sc st) (eval (.ListComp elt gens sc pos) F.env):=by
 intro c s Q E o R g
 rw[eval_ListComp]
 refine u8 (k:=.ok) (V:=aH Γ.w) (Q₀:=Q) hK hI hF o R (by rw[I6];exact g) fun x st' c' s₁ l z g a C s' m c'' l' o' R' p hN hB hH hw z'=>?_
 exact⟨m,hN,fun h' hs=>g.done' l' (R'.but (fun b ob hb e=>(hs.2 b hb).trans e) hB hH hw) p (z'.trans ⟨rfl,rfl⟩)⟩
theorem Ha (hK:cS Γ.w Γ.K Γ.T) (hE:∀ H,cA Γ H (E0 Γ.T)) (hI:∀ H,cA Γ H ih) (hF:aV Γ F cx) {t elt:Expr}{gens:List Comprehension}{sc:Scope}{pos p:Pos} (ht:(gG t).isSome=true) :
  TG Γ (VF Γ.w) H F st (((vW Γ.T ih cx elt gens sc st).bind fun r=>pI Γ.T cx 4 t r.1 r.2).bind fun r=>.ok (.next,r.2)) (exec (.Assign [t] (.ListComp elt gens sc pos) p) F.env):=by
 intro c s Q E o R g
 have g:=aG.un g
 obtain⟨n,hn⟩:=Option.isSome_iff_exists.mp ht
 obtain⟨np,rfl⟩:=d4 hn
 cases hb:(F.env.blockKind == .function&&F.env.kindOf n == some .local&&np.line == pos.line&&!(sc.names.any fun (k,v)=>k == n&&(v == .local||v == .cell))) with
 | false =>
  refine wpAny_Assign_stores (aG.bind g (AJ hK hI hF) o R fun w₁ st₁ c₁ v₁ s₁ _ l₁ o₁ R₁ p₁ z₁ g=>?_) (congrArg pure hb) rfl
  exact sW hK (hE H) 4 F cx (.Name n np) w₁ st₁ v₁ c₁ s₁ _ E hF o₁ R₁ p₁ g
 | true =>
  rw[exec_Assign_arm]
  refine wpAny_bind (wpAny_standAt ?_)
  rw[show swapsWithSole [.Name n np] (.ListComp elt gens sc pos) p.line F.env=pure true from congrArg pure hb]
  refine wpAny_bind (wpAny_pure ?_)
  rw[if_pos rfl]
  have key:=u8 (pos:=pos) (use:=some fun v=>assign (.Name n np) F.env v) (Q:=fun _ s'=>Q .next s') hK hI hF o R g fun x st' c' s₁ l z g a C s' m c'' l' o' R' px hN hB hH hw z'=>?_
  ·show wpAny _ _ (do (do let _ ← comprehension (.ListComp elt gens sc pos) sc F.env (firstIterPos gens pos) (newList []) (firstAsync gens) (firstIter gens F.env) (some fun v=>assign (.Name n np) F.env v));pure Flow.next) Q E s
   exact wpAny_bind (wpAny_bind (wpAny_mono key (fun _ s' q=>wpAny_pure (wpAny_pure q)) fun _ _ z=>z))
  obtain⟨ob,es,ep,eC,r⟩:=id hN
  obtain⟨dj,R₁,back⟩:=R'.hideO eC hB hH hw
  have g:=g.mono l' z'
  show wpAny _ _ (assign (.Name n np) F.env a) _ _ _
  refine sW hK (hE _) 4 F cx (.Name n np) x st' a c'' s' _ E hF (o'.hide dj) R₁ px ⟨fun b st₂ e c₂ u s₂ l₂ R₂ v₂ z₂=>?_,g.raise,g.go⟩
  obtain⟨R₃,eC',hB',hw'⟩:=back l₂ R₂
  exact⟨m,⟨ob,es,ep,eC',r⟩,fun h' hs'=>g.ok b st₂ e c₂ u _ l₂ (R₃.but (fun b ob hb e=>(hs'.2 b hb).trans e) hB' hH hw') v₂ (z₂.trans ⟨rfl,rfl⟩)⟩
end
end Mine
end
section
namespace Mine
theorem Rv (C:Addr) (rest:List Value):(Code.builtin "type.__call__" ⟨.ref C::rest,[]⟩).weight=1:=by kernel_rfl
theorem Qi (C:Addr) (rest:List Value):(Code.builtin "type.__call__" ⟨.ref C::rest,[]⟩).cUnits=1:=by kernel_rfl
theorem Rn (A:Around) (C:Addr) (rest:List Value):(A.under (Code.builtin "type.__call__" ⟨.ref C::rest,[]⟩)).frames=A.frames:=by kernel_rfl
theorem QW (A:Around) (C:Addr) (rest:List Value):(A.under (Code.builtin "type.__call__" ⟨.ref C::rest,[]⟩)).handled=A.handled:=by kernel_rfl
section
variable {w:World}{H:PM}{c:Cf}{st:St}{env:Env}{h h':Heap}{v:Value}
theorem iM.mono {B B':PM} (l:B.le B') {fs:List (Str × FV)}:∀ {es:List DictEntry},iM w B es fs→iM w B' es fs:=by
 induction fs with
 | nil=>exact fun h=>h
 | cons x r ih=>exact fun {es} (h:∃ e r',es=e::r'∧((∃ t,e.key=.str x.1 t)∧aO w B e.val x.2)∧iM w B r' r)=>h.imp fun e h=>h.imp fun r h=>⟨h.1,⟨h.2.1.1,h.2.1.2.mono l⟩,ih h.2.2⟩
theorem aC.freezeI (R:aC w H env c st h) {a d C n:Nat}{es:List DictEntry}{ys:List (Str × FV)} (h1:h.get? a=some (instObj C d)) (h2:h.get? d=some (dictOf es n)) (p:iM w c.B es ys) (f1:c.B a=none∧H a=none∧c.ow a=none) (f2:c.B d=none∧H d=none∧c.ow d=none) :
  ∃ c',c.le c'∧aC w H env c' st h∧aO w c'.B (.ref a) (.obj C ys):=by
 have ne:a ≠ d:=fun z=>by rw[z,h2]at h1;cases h1
 obtain⟨R₇,l₇,B₇⟩:=R.freezeAt (.refl _) h2 f2.1 f2.2.1 f2.2.2
 obtain⟨R₈,l₈,B₈⟩:=R₇.freezeAt (.refl _) h1 ((eW ne).trans f1.1) f1.2.1 f1.2.2
 exact⟨_,l₇.trans l₈,R₈,.obj B₈ (l₈.b _ _ B₇) (iM.mono (l₇.trans l₈).b p)⟩
noncomputable def Cf.inst (c:Cf) (a d k:Nat):Cf:={ c with ow:=iP (iP c.ow d (some (.d k))) a (some (.g k)),S:=c.S++[.o a d] }
theorem aC.newInst (R:aC w H env c st h) {C:Addr}:c.le (c.inst (h.objs.size + 1) h.objs.size st.g.length)∧aC w H env (c.inst (h.objs.size + 1) h.objs.size st.g.length) { st with g:=st.g++[.inst C []] } ((h.push emptyDict).push (instObj C h.objs.size))∧aH w (c.inst (h.objs.size + 1) h.objs.size st.g.length) (.ref (h.objs.size + 1)) (.ref st.g.length):=by
 have ne:h.objs.size + 1 ≠ h.objs.size:=Nat.ne_of_gt (Nat.lt_succ_self _)
 have e1:h.get? (h.objs.size + 1)=none:=by
  cases q:h.get? (h.objs.size + 1) with
  | none=>rfl
  | some ob=>exact absurd (Heap.lt_size q) (Nat.not_lt.mpr (Nat.le_succ _))
 have nd:=R.none_of_size.2.2
 have na:=(R.free e1).2.2
 have l:c.le (c.inst (h.objs.size + 1) h.objs.size st.g.length):=⟨.refl _,List.prefix_append _ _,List.prefix_refl _,rfl,rfl⟩
 have how:∀ b t,c.ow b=some t→(c.inst (h.objs.size + 1) h.objs.size st.g.length).ow b=some t:=fun b t e=>pZ ((eW ne).trans na) (pZ nd e)
 have gD:((h.push emptyDict).push (instObj C h.objs.size)).get? h.objs.size=some emptyDict:=Heap.get?_push_of_some _ (Heap.get?_push_size _ rfl)
 have gI:((h.push emptyDict).push (instObj C h.objs.size)).get? (h.objs.size + 1)=some (instObj C h.objs.size):=Heap.size_push (h:=h) (o:=emptyDict) ▸ Heap.get?_push_size (h.push emptyDict) (o:=instObj C h.objs.size) rfl
 have hS:(c.inst (h.objs.size + 1) h.objs.size st.g.length).S[st.g.length]? = some (.o (h.objs.size + 1) h.objs.size):=R.ix.gl ▸ oB
 have lg:∀ {m:MO}{P:Prop},st.g[st.g.length]? = some m→P:=fun e=>absurd (dJ e) (Nat.lt_irrefl _)
 refine⟨l,R.ext l rfl ((aY.push _ _).trans (aY.push _ _)) how (fun b o t eb q=>?_) (fun b t e=>jS (f:=iP c.ow h.objs.size (some (.d st.g.length))) e (fun z1 z2=>.inr (by rw[z1,← Option.some.inj z2];exact⟨e1,_,gI,Own.gI hS rfl fun mo e=>cU e lg fun _ e=>e ▸ jD.instI⟩)) fun _ e=>jS e (fun z1 z2=>.inr (by rw[z1,← Option.some.inj z2];exact⟨get?_size h,_,gD,Own.dI hS fun C fs e=>cU e lg fun _ e=>⟨[],0,rfl,by cases e;exact iA.nil⟩⟩)) fun _=>.inl)
  ⟨how _ _ R.ix.loc,fun x b e=>(R.ix.cel x b e).up l how,R.ix.celd,(List.length_append ..).trans ((congrArg (· + 1) R.ix.gl).trans (List.length_append (as:=st.g) (bs:=[_])).symm),fun k sl e=>cU e (fun e=>(R.ix.g k sl e).up how) fun z e=>?_,R.ix.ll,fun k a xs e1 e2=>how _ _ (R.ix.l k a xs e1 e2),R.ix.nol⟩,aH.ref hS⟩
 ·cases t with
  | g k=>exact Exists.imp (fun sl q=>⟨q.1,q.2.1,fun mo e=>cU e (q.2.2 mo) fun z e=>by have z2:=q.1;rw[z,hS]at z2;rw[← Option.some.inj z2]at q;rw[← show h.objs.size + 1=b from q.2.1,na]at eb;exact nk3 eb⟩) q
  | d k=>exact Exists.imp (fun a' q=>⟨q.1,fun C fs e=>cU e (q.2 C fs) fun z _=>by have z2:=q.1;rw[z,hS]at z2;injection z2 with z2;injection z2 with _ z2;rw[← z2,nd]at eb;exact nk3 eb⟩) q
  | _=>exact q
 ·subst e
  rw[z,R.ix.gl]
  exact⟨gQ,(eW (Ne.symm ne)).trans gQ⟩
noncomputable def bZ.low (m:Nat) (t:bZ):Option bZ:=@bZ.rec (fun _=>Option bZ) (some .v) (fun x=>some (.c x)) (fun k=>gd (Nat.blt k m) (some (.g k))) (fun k=>gd (Nat.blt k m) (some (.d k))) (fun k=>some (.l k)) t
noncomputable def Cf.low (c:Cf) (m:Nat):Cf:={ c with ow:=fun a=>(c.ow a).bind (bZ.low m),S:=c.S.take m }
theorem aH.low {m:Nat}{x:PV} (p:aH w c v x) (h:∀ k,x=.ref k→k < m):aH w (c.low m) v x:=by
 cases x with
 | ref k=>exact p.refI.imp fun s q=>⟨q.1,(dM (h k rfl)).trans q.2⟩
 | _=>exact p
theorem aH.lt {x:PV} (p:aH w c v x) (k:Nat) (e:x=.ref k):k < c.S.length:=by
 subst e
 exact p.refI.elim fun s q=>dJ q.2
theorem kY {a:Addr}{t:bZ}{m:Nat} (e:c.ow a=some t):(c.low m).ow a=t.low m:=by show(c.ow a).bind _=_;rw[e];rfl
theorem HB {k m:Nat} (h:k < m):Nat.blt k m=true:=Nat.ble_eq_true_of_le h
theorem aC.low (R:aC w H env c st h) {m:Nat} (hm:m ≤ st.g.length) (ok:mP m (st.g.take m)=true) (hv:∀ x u,lk x st.v=some u→∀ k,u=.ref k→k < m) (hc:∀ x u,lk x st.c=some u→∀ k,u=.ref k→k < m):aC w H env (c.low m) { st with g:=st.g.take m } h:=by
 have tl:∀ {α:Type}{l:List α}{k:Nat}{x:α},(l.take m)[k]? = some x→k < m:=fun e=>Nat.lt_of_lt_of_le (dJ e) (List.length_take_le _ _)
 have cof:∀ {x:Str}{o:Obj},jI w c st.c x o→jI w (c.low m) st.c x o:=fun {x o} q=>q.imp fun v₀ q=>⟨q.1,fun u e=>(q.2 u e).imp fun v q=>⟨q.1,q.2.low (hc x u e)⟩⟩
 have kg:∀ {a:Addr}{k:Nat},k < m→c.ow a=some (.g k)→(c.low m).ow a=some (.g k):=fun hk e=>(kY e).trans (by show gd _ _=_;rw[HB hk];rfl)
 refine⟨R.b,R.bh,R.hh,R.fsH,fun a t e=>ob e fun t' q e=>?_,kY R.ix.loc,fun x a e=>(R.ix.cel x a e).imp kY fun q=>⟨q.1,q.2.imp fun o q=>⟨q.1,cof q.2⟩⟩,R.ix.celd,?_,fun k sl e=>?_,R.ix.ll,fun k a xs e1 e2=>kY (R.ix.l k a xs e1 e2),R.ix.nol⟩
 ·have fin:∀ {P:Obj→Prop},(∀ o,Own w env c st a o t'→P o)→c.B a=none∧H a=none∧∃ o,h.get? a=some o∧P o:=fun f=>⟨R.owB q,R.owH q,(R.owG q).imp fun o p=>⟨p.1,f o p.2⟩⟩
  cases t' with
  | v=>exact Option.some.inj e ▸ fin fun o p=>⟨p.1,p.2.imp fun es p=>p.imp fun ep p=>⟨p.1,p.2.1,fun x u e=>(p.2.2 x u e).imp fun v q=>⟨q.1,q.2.low (hv x u e)⟩⟩⟩
  | c x=>exact Option.some.inj e ▸ fin fun o p=>⟨p.1,cof p.2⟩
  | g k=>exact aD e fun hk e=>Option.some.inj e ▸ fin fun o p=>Exists.imp (fun sl p=>⟨(dM (eK hk)).trans p.1,p.2.1,fun m' e=>jD.mono (.refl _) (p.2.2 m' ((dM (eK hk)).symm.trans e))⟩) p
  | d k=>exact aD e fun hk e=>Option.some.inj e ▸ fin fun o p=>Exists.imp (fun a' p=>⟨(dM (eK hk)).trans p.1,fun C fs e=>(p.2 C fs ((dM (eK hk)).symm.trans e)).imp fun es q=>q.imp fun n q=>⟨q.1,iA.map (fun x u hx p=>p.low fun k e'=>eK (n:=k) (by have z:=rR (tS ok e) x hx;rw[e']at z;exact z)) q.2⟩⟩) p
  | l k=>exact Option.some.inj e ▸ fin fun o p=>p
 ·show(c.S.take m).length=(st.g.take m).length
  rw[List.length_take,List.length_take,R.ix.gl]
 ·have hk:=tl e
  have:=R.ix.g k sl ((dM hk).symm.trans e)
  cases sl with
  | o a d=>exact⟨kg hk this.1,(kY this.2).trans (by show gd _ _=_;rw[HB hk];rfl)⟩
  | l a=>exact kg hk this
end
section
variable {Γ:Gm}{H:PM}{F:Fr}{cx:Cx}{c:Cf}{s:Shared}{st:St}{Q:Value→Shared→Prop}{E:Value→Shared→Prop}
theorem DV {v:Value}{x:PV} (p:aH Γ.w c v x) (h:isNone x=true):v=.none:=by
 cases x with
 | f y=>rw[w3 h]at p;exact p
 | _=>exact nk6 h
theorem Ng {A:Around}{cd:Code}{x:Addr} (h:codeAny (model pw Γ.w) A cd (Bo (fun v s'=>v=.none∧Q (.ref x) s') E) s):codeAny (model pw Γ.w) A cd (InitBack x (Bo Q E)) s :=
 codeAny_mono h fun r s' z=>by
  rcases r with e | (v | _ | _ | _)
  ·exact z
  ·exact z
  ·exact z
  ·exact z
  ·exact z
theorem FZ (hK:cS Γ.w Γ.K Γ.T) (hC:fH Γ.w Γ.K Γ.T Γ.n Γ.C) (hF:aV Γ F cx) (o:Ok Γ H F c) (R:aC Γ.w H F.env c st s.heap) {a:Nat}{p:Bool × Nat}{vs:List Value}{ws:List PV} (hc:iU a Γ.T.clss=some p) (ps:aX Γ.w c vs ws)
  (g:aG Γ (aH Γ.w) H F (G1 cx a p.1 p.2 ws st) c s Q E):wpAny (model pw Γ.w) F.A (call (.ref a) vs) Q E s:=by
 obtain⟨k1,k2,k3,k4⟩:=hK.clsK a p hc
 refine g.opt fun r hr g=>?_
 obtain⟨c₂,l₂,R₂,p₂⟩:=rA R ps hr
 have o₂:=o.mono _ l₂
 have KI:=o₂.kin R₂
 have g:=g.mono l₂ (.refl s)
 obtain⟨l₃,R₃,p₃⟩:=R₂.newInst (C:=a)
 refine wpAny_call (make_core (makes_of KI k2) (looks_findIn KI k3) (fun self=>bind_fn KI self k4) (.inl rfl) (Ng ?_))
 replace g:aG Γ (aH Γ.w) H F ((qC cx.f p.2 (.ref r.2.g.length::r.1) (r.2.g++[.inst a []]) fun q=>.ok (q.1,{ r.2 with g:=q.2 })).bind fun q=>opt (zG p.1 r.2 (q.1,q.2.g)) .ok) c₂ s Q E:=g
 have g₃:=g.mono l₃ (s':=⟨(s.heap.push emptyDict).push (instObj a s.heap.objs.size),s.gens,s.drawn,s.toks,s.os⟩) ⟨rfl,rfl⟩
 refine aG.bindC (V₁:=aH Γ.w) g₃ (hC _ Γ.X H F { r.2 with g:=r.2.g++[.inst a []] } cx.f p.2 _ _ _ _ _ E ((Rn _ _ _).trans hF.frames) ((QW _ _ _).trans hF.handled) ?_ ?_ (o₂.mono _ l₃) R₃ (.cons p₃ (p₂.mono l₃))) (o₂.mono _ l₃) fun b st' c' u s' e l o' R' pu z _=>?_
 ·show F.A.depth + _ + _ + _ ≤ _
  rw[Rv]
  have:=hF.depth
  omega
 ·show F.A.units + _ + _ + _ ≤ _
  rw[Qi]
  have:=hF.units
  omega
 obtain⟨g',rfl⟩:∃ g',st'={ r.2 with g:=g' }:=OW e fun q _ e=>dK (nE e) fun _ e2=>⟨q.2,e2.symm⟩
 have g:=g.step e (.refl c₂) (s':=s') (aS.trans ⟨rfl,rfl⟩ z)
 refine g.opt fun y hy g=>aD hy fun hn hy=>⟨DV pu hn,?_⟩
 cases hz:p.1 with
 | false =>
  rw[hz]at hy
  rw[← Option.some.inj hy]at g
  exact aG.done' g (l₃.trans l) R' (p₃.mono l) (.refl s')
 | true =>
  rw[hz]at hy
  refine ob hy fun z hz hy=>aD hz fun h1 hz=>aD hz fun h2 hz=>ob hz fun q hq hz=>ob hz fun ys hys hz=>?_
  rw[← Option.some.inj hy,← Option.some.inj hz]at g
  have gl:c₂.S.length=r.2.g.length:=R₂.ix.gl
  have lt:∀ {v:Value}{u:PV},aH Γ.w c₂ v u→∀ k,u=.ref k→k < r.2.g.length:=fun p k e=>gl ▸ p.lt k e
  have R₆:=aC.low (m:=r.2.g.length) R' (by have z:=Nat.eq_of_beq_eq_true h1;show _ ≤ g'.length;rw[z];exact Nat.le_succ _) h2 (fun x u e=>by
    obtain⟨o,_,_,es,ep,_,_,q⟩:=R₂.owG R₂.ix.loc
    exact(q x u e).elim fun v q=>lt q.2) fun x u e=>by
    obtain⟨a,ha⟩:=Option.isSome_iff_exists.mp (R₂.ix.celd x u e)
    have f:∀ {o:Obj},jI Γ.w c₂ r.2.c x o→∀ k,u=.ref k→k < r.2.g.length:=fun q=>q.elim fun v₀ q=>(q.2 u e).elim fun v q=>lt q.2
    exact(R₂.ix.cel x a ha).elim (fun q=>(R₂.owG q).elim fun o q=>f q.2.2) fun q=>q.2.elim fun o q=>f q.2
  have l₆:c₂.le (c'.low r.2.g.length):=by
   have ll:=l₃.trans l
   refine⟨ll.b,?_,ll.l,ll.ro,ll.fs⟩
   obtain⟨t,ht⟩:=ll.s
   show c₂.S <+: c'.S.take r.2.g.length
   rw[← ht,List.take_append,List.take_of_length_le (Nat.le_of_eq gl)]
   exact List.prefix_append _ _
  have nlt:Nat.blt r.2.g.length r.2.g.length=false:=Bool.eq_false_iff.mpr fun z=>Nat.lt_irrefl _ (eK z)
  refine aC.iE (P:=fun v=>Q v s') (x:=.ref r.2.g.length) R' (p₃.mono l) rfl hq fun b d es n hS b1 b2 b3 b4 b5=>?_
  have nb:(c'.low r.2.g.length).ow b=none:=(kY b1).trans (by show gd _ _=_;rw[nlt];rfl)
  have nd:(c'.low r.2.g.length).ow d=none:=(kY b2).trans (by show gd _ _=_;rw[nlt];rfl)
  obtain⟨c₈,l₈,R₈,f₈⟩:=R₆.freezeI b3 b4 (b5.frozen hys) ⟨R'.owB b1,R'.owH b1,nb⟩ ⟨R'.owB b2,R'.owH b2,nd⟩
  exact aG.done' g (l₆.trans l₈) R₈ (.f f₈) (.refl s')
theorem FN (hK:cS Γ.w Γ.K Γ.T) (hC:fH Γ.w Γ.K Γ.T Γ.n Γ.C) (hF:aV Γ F cx) (o:Ok Γ H F c) (R:aC Γ.w H F.env c st s.heap) {v:Value}{fv:FV}{line:Nat}{vs:List Value}{ws:List PV} (pv:aO Γ.w c.B v fv) (ps:aX Γ.w c vs ws)
  (g:aG Γ (aH Γ.w) H F (v7 Γ.T cx fv line ws st) c s Q E):wpAny (model pw Γ.w) F.A (call v vs) Q E s:=by
 cases fv with
 | typ n=>rw[show v=.type n.id from pv];exact aG.qS (V:=aH Γ.w) g fun y st' hy g=>NN R ps hy fun c' u s' l R' p z=>aG.done' g l R' p z
 | blt n=>rw[show v=.builtin n.id from pv];exact aG.qV g fun y hy g=>NY hK hF.handled o R ps hy fun u s' R' p z=>aG.done' g (.refl _) R' p z
 | top a =>
  rw[show v=.ref a from pv]
  exact g.oe (fun p hp g=>FZ hK hC hF o R hp ps g) fun _ g=>g.opt fun _ _ g=>H6 (pre:=[]) hC hF o R ps .nil g
 | _=>exact g.stuck
end
end Mine
end
section
namespace Mine
noncomputable def sV (h h':Heap) (us:List Value):List Value→List Value→Prop:=@List.rec Value (fun _=>List Value→List Value→Prop) (fun _ ws=>ws=[]) (fun a _ ih vs=>@List.rec Value (fun _=>List Value→Prop) (fun ws=>ws=[]) (fun b vs _ ws=>∃ T k r,ws=.ref T::r∧h.get? T=none∧h'.get? T=some { cls:=.type "tuple",data:=.seq #[a,b] k }∧ih vs r) vs) us
noncomputable def xD (w:World):Prop:=∀ {A:Around}{s:Shared}{la lb:Addr}{us vs:List Value}{n m:Nat}{Q:Value→Shared→Prop}{E:Value→Shared→Prop},A.handled=none→s.heap.get? la=some (PySem.W.listOf us.toArray n)→s.heap.get? lb=some (PySem.W.listOf vs.toArray m)→us.length ≤ sizeLine→vs.length ≤ sizeLine →
 (∀ s' D k ws,aS s s'→aY s.heap s'.heap→s.heap.get? D=none→s'.heap.get? D=some (PySem.W.listOf ws.toArray k)→sV s.heap s'.heap us vs ws→Q (.ref D) s') →
 wpAny (model pw w) A (call (.type "zip") [.ref la,.ref lb]) (fun z s₁=>wpAny (model pw w) A (call (.type "list") [z]) Q E s₁) E s
section
variable {w:World}{H:PM}{c:Cf}{st:St}{env:Env}{h h':Heap}
noncomputable def nW (B:PM) (h h':Heap):PM:=fun a=>oe (h.get? a) (fun _=>B a) (h'.get? a)
theorem D4 {B:PM}{a:Addr}{o:Obj} (e:h.get? a=some o):nW B h h' a=B a:=by unfold nW;rw[e];rfl
theorem yU {B:PM}{a:Addr} (e:h.get? a=none):nW B h h' a=h'.get? a:=by unfold nW;rw[e];rfl
theorem aC.freezeNew (R:aC w H env c st h) (g:aY h h'):c.le { c with B:=nW c.B h h' }∧aC w H env { c with B:=nW c.B h h' } st h' :=
 R.frz g (fun a o e=>(D4 (R.b a o e)).trans e) fun a o e=>by
  cases q:h.get? a with
  | none=>exact⟨(yU q).symm.trans e,(R.free q).2⟩
  | some o' =>
   have e:=(D4 q).symm.trans e
   refine⟨g _ _ (R.b a o e),R.bh a o e,?_⟩
   cases y:c.ow a with
   | none=>rfl
   | some t=>exact nk3 ((R.owB y).symm.trans e)
theorem sV.frz {B:PM}{xs:List FV}:∀ {us vs ws:List Value}{ys:List FV},sV h h' us vs ws→aQ w (nW B h h') us xs→aQ w (nW B h h') vs ys→aQ w (nW B h h') ws (eX xs ys):=by
 induction xs with
 | nil=>intro us vs ws ys t a b;obtain rfl:=a.n;exact t
 | cons x xs ih =>
  intro us vs ws ys t a b
  obtain⟨v,us,rfl,a1,a2⟩:=a.c
  cases ys with
  | nil=>obtain rfl:=b.n;exact t
  | cons y ys =>
   obtain⟨u,vs,rfl,b1,b2⟩:=b.c
   obtain⟨T,k,r,rfl,e1,e2,t⟩:=t
   exact .cons (.tup (us:=[_,_]) ((yU e1).trans e2) (.cons a1 (.cons b1 .nil))) (ih t a2 b2)
end
section
variable {Γ:Gm}{H:PM}{F:Fr}{cx:Cx}{c:Cf}{s:Shared}{st:St}{ih:Cx→Expr→St→Pg (PV × St)}
theorem OV {o:Option Ty}{p:Ty→Bool} (h:oe o p false=true):∃ t,o=some t∧p t=true:=by
 cases o with
 | none=>exact nk6 h
 | some t=>exact⟨t,rfl,h⟩
theorem y5 {x:FV}{args:List Expr}{q:Expr × Expr} (e:AC Γ.T cx x args st=some q):x=.typ .list∧∃ k p pos,args=[.Call (.Name k p) [q.1,q.2] [] pos]∧bO q.1=true∧bO q.2=true∧gR Γ.T cx k st=some (.f (.typ .zip)) :=
 aD e fun h1 e=>ob e fun z h2 e=>ob e fun y h3 e=>aD e fun h4 e=>ob h2 fun e1 he1 h2=>ob h2 fun cl hcl h2=>ob h2 fun k hk h2=>ob h2 fun pr hpr h2=>aD h2 fun h5 h2=>aD h2 fun h6 h2=>aD h2 fun h7 h2=>by
  obtain⟨t,ht,hp⟩:=OV h1
  obtain⟨t',ht',hp'⟩:=OV h4
  obtain⟨p,hn⟩:=d4 hk
  have e:=Option.some.inj h2 ▸ Option.some.inj e
  refine⟨?_,k,p,cl.2.2.2,?_,e ▸ h6,e ▸ h7,?_⟩
  ·rw[pS ht]
   cases t<;>first | rfl | exact nk6 hp
  ·rw[eA he1,rL hcl,hn,bN h5,kB hpr,← e]
  ·rw[← Option.some.inj h2]at h3
   refine h3.trans (congrArg some (fR ht' fun w h1 h2=>?_))
   rw[h1,pS h2]
   cases t'<;>first | rfl | exact nk6 hp'
theorem Fk (hK:cS Γ.w Γ.K Γ.T) (hZ:xD Γ.w) (hC:fH Γ.w Γ.K Γ.T Γ.n Γ.C) (hI:cA Γ H ih) (hF:aV Γ F cx) {n:Str}{np p:Pos}{args:List Expr}:TG Γ (aH Γ.w) H F st (D3 Γ.T ih cx n args p.line st) (eval (.Call (.Name n np) args [] p) F.env) :=
 fun c s Q E o R g=>g.gp fun ha g=>g.gp fun _ g=>g.opt fun w₀ h₀ g=>g.f fun x hx g=>by
  subst hx
  refine lW ?_
  refine pD hK hF o R h₀ fun v fv=>?_
  refine g.oe (fun ab hz g₁=>?_) fun hz g₁=>?_
  ·obtain⟨hx,k,kp,pos,hargs,pa,pb,hk⟩:=y5 hz
   rw[show v=.type "list" from(hx ▸ fv:aH Γ.w c v (.f (.typ .list)))]
   refine bM (P:=fun _=>True) ha (lS (Γ:=Γ) "list") ?_
   rw[hargs,gY rfl]
   refine iI (lW (pD hK hF o R hk fun u fu=>?_))
   rw[show u=.type "zip" from fu]
   refine bM (P:=fun _=>True) (args:=[ab.1,ab.2]) (by rw[List.all_cons,List.all_cons,pa,pb];rfl) (lS (Γ:=Γ) "zip") ?_
   rw[gY pa,gY pb]
   refine iI (aG.bind g₁ (hI F cx ab.1 st hF) o R fun w₁ st₁ c₁ v₁ s₂ _ l₁ o₁ R₁ p₁ z₁ g=>?_)
   refine iI (aG.bind g (hI F cx ab.2 st₁ hF) o₁ R₁ fun w₂ st₂ c₂ v₂ s₃ _ l₂ o₂ R₂ p₂ z₂ g=>wpAny_pure ⟨trivial,g.opt fun xs hx g=>g.opt fun ys hy g=>aG.qS (V:=aH Γ.w) g fun y st' hy' g=>aD hy' fun f1 hy'=>aD hy' fun f2 hy'=>aD hy' fun _ hy'=>?_⟩)
   refine R₂.itE (p₁.mono l₂) hx fun la us n1 e1 r1=>R₂.itE p₂ hy fun lb vs n2 e2 r2=>?_
   refine wpAny_mono (hZ hF.handled e1 e2 (r1.length ▸ cY f1) (r2.length ▸ cY f2) fun s₄ D kk ws z gr eD eD' tu=>?_) (fun z s₄ q=>wpAny_pure ⟨trivial,q⟩) fun _ _ z=>z
   obtain⟨l₅,R₅⟩:=R₂.freezeNew gr
   refine dK (Option.some.inj hy') fun e3 e4=>?_
   rw[← e3,← e4]at g
   exact aG.done' g l₅ R₅ (aH.f (.lst (us:=ws) (n:=kk) ((yU eD).trans eD') (tu.frz (r1.mono l₅.b) (r2.mono l₅.b)))) z
  ·have go:∀ (P:Heap→Prop),(∀ h,P h→∃ k,(k=Keeper.frame∨k=Keeper.machine∨k=Keeper.boundFrame)∧Looks (model pw Γ.w) h (keeperOf v) k)→(∀ (h:Heap) (ws:List PV) (st':St),Γ.K.In h→aN Γ.C (v7 Γ.T cx x p.line ws st') ≠ .stuck→P h) →
     wpAny (model pw Γ.w) F.A (callWith p v [] (backTo p (starEach args F.env)) []) Q E s:=fun P hk hp =>
    bM (P:=P) ha hk (aG.bind g₁ (i8 hI hF p args st) o R fun ws st₂ c₂ vs s₂ _ l₂ o₂ R₂ p₂ z₂ g=>⟨hp _ ws st₂ (o₂.kin R₂) g.go,FN hK hC hF o₂ R₂ (fv.fI.mono l₂.b) p₂ g⟩)
   have no:(∀ ws st',v7 Γ.T cx x p.line ws st'=.stuck)→wpAny (model pw Γ.w) F.A (callWith p v [] (backTo p (starEach args F.env)) []) Q E s:=fun hs=>go (fun _=>False) (fun _ z=>z.elim) fun _ ws st' _ z=>z (by rw[hs ws st'];rfl)
   cases x with
   | blt m=>exact go (fun _=>True) (by rw[show v=.builtin m.id from fv];exact eV (Γ:=Γ) m.id) fun _ _ _ _ _=>trivial
   | typ m=>exact go (fun _=>True) (by rw[show v=.type m.id from fv];exact lS (Γ:=Γ) m.id) fun _ _ _ _ _=>trivial
   | top a =>
    cases h5:iU a Γ.T.clss with
    | some q=>exact go (fun h=>Γ.K.In h) (by rw[show v=.ref a from fv];exact keeps_K (hK.clsK a q h5).1) fun _ _ _ z _=>z
    | none =>
     cases h6:iU a Γ.T.fns with
     | some q=>exact go (fun h=>Γ.K.In h) (by rw[show v=.ref a from fv];exact keeps_K (hK.fnK a q h6)) fun _ _ _ z _=>z
     | none=>exact no fun ws st'=>by show oe (iU a Γ.T.clss) _ (opt (iU a Γ.T.fns) _)=_;rw[h5,h6];rfl
   | _=>exact no fun ws st'=>rfl
end
end Mine
end
section
namespace Mine
section
variable {Γ:Gm}{H:PM}{F:Fr}{cx:Cx}{st:St}{ih:Cx→Expr→St→Pg (PV × St)}
theorem TG.oe {α β γ:Type}{V:Cf→α→β→Prop}{t:Sem α}{y:Option γ}{k:γ→Pg (β × St)}{x:Pg (β × St)} (f:∀ a,y=some a→TG Γ V H F st (k a) t) (n:y=none→TG Γ V H F st x t):TG Γ V H F st (Mine.oe y k x) t:=qP (P:=fun x=>TG Γ V H F st x t) f n
theorem TG.gp {α β:Type}{V:Cf→α→β→Prop}{t:Sem α}{b:Bool}{x:Pg (β × St)} (f:b=true→TG Γ V H F st x t):TG Γ V H F st (Mine.gp b x) t:=fun c s Q E o R g=>g.gp fun h g=>f h c s Q E o R g
theorem TG.opt {α β γ:Type}{V:Cf→α→β→Prop}{t:Sem α}{y:Option γ}{k:γ→Pg (β × St)} (f:∀ a,y=some a→TG Γ V H F st (k a) t):TG Γ V H F st (Mine.opt y k) t:=fun c s Q E o R g=>g.opt fun a h g=>f a h c s Q E o R g
theorem rQ {e:Expr}{q:Expr × Str × Pos} (h:A5 e=some q):e=.Attribute q.1 q.2.1 q.2.2:=by
 cases e with
 | Attribute=>rw[← Option.some.inj h]
 | _=>exact nk3 h
theorem F3 {e:Expr}{q:Option Expr × Option Expr × Option Expr} (h:FR e=some q):∃ p,e=.Slice q.1 q.2.1 q.2.2 p:=by
 cases e with
 | Slice a b c p=>exact⟨p,by rw[← Option.some.inj h]⟩
 | _=>exact nk3 h
theorem EV {e:Expr}{q:UnaryOp × Expr} (h:KO e=some q):∃ p,e=.UnaryOp q.1 q.2 p:=by
 cases e with
 | UnaryOp a b p=>exact⟨p,by rw[← Option.some.inj h]⟩
 | _=>exact nk3 h
theorem yA {e:Expr}{q:Const} (h:E2 e=some q):∃ k p,e=.Constant q k p:=by
 cases e with
 | Constant c k p=>exact⟨k,p,by rw[← Option.some.inj h]⟩
 | _=>exact nk3 h
theorem mD {α:Type}{o:Option α}{p:α→Bool} (h:oe o p false=true):∃ t,o=some t∧p t=true:=by
 cases o with
 | none=>exact nk6 h
 | some t=>exact⟨t,rfl,h⟩
theorem Kw {α:Type}{o:Option α}{b:Bool} (h:oe o (fun _=>false) b=true):o=none∧b=true:=by
 cases o with
 | none=>exact⟨rfl,h⟩
 | some t=>exact nk6 h
theorem E9 {e:Expr} (h:Fm e=true):∃ k p q,e=.UnaryOp .USub (.Constant (.int 1) k p) q:=by
 obtain⟨u,hu,h⟩:=mD h
 obtain⟨c,hc,h⟩:=mD h
 obtain⟨h1,h2⟩:=Bool.and_eq_true_iff.mp h
 obtain⟨q,hq⟩:=EV hu
 obtain⟨k,p,hp⟩:=yA hc
 refine⟨k,p,q,hq.trans ?_⟩
 rw[hp,show u.1=.USub by cases hh:u.1<;>rw[hh]at h1<;>first | rfl | exact nk6 h1]
 cases c with
 | int i =>
  obtain⟨n,hn,h2⟩:=mD h2
  rw[lX hn,Nat.eq_of_beq_eq_true h2];rfl
 | _=>exact nk6 h2
theorem Hn (hI:cA Γ H ih) (hF:aV Γ F cx) {o i:Expr}{p:Pos}:TG Γ (aH Γ.w) H F st (FG Γ.T ih cx o i p.line st) (eval (.Subscript o i p) F.env):=by
 unfold FG
 cases h:FR i with
 | none=>exact Jh hI hF
 | some q =>
  obtain⟨p2,rfl⟩:=F3 h
  obtain⟨a,b,x⟩:=q
  cases x with
  | none=>exact FL hI hF
  | some x =>
   cases hm:Ah (a,b,some x) with
   | false=>exact fun c s Q E o₁ R g=>Subscript_ (aG.bind g (hI F cx o st hF) o₁ R fun w₁ st₁ c₁ v₁ s₁ _ l₁ o₁ R₁ p₁ z₁ g=>aG.gp g fun h=>nk5 (h.symm.trans hm))
   | true =>
    have e:Ah (a,b,some x)=oe a (fun _=>false) (oe b (fun _=>false) (Fm x)):=rfl
    obtain⟨h1,h2⟩:=Kw (e.symm.trans hm)
    obtain⟨h2,h3⟩:=Kw h2
    obtain⟨k,p3,p4,h3⟩:=E9 h3
    rw[h1,h2,h3]
    refine fun c s Q E o₁ R g=>LA hI hF c s Q E o₁ R g
theorem IG (hK:cS Γ.w Γ.K Γ.T) (hZ:xD Γ.w) (hC:fH Γ.w Γ.K Γ.T Γ.n Γ.C) (hI:∀ H,cA Γ H ih) (H:PM):cA Γ H (DJ Γ.T ih):=by
 intro F cx e st hF
 have no:∀ m,TG Γ (aH Γ.w) H F st (.stuck:Pg (PV × St)) m:=fun m c s Q E o R g=>g.stuck
 cases e with
 | Constant=>exact FF
 | Name=>exact Iy hK hF
 | Attribute=>exact Hg hK (hI H) hF
 | Subscript o i p=>exact Hn (hI H) hF
 | BinOp=>exact Kx (hI H) hF
 | UnaryOp=>exact F9 (hI H) hF
 | BoolOp op es p=>exact fun c s Q E o R g=>C3 (hI H) hF p op es st c s Q E o R g
 | Compare=>exact B4 (hI H) hF
 | IfExp=>exact EA (hI H) hF
 | Tuple=>exact H7 (hI H) hF
 | List=>exact Dw (hI H) hF
 | Dict ks vs p=>exact TG.gp fun h=>TG.gp fun h'=>by rw[bN h,bN h'];exact Es hK
 | Call f args ks p =>
  refine TG.gp fun h=>?_
  obtain rfl:=bN h
  refine TG.oe (fun q hq=>?_) fun _=>TG.opt fun n hn=>?_
  ·rw[rQ hq];exact JI hK hC (hI H) hF
  ·obtain⟨_,rfl⟩:=d4 hn
   exact Fk hK hZ hC (hI H) hF
 | ListComp=>exact AJ hK hI hF
 | _=>exact no _
theorem sT (hK:cS Γ.w Γ.K Γ.T) (hZ:xD Γ.w) (hC:fH Γ.w Γ.K Γ.T Γ.n Γ.C) (k:Nat):∀ H:PM,cA Γ H (ev Γ.T k):=by
 induction k with
 | zero=>exact fun H F cx e st hF c s Q E o R g=>g.stuck
 | succ k ih=>exact IG hK hZ hC ih
end
end Mine
end
section
namespace Mine
noncomputable def xL (h:Heap) (e:Addr) (cls:Value):Prop:=∃ oe vs,h.get? e=some oe∧oe.cls=cls∧oe.data=.fields vs∧vs[1]? = some .none
noncomputable def Bv (w:World) (K:Frag) (T:bP):Prop:=∀ {A:Around}{s:Shared}{v₁ v₂:Value}{Q:Value→Shared→Prop}{E:Value→Shared→Prop},A.handled=none→A.depth + 4 ≤ recursionLimit→A.units + 20 ≤ cLine→K.In s.heap →
 (∀ e s',aS s s'→aY s.heap s'.heap→s.heap.get? e=none→xL s'.heap e (.ref T.fail)→Q (.ref e) s')→wpAny (model pw w) A (call (.ref T.fail) [v₁,v₂]) Q E s
noncomputable def u7 (w:World) (K:Frag) (T:bP):Prop:=∀ {A:Around}{s:Shared}{env:Env}{x:Sem Value}{Q:Flow→Shared→Prop}{E:Value→Shared→Prop},A.handled=none →
 wpAny (model pw w) A x (fun v s₁=>∃ e,v=.ref e∧K.In s₁.heap∧xL s₁.heap e (.ref T.fail)∧E (.ref e) s₁) E s→wpAny (model pw w) A (raiseStmt env (some x) none) Q E s
structure iY (w:World) (K:Frag) (T:bP):Prop where
 k:cS w K T
 zip:xD w
 mkf:Bv w K T
 rs:u7 w K T
 fail:keepIn K (.ref T.fail)=true
 fcls:ktsIn K T.fail "BaseException" = true
section
variable {Γ:Gm}{H:PM}{F:Fr}{cx:Cx}{c:Cf}{s:Shared}{st:St}{h h':Heap}{ih:Cx→Expr→St→Pg (PV × St)}{xh:Cx→Stmt→St→Pg (Fl × St)}
theorem Up.fresh (o:Ok Γ H F c) (R:aC Γ.w H F.env c st h) (g:aY h h') {e:Addr} (he:h.get? e=none) (hx:xL h' e (.ref Γ.T.fail)):Up Γ F (.ref e) h':=by
 have mS:∀ a ob,Γ.X.base.get? a=some ob→h.get? a=some ob:=fun a ob q=>(o.base a ob q).elim (R.b a ob) fun q=>(R.hh a ob q.1).is q.2
 have bn:Γ.X.base.get? e=none:=by
  cases q:Γ.X.base.get? e with
  | none=>rfl
  | some ob=>exact nk3 (he.symm.trans (mS e ob q))
 have at_:∀ {L:Addr}{ob:Obj},H L=some ob→(∀ vs,ob.data ≠ .fields vs)→∃ o,h'.get? L=some o∧∀ vs,o.data ≠ .fields vs:=fun e n=>(R.hh _ _ e).slots.elim fun sl q=>⟨_,g _ _ q,n⟩
 obtain⟨LF,f1,f2,f3⟩:=o.fframe
 have hFF:∃ ob,h'.get? LF=some ob∧∀ vs,ob.data ≠ .fields vs:=f3.elim (fun f3=>(R.owG R.ix.loc).imp fun ob q=>by
  obtain⟨q1,_,es,ep,q2,_⟩:=q
  rw[f3]
  exact⟨g _ _ q1,fun vs z=>by rw[q2]at z;cases z⟩) fun q=>q.elim fun ob b=>at_ b.1 b.2.2
 have outs:∀ l:List Env,(∀ ev ∈ l,ev ∈ F.outer)→h'.FunFrames Γ.X.base l:=by
  intro l
  induction l with
  | nil=>exact fun _=>trivial
  | cons ev r ih =>
   intro hm
   obtain⟨k1,L,ob,a1,a2,a3,_,a5⟩:=o.outer ev (hm ev List.mem_cons_self)
   obtain⟨o',e1,e2⟩:=at_ a3 a5
   exact⟨k1,⟨L,o',a1,a2,e1,e2⟩,ih fun ev' h'=>hm ev' (List.mem_cons_of_mem _ h')⟩
 obtain⟨oe,vs,x1,x2,x3,x4⟩:=hx
 obtain⟨obF,y1,y2⟩:=hFF
 exact⟨⟨e,LF,rfl,f1,bn,.new oe vs x1 x2 x3 x4⟩,fun a ob q=>g _ _ (mS a ob q),⟨o.fkind,⟨LF,obF,f1,f2,y1,y2⟩,outs F.outer fun _ h=>h⟩,fun a ob q n=>(R.hh a ob (o.h0 a ob q)).slots.imp fun sl hs=>g _ _ hs⟩
theorem Lj {α:Type}{l:List α} (h:l.length=2):∃ a b,l=[a,b]:=by
 obtain⟨a,t,rfl⟩:=List.exists_cons_of_length_eq_add_one h
 obtain⟨b,rfl⟩:=List.length_eq_one_iff.mp (Nat.succ.inj h)
 exact⟨a,b,rfl⟩
theorem E7 (B:iY Γ.w Γ.K Γ.T) (hI:cA Γ H (E0 Γ.T)) (hF:aV Γ F cx) {x:Expr}{p:Pos}:TG Γ (VF Γ.w) H F st (LY Γ.T cx x st) (exec (.Raise (some x) none p) F.env) :=
 fun c s Q E o R g=>g.opt fun q hq g=>g.gp fun h1 g=>g.opt fun n hn g=>g.gp fun ha g=>g.gp fun hp g=>g.opt fun w₀ h₀ g=>g.opt fun a hw g=>g.gp fun hb g=>by
  obtain⟨np,hn⟩:=d4 hn
  rw[rL hq,hn,bN h1,arm_exec_Raise]
  refine wpAny_bind (wpAny_standAt ?_)
  show wpAny _ _ (raiseStmt F.env (some (do let v ← eval (.Call (.Name n np) q.2.1 [] q.2.2.2) F.env;standAt p;pure v)) none) Q E s
  refine B.rs hF.handled (wpAny_bind (lW (pD B.k hF o R h₀ fun v pv=>?_)))
  rw[show v=.ref Γ.T.fail from fR hw fun y h1 h2=>by rw[h1,vF h2,Nat.eq_of_beq_eq_true hb]at pv;exact pv]
  refine bM (P:=fun h=>Γ.K.In h) hp (keeps_K B.fail) (aG.bind g (i8 hI hF q.2.2.2 q.2.1 st) o R fun ws st₂ c₂ vs s₂ e₂ l₂ o₂ R₂ p₂ z₂ g=>⟨o₂.kin R₂,g.opt fun xs _ g=>?_⟩)
  obtain⟨v₁,v₂,rfl⟩:=Lj ((p₂.length.trans (AK _ e₂)).trans (Nat.eq_of_beq_eq_true ha))
  refine B.mkf hF.handled (Nat.le_trans (Nat.add_le_add (Nat.le_add_right _ _) (by decide)) hF.depth) (Nat.le_trans (Nat.add_le_add (Nat.le_add_right _ _) (by decide)) hF.units) (o₂.kin R₂) fun e s₃ z₃ gr he hx=>?_
  exact wpAny_bind (wpAny_standAt (wpAny_pure ⟨e,rfl,fun a ob q=>gr _ _ (o₂.kin R₂ a ob q),hx,g.raise rfl _ _ (Up.fresh o₂ R₂ gr he hx) z₃⟩))
theorem xH {e:Expr}{q:List Expr} (h:xQ e=some q):∃ x p,e=.Tuple q x p:=by
 cases e with
 | Tuple es x p=>exact⟨x,p,by rw[← Option.some.inj h]⟩
 | _=>exact nk3 h
theorem P8 {t e:Expr}{env:Env} (h1:xQ t=none) (h2:JX t=false):swappedStores [t] e env=pure none:=by
 cases t with
 | Tuple=>exact nk4 h1
 | List=>exact nk5 h2
 | _=>rfl
theorem P4 {ts:List Expr}{x:Nat}{p:Pos}{e:Expr}{env:Env} (h:xQ e=none):swappedStores [.Tuple ts x p] e env=pure none:=by
 cases e with
 | Tuple=>exact nk4 h
 | _=>rfl
theorem TG.gpB {α β δ:Type}{V:Cf→α→β→Prop}{t:Sem α}{b:Bool}{x:Pg (δ × St)}{k:δ × St→Pg (β × St)} (f:b=true→TG Γ V H F st (x.bind k) t):TG Γ V H F st ((Mine.gp b x).bind k) t:=fun c s Q E o R g=>aG.gpB g fun h g=>f h c s Q E o R g
theorem D2 (B:iY Γ.w Γ.K Γ.T) (hC:fH Γ.w Γ.K Γ.T Γ.n Γ.C) (hF:aV Γ F cx) {t e:Expr}{p:Pos}:TG Γ (VF Γ.w) H F st ((zI Γ.T cx t e st).bind fun r=>.ok (.next,r.2)) (exec (.Assign [t] e p) F.env):=by
 have hE:∀ H,cA Γ H (E0 Γ.T):=fun H=>sT B.k B.zip hC 40 H
 refine qP (P:=fun (x:Pg (Unit × St))=>TG Γ (VF Γ.w) H F st (x.bind fun r=>.ok (.next,r.2)) (exec (.Assign [t] e p) F.env)) (fun ts ht=>?_) fun ht=>TG.gpB fun h1=>TG.gpB fun h2=>TG.gpB fun h3=>?_
 ·obtain⟨x,tp,rfl⟩:=xH ht
  refine qP (P:=fun (y:Pg (Unit × St))=>TG Γ (VF Γ.w) H F st (y.bind fun r=>.ok (.next,r.2)) (exec (.Assign [.Tuple ts x tp] e p) F.env)) (fun es he=>?_) fun he=>TG.gpB fun h1=>?_
  ·obtain⟨y,ep,rfl⟩:=xH he
   exact IF B.k (hE H) hF
  ·exact AP B.k (hE H) hF (gV h1) (P4 he) rfl
 ·cases hc:kK e with
  | false=>exact AP B.k (hE H) hF hc (P8 ht (gV h1)) h2
  | true =>
   rw[hc]at h3
   cases e with
   | ListComp elt gens sc pos=>exact Ha (elt:=elt) (gens:=gens) (sc:=sc) (pos:=pos) B.k hE (fun H=>sT B.k B.zip hC 39 H) hF h3
   | SetComp=>exact fun c s Q E o R g=>g.stuck
   | DictComp=>exact fun c s Q E o R g=>g.stuck
   | _=>exact nk6 hc
theorem I0 (B:iY Γ.w Γ.K Γ.T) (hC:fH Γ.w Γ.K Γ.T Γ.n Γ.C) (hX:∀ H,xA Γ H xh) (H:PM):xA Γ H (C0 Γ.T xh):=by
 have hE:∀ H,cA Γ H (E0 Γ.T):=fun H=>sT B.k B.zip hC 40 H
 intro F cx a st hF
 have no:∀ m,TG Γ (VF Γ.w) H F st (.stuck:Pg (Fl × St)) m:=fun m c s Q E o R g=>g.stuck
 cases a with
 | Expr=>exact IO (hE H) hF
 | Break=>exact fun c s Q E o R g=>by rw[arm_exec_Break];exact wpAny_bind (wpAny_standAt (wpAny_pure (g.done R (rfl:VF Γ.w c .brk .brk))))
 | Continue=>exact fun c s Q E o R g=>by rw[arm_exec_Continue];exact wpAny_bind (wpAny_standAt (wpAny_pure (g.done R (rfl:VF Γ.w c .cont .cont))))
 | Return=>exact KZ (hE H) hF
 | Assign ts e p=>exact TG.opt fun t ht=>by rw[eA ht];exact D2 B hC hF
 | AugAssign t op e p =>
  refine TG.oe (fun n hn=>?_) fun _=>TG.opt fun q hq=>?_
  ·obtain⟨_,rfl⟩:=d4 hn;exact IN B.k (hE H) hF
  ·rw[rQ hq];exact Ik B.k (hE H) hF
 | If=>exact Mq (hE H) (hX H) hF
 | While t b o p=>exact TG.gp fun h=>by rw[bN h];exact E4 (hE H) (hX H) hF
 | For t it b o p =>
  refine TG.gp fun h=>TG.opt fun n hn=>?_
  obtain⟨_,rfl⟩:=d4 hn
  rw[bN h];exact Lv B.k (hE H) hX hF
 | Raise e c p =>
  cases c with
  | some=>exact no _
  | none=>exact TG.opt fun x hx=>by rw[hx];exact E7 B (hE H) hF
 | _=>exact no _
theorem Cj (B:iY Γ.w Γ.K Γ.T) (hC:fH Γ.w Γ.K Γ.T Γ.n Γ.C) (k:Nat):∀ H:PM,xA Γ H (ex Γ.T k):=by
 induction k with
 | zero=>exact fun H F cx a st hF c s Q E o R g=>g.stuck
 | succ k ih=>exact I0 B hC ih
end
end Mine
end
section
namespace Mine
theorem De {α:Type}{x p:Str}{a:α}{l:List (Str × α)}{u:Option α}{P:Prop} (e:lk x (l++[(p,a)])=u) (h1:∀ y,lk x l=some y→some y=u→P) (h2:lk x l=none→x=p→some a=u→P) (h3:lk x l=none→x ≠ p→none=u→P):P:=by
 induction l with
 | nil=>exact zO e (h2 rfl) fun z e=>h3 rfl z e
 | cons q r ih=>exact zO e (fun z e=>h1 q.2 (mH z) e) fun z e=>ih e (fun y k=>h1 y ((iO z).trans k)) (fun k=>h2 ((iO z).trans k)) fun k=>h3 ((iO z).trans k)
section
variable {w:World}{c:Cf}
noncomputable def BI (w:World) (c:Cf) (P:Str→Prop) (m:Str→Option Value) (v:List (Str × PV)):Prop:=∀ x u,lk x v=some u→mO u=true∧P x∧∃ y,m x=some y∧aH w c y u
theorem BI.ext {P:Str→Prop}{m:Str→Option Value}{v:List (Str × PV)} (h:BI w c P m v) {p:Str}{u:PV}{y:Value} (n:lk p v=none) (hl:mO u=true) (hp:P p) (pu:aH w c y u):BI w c P (fun x=>if x=p then some y else m x) (v++[(p,u)]):=fun x u' e =>
 De e (fun z k e=>(h x z k).imp (fun q=>Option.some.inj e ▸ q) fun q=>q.imp id fun q=>q.imp fun y q=>⟨(if_neg fun z=>nk3 (n.symm.trans (z ▸ k))).trans q.1,Option.some.inj e ▸ q.2⟩) (fun _ z e=>⟨Option.some.inj e ▸ hl,z ▸ hp,y,if_pos z,Option.some.inj e ▸ pu⟩) fun _ _ e=>nk3 e
theorem F7 {sc:Scope}{kf:Str→Option NameKind} (hkf:∀ x k,kindOf sc x=some k→kf x=some k) {ps:List Str}:∀ {ws:List PV}{vals:List Value}{v c₀:List (Str × PV)}{r:List (Str × PV) × List (Str × PV)}{m cm:Str→Option Value},aX w c vals ws→ps.Nodup→(∀ x ∈ ps,lk x v=none∧lk x c₀=none) →
  BI w c (fun _=>True) m v→BI w c (fun x=>kindOf sc x=some .cell) cm c₀→Ba sc ps ws v c₀=some r →
  vals.length=ps.length∧BI w c (fun _=>True) (bindL kf (ps.zip vals) m) r.1∧BI w c (fun x=>kindOf sc x=some .cell) (bindC kf (ps.zip vals) cm) r.2∧∀ x ∈ ps,kindOf sc x=some .local∨kindOf sc x=some .cell:=by
 induction ps with
 | nil =>
  intro ws vals v c₀ r m cm p _ _ hv hc e
  refine aD e fun hn e=>?_
  obtain rfl:vals=[]:=aX.c0 (bN hn ▸ p)
  rw[← Option.some.inj e]
  exact⟨rfl,hv,hc,iJ⟩
 | cons p ps ih =>
  intro ws vals v c₀ r m cm pw nd hn hv hc e
  cases ws with
  | nil=>exact nk3 e
  | cons w' ws =>
   obtain⟨val,vals,rfl,pw,pr⟩:=pw.cI
   obtain⟨n1,n2⟩:=List.nodup_cons.mp nd
   refine aD e fun hl e=>ob e fun k hk e=>?_
   have hn':=fun x hx=>hn x (List.mem_cons_of_mem p hx)
   have np:=hn p List.mem_cons_self
   have nx:∀ {l:List (Str × PV)}{x:Str},x ∈ ps→lk x l=none→lk x (l++[(p,w')])=none:=fun {l x} hx h=>by
    cases q:lk x (l++[(p,w')]) with
    | none=>rfl
    | some u=>exact De q (fun y k _=>nk3 (h.symm.trans k)) (fun _ z _=>absurd (z ▸ hx) n1) fun _ _ e=>nk3 e
   have fin:∀ {m' cm':Str→Option Value}{v' c':List (Str × PV)},(kindOf sc p=some .local∨kindOf sc p=some .cell)→bindL kf ((p,val)::ps.zip vals) m=bindL kf (ps.zip vals) m'→bindC kf ((p,val)::ps.zip vals) cm=bindC kf (ps.zip vals) cm'→Ba sc ps ws v' c'=some r→(∀ x ∈ ps,lk x v'=none∧lk x c'=none)→BI w c (fun _=>True) m' v'→BI w c (fun x=>kindOf sc x=some .cell) cm' c' →
     (val::vals).length=(p::ps).length∧BI w c (fun _=>True) (bindL kf ((p,val)::ps.zip vals) m) r.1∧BI w c (fun x=>kindOf sc x=some .cell) (bindC kf ((p,val)::ps.zip vals) cm) r.2∧∀ x ∈ p::ps,kindOf sc x=some .local∨kindOf sc x=some .cell:=fun kk e1 e2 e hn hv hc=>by
    obtain⟨i1,i2,i3,i4⟩:=ih pr n2 hn hv hc e
    rw[e1,e2]
    exact⟨congrArg (· + 1) i1,i2,i3,fun x hx=>(List.mem_cons.mp hx).elim (fun z=>z ▸ kk) (i4 x)⟩
   cases k with
   | «local» =>
    have kp:=hkf p _ hk
    exact fin (.inl hk) (by rw[bindL,if_pos kp]) (by rw[bindC,if_pos kp]) e (fun x hx=>⟨nx hx (hn' x hx).1,(hn' x hx).2⟩) (hv.ext np.1 hl trivial pw) hc
   | cell =>
    have kp:¬ kf p=some .local:=by rw[hkf p _ hk];exact nofun
    exact fin (.inr hk) (by rw[bindL,if_neg kp]) (by rw[bindC,if_neg kp]) e (fun x hx=>⟨(hn' x hx).1,nx hx (hn' x hx).2⟩) hv (hc.ext np.2 hl hk pw)
   | _=>exact nk3 e
end
section
variable {w:World}{H:PM}{c:Cf}{st:St}{env env₁:Env}{s s₁:Shared}
open Classical in
noncomputable def gC (cs:List (Str × Addr)) (b:Addr):Option Str:=if h:∃ n,cs.lookup n=some b then some h.choose else none
theorem rD {cs:List (Str × Addr)}{b:Addr}{n:Str} (h:gC cs b=some n):cs.lookup n=some b:=by
 unfold gC at h
 by_cases q:∃ n,cs.lookup n=some b
 ·rw[dif_pos q]at h;rw[← Option.some.inj h];exact q.choose_spec
 ·rw[dif_neg q]at h;exact nk3 h
noncomputable def s9 (c:Cf) (cs:List (Str × Addr)) (b:Addr):Option bZ:=oe (gC cs b) (fun n=>some (.c n)) (lT c b)
theorem wK {cs:List (Str × Addr)} (ap:cs.Pairwise fun x y=>x.2 ≠ y.2) {b:Addr}{n:Str} (e:cs.lookup n=some b):gC cs b=some n:=by
 have q:∃ n,cs.lookup n=some b:=⟨n,e⟩
 unfold gC
 rw[dif_pos q,name_of_addr ap (mem_of_lookup q.choose_spec) (mem_of_lookup e)]
noncomputable def Cf.call (c:Cf) (L C:Addr) (cs:List (Str × Addr)):Cf:=⟨c.B,iP (s9 c cs) C (some .v),c.S,[],false,L::c.fs⟩
theorem aH.nl {L C:Addr}{cs:List (Str × Addr)}{v:Value}{x:PV} (h:mO x=true) (p:aH w c v x):aH w (c.call L C cs) v x:=by
 cases x with
 | loc=>exact nk6 h
 | _=>exact p
theorem Ed {n:Nat}{x:PV} (h:sO n x=true):mO x=true:=by
 cases x with
 | loc=>exact nk6 h
 | _=>rfl
theorem aC.call (R:aC w H env c st s.heap) {mL mC:Str→Option Value} (x:InCallC s env₁.locals mL env₁.cells mC s₁) (hL:env₁.locals=s.heap.objs.size) (ok:mP st.g.length st.g=true) {v c':List (Str × PV)} (hv:BI w c (fun _=>True) mL v)
  (hc:BI w c (fun x=>(env₁.cells.lookup x).isSome=true) mC c'):aC w (PM.mix H (dQ c s.heap)) env₁ (c.call env.locals env₁.locals env₁.cells) ⟨st.g,[],v,c'⟩ s₁.heap:=by
 have nil:∀ {a:Addr},env₁.locals ≤ a→s.heap.get? a=none:=fun {a} l=>by
  cases q:s.heap.get? a with
  | none=>rfl
  | some ob=>exact absurd (Heap.lt_size q) (Nat.not_lt.mpr (hL ▸ l))
 have abv:∀ {n:Str}{a:Addr},env₁.cells.lookup n=some a→env₁.locals < a:=fun e=>x.above _ _ (mem_of_lookup e)
 have owC:∀ {n:Str}{a:Addr},env₁.cells.lookup n=some a→(c.call env.locals env₁.locals env₁.cells).ow a=some (.c n):=fun {n a} e=>by
  refine(eW (f:=s9 c env₁.cells) (Nat.ne_of_gt (abv e))).trans ?_
  show oe (gC env₁.cells a) (fun n=>some (.c n)) (lT c a)=_
  rw[wK x.apart e];rfl
 have owG:∀ {a:Addr}{t:bZ},c.ow a=some t→t.isG=true→(c.call env.locals env₁.locals env₁.cells).ow a=some t:=fun {a t} e z=>by
  obtain⟨o,ho,_⟩:=R.owG e
  refine(eW (f:=s9 c env₁.cells) fun q=>nk3 ((nil (Nat.le_of_eq q.symm)).symm.trans ho)).trans ?_
  show oe (gC env₁.cells a) (fun n=>some (.c n)) (lT c a)=_
  cases q:gC env₁.cells a with
  | none=>exact Cn e z
  | some n=>exact nk3 ((nil (Nat.le_of_lt (abv (rD q)))).symm.trans ho)
 have cof:∀ {n:Str}{a:Addr},env₁.cells.lookup n=some a→∃ o,s₁.heap.get? a=some o∧jI w (c.call env.locals env₁.locals env₁.cells) c' n o:=fun {n a} e=>(x.cell n a e).imp fun o q=>⟨q.1,_,q.2,fun u e=>(hc n u e).2.2.imp fun y p=>⟨p.1,aH.nl (hc n u e).1 p.2⟩⟩
 refine R.enter x.toInCall.keep rfl rfl (fun a t e=>jS (f:=s9 c env₁.cells) e (fun z e=>.inr ?_) fun z e=>?_) ⟨gQ (f:=s9 c env₁.cells),fun y a e=>.inl (owC e),fun y u e=>(hc y u e).2.1,R.ix.gl,fun k sl e=>?_,rfl,fun k a xs e=>nk3 e,fun k C fs e=>nk3 e⟩
 ·obtain⟨o,es,ep,q1,q2,q3,q4⟩:=x.toInCall.ns
  rw[z,← Option.some.inj e]
  exact⟨nil (Nat.le_refl _),o,q1,rfl,es,ep,q2,q3,fun y u e=>(hv y u e).2.2.imp fun y' p=>⟨(q4 y).trans p.1,aH.nl (hv y u e).1 p.2⟩⟩
 ·replace e:oe (gC env₁.cells a) (fun n=>some (bZ.c n)) (lT c a)=some t:=e
  cases q:gC env₁.cells a with
  | some n =>
   rw[q]at e
   have hn:=rD q
   rw[← Option.some.inj e]
   exact .inr ⟨nil (Nat.le_of_lt (abv hn)),(cof hn).imp fun o p=>⟨p.1,hn,p.2⟩⟩
  | none =>
   rw[q]at e
   refine .inl ⟨e,fun o p=>Ew e fun e y=>?_⟩
   cases t with
   | g k=>exact p
   | d k=>exact Exists.imp (fun a' p=>⟨p.1,fun C fs e=>(p.2 C fs e).imp fun es q=>q.imp fun n q=>⟨q.1,iA.map (fun x u hx p=>aH.nl (Ed (rR (tS ok e) x hx)) p) q.2⟩⟩) p
   | _=>exact nk6 y
 ·have q:=R.ix.g k sl e
  cases sl with
  | o a d=>exact⟨owG q.1 rfl,owG q.2 rfl⟩
  | l a=>exact owG q rfl
end
end Mine
end
section
namespace Mine
section
variable {w:World}{H:PM}{c c₂:Cf}{st st₂:St}{env env₂:Env}{h h₂:Heap}
theorem y7 (R:aC w H env c st h) (R₂:aC w (PM.mix H (dQ c h)) env₂ c₂ st₂ h₂) (hb:c.B.le c₂.B) (hs:c.S <+: c₂.S) (hfs:c₂.fs=env.locals::c.fs) {v:Value}{x:PV}{r:PV × List MO} (p:aH w c₂ v x) (e:v3 st.g.length x st₂=some r) :
  yG w H env c { st with g:=r.2 } h₂ fun c'=>aH w c' v r.1 :=
 aD e fun ok e=>ob e fun y hy e=>by
  have hm2:st.g.length ≤ st₂.g.length:=R.ix.gl ▸ R₂.ix.gl ▸ hs.length_le
  rw[← Option.some.inj e]
  have bk:=fun {c₄:Cf}{st₄:St} (R₄:aC w (PM.mix H (dQ c h)) env₂ c₄ st₄ h₂) (l:c₂.le c₄) (e:st₄.g=st₂.g)=>R.back (m:=st.g.length) R₄ (hb.trans l.b) (hs.trans l.s) (l.fs.symm.trans hfs) (Nat.le_refl _) (e ▸ hm2) (e ▸ ok)
  cases x with
  | f z=>have q:=bk R₂ (.refl _) rfl;exact⟨_,q.1,q.2,Option.some.inj hy ▸ p.fI⟩
  | loc k =>
   refine ob hy fun vs hv hy=>?_
   obtain⟨a,rfl,hL⟩:=p.locI
   obtain⟨c₄,l₄,R₄,f₄⟩:=R₂.freezeL (fQ hv) hL
   have q:=bk R₄ l₄ rfl
   exact⟨_,q.1,q.2,Option.some.inj hy ▸ f₄⟩
  | ref k =>
   refine aD hy fun hk hy=>ob hy fun q hq hy=>ob hy fun ys hys hy=>R₂.iE p rfl hq fun a d es n hS b1 b2 b3 b4 b5=>?_
   have hk:st.g.length ≤ k:=Nat.le_of_not_lt fun z=>by rw[show Nat.blt k st.g.length=true from Nat.ble_eq_true_of_le z]at hk;exact nk6 hk
   have q:=bk R₂ (.refl _) rfl
   obtain⟨c₄,l₄,R₄,f₄⟩:=aC.freezeI q.2 b3 b4 (b5.frozen hys) ⟨R₂.owB b1,(PM.mixN (R₂.owH b1)).2,Du hk (.inl b1)⟩ ⟨R₂.owB b2,(PM.mixN (R₂.owH b2)).2,Du hk (.inr b2)⟩
   exact⟨c₄,q.1.trans l₄,R₄,Option.some.inj hy ▸ f₄⟩
noncomputable def OD:Flow→Value
 | .ret v=>v
 | _=>.none
theorem EF (R:aC w H env c st h) (R₂:aC w (PM.mix H (dQ c h)) env₂ c₂ st₂ h₂) (hb:c.B.le c₂.B) (hs:c.S <+: c₂.S) (hfs:c₂.fs=env.locals::c.fs) {ini:Bool}{fl:Flow}{f:Fl}{r:PV × List MO} (p:VF w c₂ fl f) (e:gK ini st.g.length (f,st₂)=some r) :
  yG w H env c { st with g:=r.2 } h₂ fun c'=>aH w c' (OD fl) r.1:=by
 cases f with
 | next =>
  rw[show fl=.next from p]
  exact nQ e (fun _ e=>aD e fun ok e=>by
   have q:=R.back (m:=st₂.g.length) R₂ hb hs hfs (R.ix.gl ▸ R₂.ix.gl ▸ hs.length_le) (Nat.le_refl _) (by rw[List.take_length];exact ok)
   rw[List.take_length]at q
   rw[← Option.some.inj e]
   exact⟨_,q.1,q.2,.none⟩) fun _ e=>y7 R R₂ hb hs hfs .none e
 | ret x =>
  obtain⟨v,rfl,p⟩:=p
  exact aD e fun _ e=>y7 R R₂ hb hs hfs p e
 | _=>exact nk3 e
end
section
variable {w:World}{K:Frag}{T:bP}{X:zY}{C C':bW}{n n':Nat}{H:PM}{F:Fr}{c:Cf}{s:Shared}{st:St}{h:Heap}{env₁:Env}
theorem Ok.inHeap (o:Ok ⟨w,K,T,X,C,n⟩ H F c) (R:aC w H F.env c st h) {a:Addr}{ob:Obj} (q:X.base.get? a=some ob):h.get? a=some ob:=(o.base a ob q).elim (R.b a ob) fun q=>(R.hh a ob q.1).is q.2
theorem Ok.call (o:Ok ⟨w,K,T,X,C',n'⟩ H F c) (R:aC w H F.env c st h) {A:Around}{cs:List (Str × Addr)} (hk:env₁.scope.kind=.function) {L:Addr} (hf:env₁.frame=some L) (hl:env₁.locals=L) (hn:h.get? L=none) :
  Ok ⟨w,K,T,X,C,n⟩ (PM.mix H (dQ c h)) ⟨A,env₁,env₁,F.fenv::F.outer,false⟩ (c.call F.env.locals env₁.locals cs):=by
 have q:=Ok.comp (C:=L) (cenv:=env₁) o R
 refine⟨rfl,q.k,q.base,q.h0,fun e he=>(List.mem_cons.mp he).elim (fun z=>z ▸ ⟨o.fkind,o.fframe.imp fun L y=>y.2.2.elim (fun z=>(q.fsD _ List.mem_cons_self).imp fun ob b=>⟨y.1,y.2.1,z ▸ b.1,z ▸ List.mem_cons_self,b.2⟩) fun b=>b.imp fun ob b=>⟨y.1,y.2.1,PM.mix_l R.hid_apart b.1,List.mem_cons_of_mem _ b.2.1,b.2.2⟩⟩) (q.outer e),?_,⟨L,hf,?_,.inl hl.symm⟩,q.fsD⟩
 ·show env₁.scope.kind ≠ _;rw[hk];exact nofun
 ·cases q:X.base.get? L with
  | none=>rfl
  | some ob=>exact nk3 (hn.symm.trans (o.inHeap R q))
theorem Up.cg {e:Value} (u:Up ⟨w,K,T,X,C,n⟩ F e h):Up ⟨w,K,T,X,C',n'⟩ F e h:=⟨u.is,u.stays,u.frames,u.keep⟩
noncomputable def Kn (w:World) (K:Frag) (T:bP) (C:bW) (m n:Nat):Prop :=
 ∀ {A:Around}{X:zY}{H:PM}{F:Fr}{st:St}{a:Nat}{vs:List Value}{ws:List PV}{c:Cf}{s:Shared}{Q:Value→Shared→Prop}{E:Value→Shared→Prop}{q:FI × List (Str × PV) × List (Str × PV)}{p:Expr × Str}{C':bW}{x:Pg (PV × St)},A.frames=some (F.fenv::F.outer)→A.handled=none→A.depth + 3 * (n + 1) + 4 ≤ recursionLimit→A.units + 8 * (n + 1) + 36 ≤ cLine →
  Ok ⟨w,K,T,X,C',n + 1⟩ H F c→aC w H F.env c st s.heap→aX w c vs ws→i0 T a ws st.g=some q→cW q.1.body=some p→(aN C' x=(AY T C ⟨a,q.1.sc,m⟩ p.1 p.2 st.g q.2.1 q.2.2).bind fun q=>.ok (q.1,{ st with g:=q.2 })) →
  aG ⟨w,K,T,X,C',n + 1⟩ (aH w) H F x c s Q E→codeAny (model pw w) A (.call (.ref a) ⟨vs,[]⟩) (Bo Q E) s
abbrev Ja (A:Around) (l:List Env) (env₁:Env):Fr:=⟨A.deeper env₁,env₁,env₁,l,false⟩
theorem oC (B:iY w K T) {m a:Nat}{A:Around}{vs:List Value}{ws:List PV}{q:FI × List (Str × PV) × List (Str × PV)}{R':Result→Shared→Prop}{fl:List Env}{g:List MO} (hfr:A.frames=some fl) (hh:A.handled=none) (hd:A.depth + 3 * (n + 1) + 4 ≤ recursionLimit) (hu:A.units + 8 * (n + 1) + 36 ≤ cLine)
  (KI:K.In s.heap) (ps:aX w c vs ws) (hq:i0 T a ws g=some q) (go:∀ (fd:FuncData) env₁ s₁ mL mC,env₁=callEnvC fd s.heap.objs.size a→aV ⟨w,K,T,X,C,n⟩ (Ja A fl env₁) ⟨a,q.1.sc,m⟩→InCallC s env₁.locals mL env₁.cells mC s₁→mP g.length g=true→BI w c (fun _=>True) mL q.2.1→BI w c (fun x=>(env₁.cells.lookup x).isSome=true) mC q.2.2→aS s s₁ →
   wpAny (model pw w) (A.deeper env₁) (execs q.1.body env₁) (fun f s₂=>R' (.ok (.ret (OD f))) s₂) (fun e s₂=>wpAny (model pw w) (A.deeper env₁) («leaving» env₁ e) (fun _ s₃=>R' (.error e) s₃) (fun e' s₃=>R' (.error e') s₃) s₂) s₁):codeAny (model pw w) A (.call (.ref a) ⟨vs,[]⟩) R' s:=by
 refine ob hq fun p h1 hq=>ob hq fun fi h2 hq=>aD hq fun h3 hq=>ob hq fun vc h4 hq=>?_
 rw[← Option.some.inj hq]at go
 cases B.k.fnI a p fi h1 h2 with | mk ob fd k1 k2 k3 k4 k5 k6 k7 k8 k9 wY GH Gj k13 =>
 have hkf:∀ x k,kindOf fi.sc x=some k→(callEnvC fd s.heap.objs.size a).kindOf x=some k:=fun x k e=>by
  show fd.scope.names.lookup x=some k
  rw[k4];exact dT e
 obtain⟨lv,b1,b2,b3⟩:=F7 hkf (m:=fun _=>none) (cm:=fun _=>none) ps k13 (fun _ _=>⟨rfl,rfl⟩) (fun _ _=>nk3) (fun _ _=>nk3) h4
 have hcells:∀ x,kindOf fi.sc x=some .cell→((cellsFrom (s.heap.objs.size + 1) fd.scope.names []).lookup x).isSome=true:=fun x e=>by
  rw[k4];exact cellsFrom_some _ _ _ (.inl (dT e))
 have hk:fd.scope.kind=.function:=k4 ▸ GH
 have hd':A.depth + 1 + 3 * n + 6 ≤ recursionLimit:=by omega
 refine codeAny_call_cells (by omega) (KI _ _ k1) k2 (B.k.nolim _ KI) (codeRec_of KI k8) k3 (Gj vs lv) k5 (fun x hx=>?_) (fun s₁ ic=>?_) (by rw[k4];exact k9) (by rw[k4];exact wY) hk
 ·exact(b3 x.1 (List.of_mem_zip hx).1).imp (fun q=>by rw[k4];exact dT q) fun q=>⟨by rw[k4];exact dT q,hcells _ q⟩
 have zz:aS s s₁:=by obtain⟨h',tk,rfl,_⟩:=ic.done;exact⟨rfl,rfl⟩
 exact go fd _ s₁ _ _ rfl ⟨hk,fun x k e _=>hkf x k e,fun x e=>.inl (hkf x _ e),fun x e=>⟨rfl,hcells x e⟩,k6,k7,hh,Around.frames_deeper hfr,rfl,hd',by show A.units + 3 + 8 * n + 40 ≤ _;omega⟩ ic h3 b1 (fun x u e=>⟨(b2 x u e).1,hcells x (b2 x u e).2.1,(b2 x u e).2.2⟩) zz
theorem P6 {α γ:Type}{y:Option α}{a:α}{f:α→γ}{n:γ} (h:y=some a):Mine.oe y f n=f a:=by rw[h];rfl
theorem Ke {α γ:Type}{y:Option α}{f:α→γ}{n:γ} (h:y=none):Mine.oe y f n=n:=by rw[h];rfl
theorem DD (B:iY w K T) {m:Nat} (hC:fH w K T n C) (hT:Kn w K T C m n):fH w K T (n + 1) (cG T C m):=by
 intro A X H F st m' a vs ws c s Q E hfr hh hd hu o R ps g
 have e0:aN (cG T C m) (qC m' a ws st.g fun q=>.ok (q.1,{ st with g:=q.2 }))=((eJ (i0 T a ws st.g)).bind fun q=>Mine.oe (cW q.1.body) (fun p=>AY T C ⟨a,q.1.sc,m⟩ p.1 p.2 st.g q.2.1 q.2.2) (aN C (iC T m a st.g q))).bind fun q=>.ok (q.1,{ st with g:=q.2 }):=rfl
 cases h0:i0 T a ws st.g with
 | none=>exact absurd (e0.trans (by rw[h0];rfl)) g.go
 | some q =>
  rw[h0]at e0
  cases h1:cW q.1.body with
  | some p=>exact hT hfr hh hd hu o R ps h0 h1 (e0.trans (congrArg (fun z=>O.bind z _) (P6 h1))) g
  | none =>
   have e0:=e0.trans (congrArg (fun z=>O.bind z _) (Ke h1))
   refine oC (C:=C) (m:=m) (X:=X) B hfr hh hd hu (o.kin R) ps h0 fun fd env₁ s₁ mL mC he hF₁ ic h3 b1 b2 zz=>mZ (Cj B hC 30 _) hF₁ q.1.body ⟨st.g,[],q.2.1,q.2.2⟩ _ s₁ _ _ (o.call R hF₁.kind (L:=s.heap.objs.size) (by rw[he];rfl) (by rw[he];rfl) (get?_size _)) (R.call ic (by rw[he];rfl) h3 b1 b2) ⟨fun f st₂ ef c₂ fl s₂ l₂ R₂ vf z₂=>?_,fun er ev s₂ u z₂=>?_,fun es=>?_⟩
   ·have e0:=e0.trans (by rw[iC,aZ,ef])
    cases ha:gK (d5 a T.inits) st.g.length (f,st₂) with
    | none=>exact absurd (e0.trans (by show(aN C (opt (gK (d5 a T.inits) st.g.length (f,st₂)) .ok)).bind _=_;rw[ha];rfl)) g.go
    | some r =>
     obtain⟨c₃,l₃,R₃,p₃⟩:=EF R R₂ l₂.b l₂.s l₂.fs.symm vf ha
     exact g.ok r.1 { st with g:=r.2 } (e0.trans (by show(aN C (opt (gK (d5 a T.inits) st.g.length (f,st₂)) .ok)).bind _=_;rw[ha];rfl)) c₃ _ s₂ l₃ R₃ p₃ (zz.trans z₂)
   ·exact FY (F₀:=F) hF₁.frames rfl rfl (o.fframe.imp fun L q=>q.1) u fun s₃ u₃ z₃=>g.raise (e0.trans (by rw[iC,aZ,er];rfl)) ev s₃ u₃.cg ((zz.trans z₂).trans z₃)
   ·exact g.go (e0.trans (by rw[iC,aZ,es];rfl))
end
end Mine
end
section
namespace Mine
noncomputable def BC (c:Cf) (h:Heap):PM:=fun a=>(c.ow a).bind fun _=>h.get? a
theorem AF {c:Cf}{h:Heap}{a:Addr}{t:bZ} (q:c.ow a=some t):BC c h a=h.get? a:=by show(c.ow a).bind _=_;rw[q];rfl
noncomputable def bZ.isVC (t:bZ):Bool:=@bZ.rec (fun _=>Bool) true (fun _=>true) (fun _=>false) (fun _=>false) (fun _=>false) t
noncomputable def mG (c:Cf) (h:Heap):PM:=fun a=>(c.ow a).bind fun t=>gd (!t.isVC) (h.get? a)
noncomputable def Cf.vc (c:Cf):Cf:={ c with ow:=fun a=>(c.ow a).bind fun t=>gd t.isVC (some t),S:=[],L:=[] }
theorem PM.mix_f {H P:PM}{a:Addr} (h:P a=none):PM.mix H P a=H a:=by unfold PM.mix;rw[h];rfl
section
variable {w:World}{H:PM}{c:Cf}{st:St}{env:Env}{h h₂:Heap}
theorem aC.all_apart (R:aC w H env c st h):PM.apart H (BC c h):=fun a o e=>ob (x:=c.ow a) e fun t q _=>R.owH q
theorem aC.stay (R:aC w H env c st h) {B':PM} (hb:c.B.le B') (hB:∀ a o,B' a=some o→h₂.get? a=some o) (hBh:∀ a o,B' a=some o→H a=none∧c.ow a=none)
  (hk:∀ a o,PM.mix H (BC c h) a=some o→oJ (env.locals::c.fs) h₂ a o):c.le { c with B:=B' }∧aC w H env { c with B:=B' } st h₂:=by
 have l:c.le { c with B:=B' }:=⟨hb,List.prefix_refl _,List.prefix_refl _,rfl,rfl⟩
 refine⟨l,hB,fun a o e=>(hBh a o e).1,fun a o e=>(hk a o (PM.mix_l R.all_apart e)).imp id fun q=>⟨(List.mem_cons.mp q.1).elim (fun m=>nk3 ((R.owH R.ix.loc).symm.trans (m ▸ e))) id,q.2⟩,R.fsH,fun a t e=>⟨?_,R.owH e,?_⟩,R.ix.loc,fun x a e=>(R.ix.cel x a e).imp id fun q=>⟨q.1,q.2.imp fun o q=>⟨q.1,q.2.mono l⟩⟩,R.ix.celd,R.ix.gl,R.ix.g,R.ix.ll,R.ix.l,R.ix.nol⟩
 ·cases q:B' a with
  | none=>exact q
  | some o=>exact nk3 ((hBh a o q).2.symm.trans e)
 ·obtain⟨o,e1,p⟩:=R.owG e
  have hi:=hk a o (PM.mix_r ((AF e).trans e1))
  by_cases z:a=env.locals
  ·rw[z,R.ix.loc]at e
   obtain⟨sl,q⟩:=hi.slots
   exact⟨_,q,Own.keep (o':={ o with slots:=sl }) (g:=st.g) p l (by rw[← Option.some.inj e];rfl) rfl fun k tk=>by rw[tk]at e;cases e⟩
  ·exact⟨o,hi.is fun m=>(List.mem_cons.mp m).elim z (R.noFs (R.owH e)),p.mono l⟩
theorem wB {a:Addr}{t:bZ} (q:c.ow a=some t):c.vc.ow a=gd t.isVC (some t):=by show(c.ow a).bind _=_;rw[q];rfl
theorem aC.drop (R:aC w H env c st h):PM.apart H (mG c h)∧aC w (PM.mix H (mG c h)) env c.vc ⟨[],[],[],[]⟩ h ∧
  ∀ a o,PM.mix H (BC c h) a=some o→PM.mix (PM.mix H (mG c h)) (dQ c.vc h) a=some o:=by
 have ap:PM.apart H (mG c h):=fun a o e=>ob (x:=c.ow a) e fun t q _=>R.owH q
 have cof:∀ {x:Str}{o:Obj},jI w c st.c x o→jI w c.vc [] x o:=fun q=>q.imp fun v₀ q=>⟨q.1,fun u e=>nk3 e⟩
 refine⟨ap,⟨R.b,fun a o e=>PM.mixN' (fun o' q=>ob (x:=c.ow a) q fun t q _=>nk3 ((R.owB q).symm.trans e)) (R.bh a o e),fun a o e=>PM.mixE e (fun o' q e=>ob (x:=c.ow a) q fun t _ q=>aD q fun _ q=>.inl (Option.some.inj e ▸ q)) fun _ e=>R.hh a o e,fun a e=>Option.isSome_iff_exists.mpr ((Option.isSome_iff_exists.mp (R.fsH a e)).imp fun o q=>PM.mix_l ap q),fun a t e=>ob (x:=c.ow a) e fun t' q e=>aD e fun y e=>⟨R.owB q,PM.mixN' (fun o q'=>ob (x:=c.ow a) q' fun t₂ q₂ e=>aD e fun y₂ _=>by rw[← Option.some.inj (q.symm.trans q₂),y]at y₂;exact nk6 y₂) (R.owH q),?_⟩,
  (wB R.ix.loc),fun x a e=>(R.ix.cel x a e).imp (fun q=>wB q) fun q=>⟨q.1,q.2.imp fun o q=>⟨PM.mix_l ap q.1,cof q.2⟩⟩,fun x u e=>nk3 e,rfl,fun k sl e=>nk3 e,rfl,fun k a xs e=>nk3 e,fun k C fs e=>nk3 e⟩,fun a o e=>PM.mixE e (fun o' q e=>ob (x:=c.ow a) q fun t q ho=>?_) fun q e=>?_⟩
 ·obtain⟨o,e1,p⟩:=R.owG q
  refine⟨o,e1,?_⟩
  rw[← Option.some.inj e]
  cases t' with
  | v=>exact⟨p.1,p.2.imp fun es p=>p.imp fun ep p=>⟨p.1,p.2.1,fun x u e=>nk3 e⟩⟩
  | c x=>exact⟨p.1,cof p.2⟩
  | _=>exact nk6 y
 ·have ho:=ho.trans e
  cases z:t.isVC with
  | true=>exact PM.mix_r ((kC ((wB q).trans (by rw[z];rfl)) (by cases t<;>first | rfl | exact nk6 z)).trans ho)
  | false =>
   rw[PM.mix_f (by show(c.vc.ow a).bind _=none;rw[wB q,z];rfl)]
   refine PM.mix_r ?_
   show(c.ow a).bind _=_
   rw[q]
   show gd (!t.isVC) _=_
   rw[z];exact ho
 ·have n:c.ow a=none:=by
   cases y:c.ow a with
   | none=>rfl
   | some t=>exact nk3 ((R.owH y).symm.trans e)
  rw[PM.mix_f (by show((c.ow a).bind _).bind _=none;rw[n];rfl)]
  exact PM.mix_l ap e
end
open Classical in
noncomputable def stays (B H:PM) (fs:List Addr) (a:Addr):Bool:=decide ((∃ o,B a=some o)∨∃ o,H a=some o∧a ∉ fs)
noncomputable def d9 (h:Heap) (B H:PM) (fs:List Addr):Heap:=hideAll h ((List.range h.objs.size).filter fun a=>!stays B H fs a)
open Classical in
theorem gL {h:Heap}{B H:PM}{fs:List Addr}{a:Addr}{o:Obj} (e:(d9 h B H fs).get? a=some o):h.get? a=some o∧((∃ o,B a=some o)∨∃ o,H a=some o∧a ∉ fs):=by
 have q:=of_hideAll _ e
 refine⟨q,?_⟩
 cases z:stays B H fs a with
 | true=>exact of_decide_eq_true z
 | false=>exact nk3 ((hideAll_none (h:=h) _ (List.mem_filter.mpr ⟨List.mem_range.mpr (Heap.lt_size q),by rw[z];rfl⟩)).symm.trans e)
open Classical in
theorem tG {h:Heap}{B H:PM}{fs:List Addr}{a:Addr}{o:Obj} (e:h.get? a=some o) (q:(∃ o,B a=some o)∨∃ o,H a=some o∧a ∉ fs):(d9 h B H fs).get? a=some o :=
 hideAll_get _ e fun m=>by
  have z:=(List.mem_filter.mp m).2
  rw[show stays B H fs a=true from decide_eq_true q]at z
  exact nk6 z
open Classical in
noncomputable def uI (H:PM) (fs:List Addr):PM:=fun a=>if a ∈ fs then H a else none
theorem IP {H:PM}{fs:List Addr}{a:Addr} (h:a ∈ fs):uI H fs a=H a:=if_pos h
theorem Jp {H:PM}{fs:List Addr}{a:Addr}{o:Obj} (e:uI H fs a=some o):H a=some o:=by
 unfold uI at e
 by_cases h:a ∈ fs
 ·rw[if_pos h]at e;exact e
 ·rw[if_neg h]at e;exact nk3 e
end Mine
end
section
namespace Mine
theorem Do {s:Stmt}{q:List Stmt × List ExceptHandler × List Stmt × List Stmt} (h:GB s=some q):∃ p,s=.Try q.1 q.2.1 q.2.2.1 q.2.2.2 p:=by
 cases s with
 | Try b x o f p=>exact⟨p,by rw[← Option.some.inj h]⟩
 | _=>exact nk3 h
theorem Cw {s:Stmt}{e:Expr} (h:Gi s=some e):∃ p,s=.Return (some e) p:=by
 cases s with
 | Return v p=>exact⟨p,by rw[← show v=some e from h]⟩
 | _=>exact nk3 h
theorem vA {l:List Stmt}{e:Expr} (h:B8 l=some e):∃ p,l=[.Return (some e) p] :=
 ob h fun s h1 h=>(Cw h).imp fun p q=>by rw[eA h1,q]
theorem BZ {l:List Stmt} (h:Dc l=true):∃ k p q,l=[.Return (some (.Constant .none k p)) q]:=by
 obtain⟨u,hu,h⟩:=mD h
 obtain⟨c,hc,h⟩:=mD h
 obtain⟨k,p,e⟩:=yA hc
 obtain⟨q,e2⟩:=vA hu
 refine⟨k,p,q,?_⟩
 rw[e2,e]
 cases c with
 | none=>rfl
 | _=>exact nk6 h
theorem Hr {h:ExceptHandler}{n:Str} (e:OU h=some n):∃ p2 k p3 p4 p5,h=.ExceptHandler (some (.Name n p2)) none [.Return (some (.Constant .none k p3)) p4] p5:=by
 obtain⟨ty,nm,bd,p5⟩:=h
 refine ob (x:=ty) e fun ty h1 e=>aD e fun h2 e=>aD e fun h3 e=>?_
 obtain⟨p2,hn⟩:=d4 e
 obtain⟨k,p,q,hb⟩:=BZ h3
 exact⟨p2,k,p,q,p5,by rw[h1,hn,show nm=none from Option.isNone_iff_eq_none.mp h2,show bd=_ from hb]⟩
theorem yT {b:List Stmt}{r:Expr × Str} (h:cW b=some r) {P:Prop} (k:∀ p1 p2 k p3 p4 p5 p6,b=[.Try [.Return (some r.1) p1] [.ExceptHandler (some (.Name r.2 p2)) none [.Return (some (.Constant .none k p3)) p4] p5] [] [] p6]→P):P :=
 ob h fun s h1 h=>ob h fun q h2 h=>ob h fun e h3 h=>ob h fun x h4 h=>ob h fun n h5 h=>aD h fun h6 h=>aD h fun h7 h=>by
  obtain⟨p6,e2⟩:=Do h2
  obtain⟨p1,e3⟩:=vA h3
  obtain⟨p2,kk,p3,p4,p5,e5⟩:=Hr h5
  exact k p1 p2 kk p3 p4 p5 p6 (by rw[eA h1,e2,e3,eA h4,e5,bN h6,bN h7,← Option.some.inj h])
theorem K2 {l:List (Str × PV)}{x:Str}{u:PV} (h:sB l=true) (e:lk x l=some u):∃ y,u=.f y:=by
 induction l with
 | nil=>exact nk3 e
 | cons p r ih =>
  obtain⟨y,hy,h⟩:=mD (p:=fun _=>sB r) h
  exact zO e (fun _ e=>⟨y,Option.some.inj e ▸ mT hy⟩) fun _ e=>ih h e
section
variable {w:World}{K:Frag}{T:bP}{X:zY}{C C':bW}{n n':Nat}{H:PM}{F:Fr}{c:Cf}{s:Shared}{st:St}{h:Heap}{env:Env}
theorem Ok.try_ (o:Ok ⟨w,K,T,X,C,n⟩ H F c) (R:aC w H F.env c st h):Ok ⟨w,K,T,⟨d9 h c.B H c.fs,uI H c.fs⟩,C,n⟩ H F c:=by
 have no:∀ {L:Addr},c.B L=none→(∀ o,H L=some o→L ∈ c.fs)→(d9 h c.B H c.fs).get? L=none:=fun {L} b m=>by
  cases z:(d9 h c.B H c.fs).get? L with
  | none=>rfl
  | some o'=>exact(gL z).2.elim (fun y=>y.elim fun o y=>nk3 (b.symm.trans y)) fun y=>y.elim fun o y=>absurd (m o y.1) y.2
 have nB:∀ {L:Addr}{ob:Obj},H L=some ob→c.B L=none:=fun {L ob} a=>by
  cases q:c.B L with
  | none=>rfl
  | some o'=>exact nk3 ((R.bh L o' q).symm.trans a)
 exact⟨o.ro,o.k,fun a ob e=>(gL e).2.imp (fun y=>y.elim fun o' y=>Option.some.inj ((R.b a o' y).symm.trans (gL e).1) ▸ y) fun y=>y.elim fun o' y=>⟨Option.some.inj (((R.hh a o' y.1).is y.2).symm.trans (gL e).1) ▸ y.1,y.2⟩,fun a ob e=>Jp e,
  fun e he=>⟨(o.outer e he).1,(o.outer e he).2.imp fun L q=>q.imp fun ob q=>⟨q.1,no (nB q.2.2.1) fun _ _=>q.2.2.2.1,q.2.2⟩⟩,o.fkind,
  o.fframe.imp fun L q=>⟨q.1,q.2.2.elim (fun z=>by rw[z];exact no (R.owB R.ix.loc) fun o e=>nk3 ((R.owH R.ix.loc).symm.trans e)) fun b=>b.elim fun ob b=>no (nB b.1) fun _ _=>b.2.1,q.2.2⟩,o.fsD⟩
theorem Hq (hK:cS w K T) {cx:Cx} (hF:aV ⟨w,K,T,X,C,n⟩ F cx) {A:Around} (KI:K.In s.heap) {x:Str}{a:Nat} (h:yC T cx x=some a) {pos:Pos}{Q:Value→Shared→Prop}{E:Value→Shared→Prop} (q:Q (.ref a) s):wpAny (model pw w) A (eval (.Name x pos) F.env) Q E s :=
 ob h fun k hk h=>aD h fun hg h=>ob h fun y hy h=>by
  rw[show k=.globalImplicit from beq_iff_eq.mp hg]at hk
  refine wpAny_Name (ks_loadName_global hF.kind (hF.names _ _ hk nofun) (zB (Γ:=⟨w,K,T,X,C,n⟩) hK hF.globals hF.builtins KI hy fun v fv=>?_)) (iX hk).1
  rw[show v=.ref a from(vF h ▸ fv:aO w (fun a=>K.lookup a) v (.top a))];exact q
theorem aV.cg {X':zY}{cx:Cx} (q:aV ⟨w,K,T,X,C,n⟩ F cx):aV ⟨w,K,T,X',C,n⟩ F cx:=⟨q.kind,q.names,q.free,q.cells,q.globals,q.builtins,q.handled,q.frames,q.frame,q.depth,q.units⟩
end
section
variable {w:World}{K:Frag}{s:Shared}
theorem HM {h:Heap}{C:Addr} (KI:K.In h) (q:ktsIn K C "BaseException" = true) {P:Prop} (k:∀ nm qn N bs bm hdct sn sub ab col dd k0 k1 k2 k3 k5 newId,h.get? C=some (excClassObj nm qn C N bs bm hdct sn sub ab col dd k0 k1 k2 k3 k5 newId)→bm.contains (.type "BaseException")=true→P):P:=by
 obtain⟨nm,qn,N,bs,bm,hdct,sn,sub,ab,col,dd,k0,k1,k2,k3,k5,newId,hC,hb,_⟩:=kts_cls KI q
 exact k nm qn N bs bm hdct sn sub ab col dd k0 k1 k2 k3 k5 newId hC hb
theorem J7 {cls ea:Addr}{oe:Obj}{A:Around} (f:ktsIn K cls "BaseException" = true) (KI:K.In s.heap) (he:s.heap.get? ea=some oe) (hc:oe.cls=.ref cls) {Q:Bool→Shared→Prop}{E:Value→Shared→Prop} (q:Q true s):wpAny (model pw w) A (excMatches (.ref ea) (.ref cls)) Q E s :=
 HM KI f fun _ _ _ _ _ _ _ _ _ _ _ _ _ _ _ _ _ hC hb=>wpAny_excMatches_sub_self hC he hc hb q
end
inductive HO (Γ:Gm) (F:Fr) (e:Value) (h:Heap):Prop where
 | mk (ea:Addr) (a0:Value) (oe:Obj) (he:e=.ref ea) (k0:h.get? ea=some oe) (kc:oe.cls=.ref Γ.T.fail) (k1:Γ.X.base.StaysIn h) (k2:h.FunFrames Γ.X.base (F.fenv::F.outer)) (k3:h.TracedW Γ.X.base ea (.ref Γ.T.fail) a0) (k4:∀ a o,Γ.X.H0 a=some o→(∀ vs,o.data ≠ .fields vs)→∃ sl,h.get? a=some { o with slots:=sl }):HO Γ F e h
section
variable {Γ:Gm}{F:Fr}{A:Around}{e:Value}{s:Shared}{Q:Unit→Shared→Prop}{E:Value→Shared→Prop}
theorem DB {ea:Addr}{a0 fl:Value} (k1:Γ.X.base.StaysIn s.heap) (k2:s.heap.FunFrames Γ.X.base (F.fenv::F.outer)) (k3:s.heap.TracedAtW Γ.X.base ea (.ref Γ.T.fail) a0 fl) (k4:∀ a o,Γ.X.H0 a=some o→(∀ vs,o.data ≠ .fields vs)→∃ sl,s.heap.get? a=some { o with slots:=sl }) (q:∀ s',HO Γ F (.ref ea) s'.heap→aS s s'→Q () s'):wpAny (model pw Γ.w) A (setFlight (.ref ea) none) Q E s :=
 wpAny_setFlight_noneW k1 k2 k3 fun h m1 m2 m3 m4=>by
  obtain⟨oe,vs',T',oT,ts,he,⟨hc,h0⟩,_⟩:=id m3
  exact q _ ⟨ea,a0,oe,rfl,he,hc,m1,m2,m3,fun a o e n=>(k4 a o e n).imp fun sl q=>m4 _ _ q n⟩ ⟨rfl,rfl⟩
theorem Ef {env:Env} (hfr:F.A.frames=some (F.fenv::F.outer)) (hf:env.frame=F.fenv.frame) (u:Up Γ F e s.heap) (q:∀ s',HO Γ F e s'.heap→aS s s'→Q () s'):wpAny (model pw Γ.w) F.A (noteFrame e env) (fun _ s₃=>wpAny (model pw Γ.w) F.A (setFlight e none) Q E s₃) E s :=
 t6 hfr hf u fun s₃ u₃ hr z₃=>by
  obtain⟨⟨ea,LF,rfl,hLF,hb,hx⟩,stays,frames,keep⟩:=id u₃
  obtain⟨a0,ta⟩:=(hr ea LF rfl hLF).at_
  exact DB stays frames ta keep fun s' f z=>q s' f (z₃.trans z)
theorem Eb (B:iY Γ.w Γ.K Γ.T) {cx:Cx} (hF:aV Γ F cx) {nm:Str} (f3:yC Γ.T cx nm=some Γ.T.fail) {x:Expr}{p1 p2 p3 p4 p5 p6:Pos}{k:Nat}{Q:Flow→Shared→Prop}{E:Value→Shared→Prop} (KI:∀ h,Γ.X.base.StaysIn h→Γ.K.In h)
  (h:wpAny (model pw Γ.w) F.A (eval x F.env) (fun v s₂=>Q (.ret v) s₂) (fun er s₂=>Up Γ F er s₂.heap∧∀ s₄,HO Γ F er s₄.heap→aS s₂ s₄→Q (.ret .none) s₄) s) :
  wpAny (model pw Γ.w) F.A (execs [.Try [.Return (some x) p1] [.ExceptHandler (some (.Name nm p2)) none [.Return (some (.Constant .none k p3)) p4] p5] [] [] p6] F.env) Q E s:=by
 refine wpAny_execs_cons (wpAny_Try_except (wpAny_execs_cons (wpAny_Return_some (wpAny_mono h (fun v s q=>q) fun er s₂ q=>?_))))
 refine Ef hF.frames hF.frame q.1 fun s₃ f z₃=>?_
 cases f with | mk ea a0 oe he k0 kc k1 k2 k3 k4 =>
 subst he
 refine wpAny_handleBy_cons (codeAny_handlers_test (Hq (s:=s₃) B.k hF (KI _ k1) f3 (J7 B.fcls (KI _ k1) k0 kc (codeAny_handlers_suite (DB k1 k2 k3.at k4 fun s₄ f z₄=>?_))))) (fun q=>nomatch q)
 exact wpAny_execs_cons (wpAny_Return_some (wpAny_Constant_none (q.2 s₄ f (z₃.trans z₄))))
end
section
variable {w:World}{K:Frag}{T:bP}{C:bW}{n:Nat}
theorem F1 (B:iY w K T) {m:Nat} (hC:fH w K T n C):Kn w K T C m n:=by
 intro A X H F st a vs ws c s Q E q p C' x hfr hh hd hu o R ps h0 h5 e0 g
 refine yT h5 fun p1 p2 kk p3 p4 p5 p6 hbody=>?_
 replace e0:aN C' x=((eJ (gd (sB q.2.1) (gd (sB q.2.2) ((yC T ⟨a,q.1.sc,m⟩ p.2).bind fun a=>gd (Nat.beq a T.fail) (some ()))))).bind fun _=>Ek st.g (aN C (E0 T ⟨a,q.1.sc,m⟩ p.1 ⟨[],[],q.2.1,q.2.2⟩))).bind fun q=>.ok (q.1,{ st with g:=q.2 }):=e0
 cases hz:gd (sB q.2.1) (gd (sB q.2.2) ((yC T ⟨a,q.1.sc,m⟩ p.2).bind fun a=>gd (Nat.beq a T.fail) (some ()))) with
 | none=>rw[hz]at e0;exact absurd e0 g.go
 | some u =>
 rw[hz]at e0
 replace e0:aN C' x=(Ek st.g (aN C (E0 T ⟨a,q.1.sc,m⟩ p.1 ⟨[],[],q.2.1,q.2.2⟩))).bind fun q=>.ok (q.1,{ st with g:=q.2 }):=e0
 refine aD hz fun f1 hz=>aD hz fun f2 hz=>ob hz fun fa f3 hz=>aD hz fun f4 _=>?_
 obtain⟨ap,R0,hall⟩:=R.drop
 refine oC (C:=C) (m:=m) (X:=X) B hfr hh hd hu (o.kin R) ps h0 fun fd env₁ s₁ mL mC he hF₁ ic h3 b1 b2 zz=>?_
 have thaw:∀ {P:Str→Prop}{m:Str→Option Value}{l:List (Str × PV)},sB l=true→BI w c P m l→BI w c.vc P m l:=fun f b x u e=>⟨(b x u e).1,(b x u e).2.1,(b x u e).2.2.imp fun y q=>⟨q.1,by obtain⟨z,rfl⟩:=K2 f e;exact q.2⟩⟩
 have R₁:=R0.call ic (by rw[he];rfl) rfl (thaw f1 b1) (thaw f2 b2)
 have oh:=o.hide ap
 have o0:Ok ⟨w,K,T,X,C',n + 1⟩ (PM.mix H (mG c s.heap)) F c.vc:=⟨oh.ro,oh.k,oh.base,oh.h0,oh.outer,oh.fkind,oh.fframe,oh.fsD⟩
 have o₁:=(o0.call (A:=A.deeper env₁) (C:=C) (n:=n) (cs:=env₁.cells) R0 hF₁.kind (L:=s.heap.objs.size) (by rw[he];rfl) (by rw[he];rfl) (get?_size _))
 have o₂:=o₁.try_ R₁
 have nB:∀ {a:Addr}{o:Obj},c.B a=some o→H a=none∧c.ow a=none:=fun {a o} e=>⟨R.bh a o e,by
  cases q:c.ow a with
  | none=>rfl
  | some t=>exact nk3 ((R.owB q).symm.trans e)⟩
 have mS:∀ {a ob},c.B a=some ob→(d9 s₁.heap (c.vc.call F.env.locals env₁.locals env₁.cells).B (PM.mix (PM.mix H (mG c s.heap)) (dQ c.vc s.heap)) (c.vc.call F.env.locals env₁.locals env₁.cells).fs).get? a=some ob:=fun e=>tG (R₁.b _ _ e) (.inl ⟨_,e⟩)
 rw[hbody]
 refine Eb (Γ:=⟨w,K,T,⟨d9 s₁.heap (c.vc.call F.env.locals env₁.locals env₁.cells).B (PM.mix (PM.mix H (mG c s.heap)) (dQ c.vc s.heap)) (c.vc.call F.env.locals env₁.locals env₁.cells).fs,uI (PM.mix (PM.mix H (mG c s.heap)) (dQ c.vc s.heap)) (c.vc.call F.env.locals env₁.locals env₁.cells).fs⟩,C,n⟩) B hF₁.cg (f3.trans (congrArg some (Nat.eq_of_beq_eq_true f4))) (fun h k1 a ob e=>k1 _ _ (mS (o.k a ob e))) ?_
 refine sT (Γ:=⟨w,K,T,⟨d9 s₁.heap (c.vc.call F.env.locals env₁.locals env₁.cells).B (PM.mix (PM.mix H (mG c s.heap)) (dQ c.vc s.heap)) (c.vc.call F.env.locals env₁.locals env₁.cells).fs,uI (PM.mix (PM.mix H (mG c s.heap)) (dQ c.vc s.heap)) (c.vc.call F.env.locals env₁.locals env₁.cells).fs⟩,C,n⟩) B.k B.zip hC 40 _ (Ja A (F.fenv::F.outer) env₁) ⟨a,q.1.sc,m⟩ p.1 ⟨[],[],q.2.1,q.2.2⟩ hF₁.cg _ s₁ _ _ o₂ R₁ ⟨fun b st₂ er c₂ y s₂ l₂ R₂ p₂ z₂=>?_,fun er ev s₂ u z₂=>?_,fun er=>?_⟩
 ·rw[show aN C (E0 T ⟨a,q.1.sc,m⟩ p.1 ⟨[],[],q.2.1,q.2.2⟩)=.ok (b,st₂) from er]at e0
  cases b with
  | f z =>
   obtain⟨l₃,R₃⟩:=R.stay (h₂:=s₂.heap) (B':=c₂.B) l₂.b R₂.b (fun a o e=>by
    have z:=PM.mixN (R₂.bh a o e)
    refine⟨(PM.mixN z.2).2,?_⟩
    cases q:c.ow a with
    | none=>rfl
    | some t=>exact(R.owG q).elim fun ob y=>nk3 ((R₂.bh a o e).symm.trans (hall a ob (PM.mix_r ((AF q).trans y.1))))) fun a o e=>by have q:=R₂.hh a o (hall a o e);rw[← l₂.fs]at q;exact q
   exact g.ok (.f z) st e0 _ y s₂ l₃ R₃ p₂ (zz.trans z₂)
  | _=>exact absurd e0 g.go
 ·rw[show aN C (E0 T ⟨a,q.1.sc,m⟩ p.1 ⟨[],[],q.2.1,q.2.2⟩)=.raise from er]at e0
  refine⟨u,fun s₄ f z₄=>?_⟩
  cases f with | mk ea a0 oe he k0 kc k1 k2 k3 k4 =>
  obtain⟨l₃,R₃⟩:=R.stay (h₂:=s₄.heap) (B':=c.B) (.refl _) (fun a o e=>k1 _ _ (mS e)) (fun a o e=>nB e) fun a o e=>by
   have q:=hall a o e
   by_cases m:a ∈ F.env.locals::c.fs
   ·obtain⟨o',q1,q2⟩:=o₁.fsD a m
    obtain rfl:=Option.some.inj (q.symm.trans q1)
    exact .inr ⟨m,k4 a o ((IP m).trans q) q2⟩
   ·exact .inl (k1 _ _ (tG ((R₁.hh a o q).is m) (.inr ⟨_,q,m⟩)))
  exact g.ok (.f .none) st e0 _ .none s₄ l₃ R₃ .none ((zz.trans z₂).trans z₄)
 ·exact g.go (by rw[show aN C (E0 T ⟨a,q.1.sc,m⟩ p.1 ⟨[],[],q.2.1,q.2.2⟩)=.stuck from er]at e0;exact e0)
theorem J2 (B:iY w K T) (m:Nat) (n:Nat):fH w K T n (run T m n):=by
 induction n with
 | zero=>exact fun A X H F st _ a vs ws c s Q E hfr hh hd hu o R ps g=>absurd rfl g.go
 | succ n ih=>exact DD B ih (F1 B ih)
end
end Mine
end
section
namespace Mine
section
variable {w:World}{K:Frag}{T:bP}
theorem vM {M:Model}{A:Around}{E:Value→Shared→Prop}{s:Shared}{e:Addr}{oe:Obj}{vs:Array Value}{Q:Unit→Shared→Prop} (he:s.heap.get? e=some oe) (hd:oe.data=.fields vs) (h1:vs[1]? = some .none) (q:Q () s):wpAny M A (setFlight (.ref e) none) Q E s:=by
 unfold setFlight
 refine wpAny_bind (wpAny_field he hd h1 ?_)
 rw[if_neg (by simp)]
 exact wpAny_pure q
theorem AZ (hq:ktsIn K T.fail "BaseException" = true):u7 w K T:=by
 intro A s env x Q E hh h
 unfold raiseStmt
 refine wpAny_bind (wpAny_mono h (fun v s₁ h₁=>?_) fun _ _ x=>x)
 refine Exists.elim h₁ fun e h₁=>?_
 have KI:=h₁.2.1
 refine Exists.elim h₁.2.2.1 fun oe z=>Exists.elim z fun vs z=>HM KI hq fun nm qn N bs bm hdct sn sub ab col dd k0 k1 k2 k3 k5 newId hC hbase=>?_
 have he:=z.1
 have hc:=z.2.1
 have hd:=z.2.2.1
 have h1:=z.2.2.2
 have hE:=h₁.2.2.2
 rw[h₁.1]
 clear h₁ z KI
 have hcB:(Value.ref T.fail::bm).contains (.type "BaseException")=true:=by rw[List.contains_cons,hbase,Bool.or_true]
 obtain⟨hp,g,d,tk,os⟩:=s₁
 have he:hp.get? e=some oe:=he
 have hC:hp.get? T.fail=some (excClassObj nm qn T.fail N bs bm hdct sn sub ab col dd k0 k1 k2 k3 k5 newId):=hC
 repeat (first | (with_reducible refine wpAny_bind (vM he hd h1 ?_)) | (with_reducible refine wpAny_loadPart_at he ?_;rw[hc]) | with_reducible refine wpAny_loadPart_at hC ?_ | (with_reducible refine wpAny_isSubtype_exc hC ?_;rw[hcB]) | wp_step)
 exact wpAny_raiseNew_none hh hE
end
open Builtin Builtin.ObjectAttr in
section
end
section
open Builtin Builtin.ObjectAttr
section
variable {w:World}{A:Around}{E:Value→Shared→Prop}{h:Heap}{g:Array GenState}{d:Drawn}{t:Nat}{os:OsState}
variable {nm q:Str}{C N x:Addr}{bs bm:List Value}{sn:List Str}{sub:List Value}{ab:Bool}{col:Option Bool}{dd:Option Addr}{k0 k1 k2 k3 k5:Option Value}{B newId sa owner:String}
 {mN mA:Str→Option Value}{name:Str}{v:Value}{o:Obj}{vs:Array Value}
theorem CQ {tk:Tok}{Q:Fin→Shared→Prop} (SF:StoreFacts B bm sa owner)
  (hC:h.get? C=some (excClassObj nm q C N bs bm true sn sub ab col dd k0 k1 k2 k3 k5 newId)) (hn:h.Ns N mN) (hna:mN name=none)
  (hB:typeLookup (.type B) name=pure none) (hx:h.get? x=some o) (hc:o.cls=.ref C) (hd:o.data=.fields vs) (hdn:o.dict=none)
  (hq:∀ h' tk',h'.get? x=some { o with dict:=some h.objs.size }→h'.Ns1 h.objs.size (fun y=>if y=name then some v else none)→(∀ b ob,b ≠ x→h.get? b=some ob→h'.get? b=some ob)→Q (.done (.ret .none)) ⟨h',g,d,tk',os⟩) :
  wpAny (model pw w) A (Builtin.«object.__setattr__» ⟨[.ref x,.str name tk,v],[]⟩) Q E ⟨h,g,d,t,os⟩:=by
 have hpass:=SF.passes (.ref x)
 have lt:=Heap.lt_size hx
 have hxs:x ≠ h.objs.size:=Nat.ne_of_lt lt
 unfold Builtin.«object.__setattr__»
 repeat (first | rw[refuse_eq] | (rw[refuseLoop_ref,hpass]) | (with_reducible refine wpAny_loadPart_at hx ?_;rw[hc]) | with_reducible refine wpAny_mroOf_exc hC ?_ | (with_reducible refine wpAny_typeLookup_exc hC hn SF.mro hB ?_;rw[hna]) | wp_step)
 rw[hdn,if_neg (by simp[typeHasDict])]
 split
 ·rename_i hcd
  cases hcd
 split
 ·rename_i c hcd
  rw[hd]at hcd;cases hcd
 ·have hx₁:(h.push { cls:=.type "dict",data:=.dict #[] }).get? x=some o:=Heap.get?_push_of_some _ hx
  refine wpAny_bind (wpAny_alloc' (wpAny_bind (wpAny_update' hx₁ (wpAny_pure ?_))))
  have hgd:((h.push { cls:=.type "dict",data:=.dict #[] }).update x fun o=>{ o with dict:=some h.objs.size }).get? h.objs.size=some { cls:=.type "dict",data:=.dict #[] } :=
   (Heap.get?_update_ne _ _ _ _ hxs.symm).trans (Heap.get?_push_at rfl rfl)
  have hnd:((h.push { cls:=.type "dict",data:=.dict #[] }).update x fun o=>{ o with dict:=some h.objs.size }).Ns h.objs.size (fun _=>none) :=
   ⟨_,#[],_,hgd,rfl,fun e he=>absurd he (by simp),fun _=>rfl⟩
  show wpAny _ _ (storeInDict h.objs.size (.str name tk) name v) _ _ _
  unfold storeInDict newKeyGuard
  refine wpAny_bind (wpAny_pure (wpAny_bind (wpAny_nsSet1 (Heap.Ns1.of_empty hnd) fun h' hn' hs=>?_)))
  obtain⟨oD,esD,epD,hoD,hdD,hcD⟩:=hn'.count (Within.cons name v Within.nil)
  refine wpAny_bind (wpAny_lookBehind hoD (by rw[hdD];exact pastItsLine_dict (Nat.le_trans hcD (by rw[List.length_cons,List.length_nil,sizeLine_eq];omega))) ?_)
  wp_walk
  refine hq h' _ ((hs.2 x hxs).trans (Heap.get?_update_self _ hx₁ (Obj.isFreed_of_fields hd))) hn' fun b ob hbx hb=>?_
  exact(hs.2 b (Nat.ne_of_lt (Heap.lt_size hb))).trans ((Heap.get?_update_ne _ _ _ _ hbx).trans (Heap.get?_push_of_some _ hb))
theorem t7 {Q:Unit→Shared→Prop} (SF:StoreFacts B bm sa owner)
  (hC:h.get? C=some (excClassObj nm q C N bs bm true sn sub ab col dd k0 k1 k2 k3 k5 newId)) (hn:h.Ns N mN) (hns:mN "__setattr__" = none) (hna:mN name=none)
  (hB:typeLookup (.type B) name=pure none) (hx:h.get? x=some o) (hc:o.cls=.ref C) (hd:o.data=.fields vs) (hdn:o.dict=none)
  (hq:∀ h' tk',h'.get? x=some { o with dict:=some h.objs.size }→h'.Ns1 h.objs.size (fun y=>if y=name then some v else none)→(∀ b ob,b ≠ x→h.get? b=some ob→h'.get? b=some ob)→Q () ⟨h',g,d,tk',os⟩) :
  wpAny (model pw w) A (setAttr (.ref x) name v) Q E ⟨h,g,d,t,os⟩:=by
 have f3:=SF.slot.bind (.ref x)
 unfold setAttr callSpecial? specialOf
 repeat (any_goals (first | assumption | (with_reducible refine wpAny_loadPart_at hx ?_;rw[hc]) | (with_reducible refine wpAny_typeLookup_exc hC hn SF.mro SF.slot.lookup ?_;rw[hns]) | wp_step))
 refine codeAny_call_builtin SF.slot.plain SF.entry (wpAny_check_sa SF hC hx hc (CQ SF hC hn hna hB hx hc hd hdn fun h' tk' a1 a2 a3=>?_))
 repeat (any_goals (first | assumption | wp_step))
 exact hq h' tk' a1 a2 a3
end
end
end Mine
end
section
namespace Mine
inductive xX (K:Frag) (C:Addr):Prop where
 | mk (nm:_) (q:_) (N:_) (bs:_) (sn:_) (sub:_) (ab:_) (col:_) (dd:_) (k0:_) (k1:_) (k2:_) (k3:_) (k5:_) (g0:K.lookup C=some (excClassObj nm q C N bs [.type "Exception",.type "BaseException",.type "object"] true sn sub ab col dd k0 k1 k2 k3 k5 "Exception.__new__")) (oN:_) (es:_) (ep:_) (fI:_) (oI:_) (fi:_) (s0:_) (s1:_) (s2:_) (p1:_) (p2:_) (p3:_) (p4:_) (p5:_) (p6:_) (p7:_) (p8:_) (g1:K.lookup N=some oN) (g2:oN.data=.dict es ep) (g3:StrKeys es) (g4:nsFind es "__init__" = some (.ref fI)) (g5:nsFind es "__setattr__" = none) (g6:nsFind es "text" = none) (g7:nsFind es "line" = none) (g8:K.lookup fI=some oI) (g9:oI.cls=.type "function") (Oh:Az K fI fi) (Oe:fi.ps=[s0,s1,s2]) (O9:kindOf fi.sc s0=some .local) (g13:kindOf fi.sc s1=some .local) (g14:kindOf fi.sc s2=some .local) (g15:fi.body=[.Assign [.Attribute (.Name s0 p1) "text" p2] (.Name s1 p3) p4,.Assign [.Attribute (.Name s0 p5) "line" p6] (.Name s2 p7) p8]):xX K C
theorem Dr:typeLookup (.type "Exception") "text" = pure none:=by rw[typeLookup_type,builtinLookup_eq_fast];kernel_rfl
theorem CL:typeLookup (.type "Exception") "line" = pure none:=by rw[typeLookup_type,builtinLookup_eq_fast];kernel_rfl
theorem Ga {h h':Heap}{a:Addr}{m:Str→Option Value} (x:h.Ns a m) (k:∀ o,h.get? a=some o→h'.get? a=some o):h'.Ns a m:=x.imp fun o q=>q.imp fun es q=>q.imp fun ep q=>⟨k _ q.1,q.2⟩
section
variable {w:World}{K:Frag}{T:bP}
theorem xO {A:Around}{E:Value→Shared→Prop}{s:Shared}{env:Env}{x a y:Str}{p1 p2 p3 p4:Pos}{e v:Value}{Q:Flow→Shared→Prop} (hx:(x == ("__debug__" : Str))=false) (hy:(y == ("__debug__" : Str))=false)
  (l1:∀ {Q:Value→Shared→Prop}{s':Shared},s'.heap=s.heap→Q v s'→wpAny (model pw w) A (loadName env y) Q E s') (l2:∀ {Q:Value→Shared→Prop}{s':Shared},s'.heap=s.heap→Q e s'→wpAny (model pw w) A (loadName env x) Q E s')
  (h:wpAny (model pw w) A (setAttr e a v) (fun _=>Q .next) E s):wpAny (model pw w) A (exec (.Assign [.Attribute (.Name x p1) a p2] (.Name y p3) p4) env) Q E s:=by
 refine wpAny_Assign_stores (wpAny_Name (l1 rfl ?_) hy) rfl rfl
 have he:(assignEach [.Attribute (.Name x p1) a p2] env).map (·.2)=[assign (.Attribute (.Name x p1) a p2) env]:=by rw[d3 rfl];rfl
 rw[he]
 show wpAny _ _ (do let ov ← holding [v] (eval (.Name x p1) env);standAt p2.atName;holding [v,ov] (setAttr ov a v);release [v,ov] []) _ _ s
 refine wpAny_bind (wpAny_holding (wpAny_Name (l2 rfl ?_) hx))
 exact wpAny_bind (wpAny_standAt (wpAny_bind (wpAny_holding (wpAny_mono h (fun _ s' q=>wpAny_release q) fun _ _ z=>z))))
theorem I5 (hK:xX K T.fail) (hlim:∀ h:Heap,K.In h→h.NoLimit):Bv w K T:=by
 intro A s v₁ v₂ Q E hh hd hu KI q
 cases hK with | mk nm qn N bs sn sub ab col dd k0 k1 k2 k3 k5 hCK oN es ep fI oI fi s0 s1 s2 p1 p2 p3 p4 p5 p6 p7 p8 hN hNd hNk n1 n2 n3 n4 hI hIc FI f1 f2 f3 f4 f5 =>
 obtain⟨hp,g,d,tk,os⟩:=s
 refine wpAny_call_exc_init (hrest:=by show 2 ≤ sizeLine;rw[sizeLine_eq];omega) PySem.F.excBase_Exception (KI _ _ hCK) ⟨oN,es,ep,KI _ _ hN,hNd,hNk,fun _=>rfl⟩ n1 (KI _ _ hI) hIc (fun h1 e mk=>?_)
 cases FI with | mk ob fd j1 j2 j3 j4 j5 j6 j7 j8 j9 j10 j11 j12 j13 =>
 have K1:K.In h1:=fun a o z=>mk.keeps _ _ (KI _ _ z)
 have hkf:∀ {x k},kindOf fi.sc x=some k→(callEnvC fd h1.objs.size fI).kindOf x=some k:=fun {x k} z=>by
  show fd.scope.names.lookup x=some k
  rw[j4];exact dT z
 have nd:s0 ≠ s1∧s0 ≠ s2∧s1 ≠ s2:=by
  rw[f1]at j13
  simp only[List.nodup_cons,List.mem_cons,List.not_mem_nil,or_false,not_or]at j13
  exact⟨j13.1.1,j13.1.2,j13.2.1⟩
 refine wpAny_call (codeAny_call_cells (by rw[depth_under_make];omega) (K1 _ _ j1) j2 (hlim _ K1) (codeRec_of K1 j8) j3 (j12 _ (by rw[f1];rfl)) j5 (fun x hx=>?_) (fun s₁ ic=>?_) (by rw[j4];exact j9) (by rw[j4];exact j10) (by rw[j4];exact j11))
 ·have hm:x.1 ∈ fi.ps:=(List.of_mem_zip hx).1
  rw[f1]at hm
  refine .inl ?_
  rw[j4]
  rcases List.mem_cons.mp hm with z | hm
  ·rw[z];exact dT f2
  ·rcases List.mem_cons.mp hm with z | hm
   ·rw[z];exact dT f3
   ·rcases List.mem_cons.mp hm with z | hm
    ·rw[z];exact dT f4
    ·cases hm
 obtain⟨m,hm,m0,m1,m2⟩:∃ m,s₁.heap.Ns (callEnvC fd h1.objs.size fI).locals m∧m s0=some (.ref e)∧m s1=some v₁∧m s2=some v₂:=by
  refine⟨_,ic.toInCall.ns,?_,?_,?_⟩<;>(rw[f1];simp[bindL,hkf f2,hkf f3,hkf f4,nd.1,nd.2.1,nd.2.2,nd.1.symm,nd.2.1.symm,nd.2.2.symm])
 have gr:aY h1 s₁.heap:=ic.toInCall.keep
 obtain⟨h2,tk2,rfl,_⟩:=ic.done
 have gr:aY h1 h2:=gr
 have hm:h2.Ns (callEnvC fd h1.objs.size fI).locals m:=hm
 have hk:(callEnvC fd h1.objs.size fI).scope.kind=.function:=by show fd.scope.kind=_;rw[j4];exact j11
 obtain⟨te,he,_,_⟩:=mk.there
 have he2:=gr _ _ he
 have C2:=gr _ _ (mk.keeps _ _ (KI _ _ hCK))
 have N2:h2.Ns N (nsFind es):=⟨oN,es,ep,gr _ _ (mk.keeps _ _ (KI _ _ hN)),hNd,hNk,fun _=>rfl⟩
 have eC:e ≠ T.fail:=fun z=>by have:=mk.new;rw[z,KI _ _ hCK]at this;cases this
 have eL:(callEnvC fd h1.objs.size fI).locals ≠ e:=fun z=>by
  have:(callEnvC fd h1.objs.size fI).locals=h1.objs.size:=rfl
  rw[this]at z
  have:=Heap.lt_size he
  rw[← z]at this;exact Nat.lt_irrefl _ this
 have eN:N ≠ e:=fun z=>by have:=mk.new;rw[← z,KI _ _ hN]at this;cases this
 rw[f5]
 have load:∀ {h:Heap}{M:Model}{A':Around}{x:Str}{u:Value}{Q:Value→Shared→Prop}{E:Value→Shared→Prop}{s':Shared},s'.heap=h→h.Ns (callEnvC fd h1.objs.size fI).locals m→kindOf fi.sc x=some .local→m x=some u→Q u s'→wpAny M A' (loadName (callEnvC fd h1.objs.size fI) x) Q E s' :=
  fun e1 e2 e3 e4 q=>wpAny_loadName_local hk (hkf e3) (e1 ▸ e2) e4 q
 refine wpAny_execs_cons (xO (e:=.ref e) (v:=v₁) (iX f2).1 (iX f3).1 (fun e1 q=>load e1 hm f3 m1 q) (fun e1 q=>load e1 hm f2 m0 q) ?_)
 refine t7 PySem.F.store_Exception C2 N2 n2 n3 Dr he2 rfl rfl rfl fun h3 tk3 a1 a2 a3=>?_
 have hm3:h3.Ns (callEnvC fd h1.objs.size fI).locals m:=Ga hm fun o z=>a3 _ _ eL z
 have N3:h3.Ns N (nsFind es):=Ga N2 fun o z=>a3 _ _ eN z
 have de:h2.objs.size ≠ e:=fun z=>by have:=Heap.lt_size he2;rw[← z]at this;exact Nat.lt_irrefl _ this
 refine wpAny_execs_cons (xO (s:=⟨h3,g,d,tk3,os⟩) (e:=.ref e) (v:=v₂) (iX f2).1 (iX f4).1 (fun e1 q=>load e1 hm3 f4 m2 q) (fun e1 q=>load e1 hm3 f2 m0 q) ?_)
 refine store_attr (ns:=["text"]) (hsz:=by show 1 ≤ sizeLine;rw[sizeLine_eq];omega) (hw:=Within.cons _ _ Within.nil) PySem.F.store_Exception (a3 _ _ eC.symm C2) N3 n2 n4 CL eC ⟨_,a1,rfl,(fun c z=>by cases z),.inr ⟨_,rfl,de,a2⟩⟩ fun h4 tk4 b1 b2 b3=>?_
 obtain⟨o₁,c1,c2,c3,_⟩:=b3 _ a1
 have gg:aY hp h4:=fun b o z=>by
  have z1:=mk.keeps _ _ z
  have z2:=gr _ _ z1
  have be:b ≠ e:=fun y=>by rw[y,mk.new]at z;cases z
  refine b2 b o be (fun o₀ dx y1 y2 y3=>?_) (a3 _ _ be z2)
  rw[a1]at y1;cases y1;cases y2
  rw[y3]at z2
  exact absurd (Heap.lt_size z2) (Nat.lt_irrefl _)
 exact wpAny_execs_nil ⟨rfl,q e ⟨h4,g,d,tk4,os⟩ ⟨rfl,rfl⟩ gg mk.new ⟨o₁,_,c1,c2,c3,rfl⟩⟩
end
end Mine
end
section
namespace Mine
theorem nb {b j k:Nat} (h:Nat.beq j k=false):b + j ≠ b + k:=fun e=>Nat.ne_of_beq_eq_false h (Nat.add_left_cancel e)
theorem bn {b k:Nat}:b ≠ b + (k + 1):=Nat.ne_of_lt (Nat.lt_add_of_pos_right (Nat.succ_pos k))
theorem kL {a b k:Nat} (h:a < b):a ≠ b + k:=Nat.ne_of_lt (Nat.lt_of_lt_of_le h (Nat.le_add_right b k))
theorem qQ {b k T:Nat} (e:b + 6 ≤ T) (h:Nat.blt k 6=true):T ≠ b + k:=Nat.ne_of_gt (Nat.lt_of_lt_of_le (Nat.add_lt_add_left (eK h) b) e)
theorem JZ {b T:Nat} (e:b + 6 ≤ T):T ≠ b:=qQ (k:=0) e rfl
abbrev fL (h:Heap) (z TI TO T:Addr) (b:Bool):Prop :=
 h.get? z=some { cls:=.type "zip",dict:=none,data:=.fields #[rawInt T,.bool b,.bool false,.ref TI,.ref TO],slots:=#[] }
section
variable {w:World}{A:Around}{E:Value→Shared→Prop}{s:Shared}
theorem xF {z TI TO T:Addr}{b:Bool}{oT:Obj}{Q:Bool→Shared→Prop} (hz:fL s.heap z TI TO T b) (hT:s.heap.get? T=some oT)
  (h:∀ h',fL h' z TI TO T true→Heap.SameBut z s.heap h'→Q false { s with heap:=h' }):wpAny (model pw w) A (Builtin.SmallTypes.ownedTupleIsFree (.ref z)) Q E s:=by
 unfold Builtin.SmallTypes.ownedTupleIsFree
 refine wpAny_bind (wpAny_field hz rfl (x:=rawInt T) rfl ?_)
 show wpAny _ _ (loadIfAlive T >>= _) _ _ _
 refine wpAny_bind (fun Γ p hΓ=>?_)
 show Sem.wp _ _ (.loadIfAlive T .pure) _ _ _ _
 rw[Sem.wp_loadIfAlive,hT]
 refine(show wpAny (model pw w) A _ _ _ _ from ?_) Γ p hΓ
 refine wpAny_pure ?_
 simp only[Option.isNone_some,Bool.false_eq_true,if_false]
 refine wpAny_bind ?_
 refine wpAny_field hz rfl (x:=.bool b) rfl ?_
 cases b with
 | true =>
  rw[if_neg (by simp)]
  exact wpAny_pure (h s.heap hz ⟨rfl,fun _ _=>rfl⟩)
 | false =>
  rw[if_pos (by simp)]
  exact wpAny_bind (wpAny_setField_rec hz (by simp) fun h' hz' hs'=>wpAny_pure (h h' hz' hs'))
theorem tY {z TI TO i1 i2 l1 l2 T:Addr}{bb:Bool}{oT:Obj}{k1 k2:Nat}{xs ys:Array Value}{x y:Value}{Q:Value→Shared→Prop} (D:ZipApart z TI TO i1 i2 l1 l2)
  (hz:fL s.heap z TI TO T bb) (hT:s.heap.get? T=some oT) (hTI:IsPair s.heap TI (.ref i1) (.ref i2))
  (h1:s.heap.IsListIter i1 l1 k1) (h2:s.heap.IsListIter i2 l2 k2) (hl1:s.heap.IsList l1 xs) (hl2:s.heap.IsList l2 ys) (hx:xs[k1]? = some x) (hy:ys[k2]? = some y)
  (hQ:∀ h',fL h' z TI TO T true→h'.IsListIter i1 l1 (k1 + 1)→h'.IsListIter i2 l2 (k2 + 1)→IsPair h' s.heap.objs.size x y→h'.objs.size=s.heap.objs.size + 1 →
   (∀ c o,c ≠ z→c ≠ i1→c ≠ i2→s.heap.get? c=some o→h'.get? c=some o)→Q (.ref s.heap.objs.size) { s with heap:=h' }) :
  wpAny (model pw w) A (Builtin.«zip.__next__» ⟨[.ref z],[]⟩) (fun fin s'=>∃ v,fin=.done (.ret v)∧Q v s') E s:=by
 show wpAny _ _ (field (.ref z) 2 >>= _) _ _ _
 refine wpAny_bind (wpAny_field hz rfl (x:=.bool false) rfl ?_)
 show wpAny _ _ (field (.ref z) 3 >>= _) _ _ _
 refine wpAny_bind (wpAny_field hz rfl (x:=.ref TI) rfl ?_)
 refine wpAny_bind (wpAny_seqItems hTI rfl ?_)
 show wpAny _ _ (Builtin.SmallTypes.ownedTupleIsFree (.ref z) >>= _) _ _ _
 refine wpAny_bind (xF hz hT fun h₁ hz₁ hs₁=>?_)
 simp only[Bool.false_eq_true,if_false,← Array.forIn_toList,List.forIn_cons,List.forIn_nil]
 refine wpAny_bind (wpAny_bind (wpAny_bind (wpAny_holding ?_)))
 show wpAny _ _ (Builtin.SmallTypes.nextOf (.ref i1) >>= _) _ _ _
 refine wpAny_bind (wpAny_nextOf_list_item (h1.extBut hs₁.extBut D.i1z) (hl1.extBut hs₁.extBut D.l1z) hx fun h₂ h1₂ hs₂=>wpAny_pure ?_)
 refine wpAny_pure (wpAny_bind (wpAny_bind (wpAny_holding ?_)))
 show wpAny _ _ (Builtin.SmallTypes.nextOf (.ref i2) >>= _) _ _ _
 refine wpAny_bind (wpAny_nextOf_list_item ((h2.extBut hs₁.extBut D.i2z).extBut hs₂.extBut D.i12.symm) ((hl2.extBut hs₁.extBut D.l2z).extBut hs₂.extBut D.l2i1) hy fun h₄ h2₄ hs₄=>wpAny_pure ?_)
 refine wpAny_pure (wpAny_pure ?_)
 show wpAny _ _ (newTuple [x,y] >>= fun t=>ret t) _ _ _
 refine wpAny_bind (wpAny_newTuple ?_)
 have hsz:h₄.objs.size=s.heap.objs.size:=by rw[hs₄.1,hs₂.1,hs₁.1]
 have up:∀ c o,c ≠ z→c ≠ i1→c ≠ i2→s.heap.get? c=some o→h₄.get? c=some o:=fun c o c1 c2 c3 e=>hs₄.extBut _ _ c3 (hs₂.extBut _ _ c2 (hs₁.extBut _ _ c1 e))
 have hz₄:fL h₄ z TI TO T true:=hs₄.extBut _ _ D.i2z.symm (hs₂.extBut _ _ D.i1z.symm hz₁)
 have h1₄:h₄.IsListIter i1 l1 (k1 + 1):=h1₂.extBut hs₄.extBut D.i12
 refine wpAny_pure ⟨_,rfl,?_⟩
 show Q (.ref h₄.objs.size) { s with heap:=h₄.push { cls:=.type "tuple",data:=.seq #[x,y] } }
 have hp:IsPair (h₄.push { cls:=.type "tuple",data:=.seq #[x,y] }) h₄.objs.size x y:=Heap.get?_push_size _ rfl
 rw[hsz]at hp ⊢
 exact hQ _ (Heap.get?_push_of_some _ hz₄) (h1₄.at fun o e=>Heap.get?_push_of_some _ e) (h2₄.at fun o e=>Heap.get?_push_of_some _ e) hp (by rw[Heap.size_push,hsz]) fun c o c1 c2 c3 e=>Heap.get?_push_of_some _ (up c o c1 c2 c3 e)
theorem vO {z TI TO i1 i2 l1 l2 T:Addr}{bb:Bool}{oT:Obj}{k1 k2:Nat}{xs ys:Array Value}{Q:Fin→Shared→Prop} (hh:A.handled=none) (D:ZipApart z TI TO i1 i2 l1 l2)
  (hz:fL s.heap z TI TO T bb) (hT:s.heap.get? T=some oT) (hTI:IsPair s.heap TI (.ref i1) (.ref i2))
  (h1:s.heap.IsListIter i1 l1 k1) (h2:s.heap.IsListIter i2 l2 k2) (hl1:s.heap.IsList l1 xs) (hl2:s.heap.IsList l2 ys) (hend:xs[k1]? = none∨ys[k2]? = none)
  (hE:∀ h' e,(∀ c o,c ≠ z→c ≠ i1→c ≠ i2→s.heap.get? c=some o→h'.get? c=some o)→(∃ o,h'.get? e=some o∧o.cls=.type "StopIteration")→E (.ref e) { s with heap:=h' }) :
  wpAny (model pw w) A (Builtin.«zip.__next__» ⟨[.ref z],[]⟩) Q E s:=by
 show wpAny _ _ (field (.ref z) 2 >>= _) _ _ _
 refine wpAny_bind (wpAny_field hz rfl (x:=.bool false) rfl ?_)
 show wpAny _ _ (field (.ref z) 3 >>= _) _ _ _
 refine wpAny_bind (wpAny_field hz rfl (x:=.ref TI) rfl ?_)
 refine wpAny_bind (wpAny_seqItems hTI rfl ?_)
 show wpAny _ _ (Builtin.SmallTypes.ownedTupleIsFree (.ref z) >>= _) _ _ _
 refine wpAny_bind (xF hz hT fun h₁ hz₁ hs₁=>?_)
 simp only[Bool.false_eq_true,if_false,← Array.forIn_toList,List.forIn_cons,List.forIn_nil]
 refine wpAny_bind (wpAny_bind (wpAny_bind (wpAny_holding ?_)))
 show wpAny _ _ (Builtin.SmallTypes.nextOf (.ref i1) >>= _) _ _ _
 cases hx:xs[k1]? with
 | none =>
  exact wpAny_bind (wpAny_nextOf_list_end hh (h1.extBut hs₁.extBut D.i1z) (hl1.extBut hs₁.extBut D.l1z) hx fun h₂ e hs₂ he=>hE h₂ e (fun c o c1 c2 c3 x=>hs₂ _ _ c2 (hs₁.extBut _ _ c1 x)) he)
 | some x =>
  have hy:ys[k2]? = none:=by rcases hend with h | h;rw[hx]at h;cases h;exact h
  refine wpAny_bind (wpAny_nextOf_list_item (h1.extBut hs₁.extBut D.i1z) (hl1.extBut hs₁.extBut D.l1z) hx fun h₂ h1₂ hs₂=>wpAny_pure ?_)
  refine wpAny_pure (wpAny_bind (wpAny_bind (wpAny_holding ?_)))
  show wpAny _ _ (Builtin.SmallTypes.nextOf (.ref i2) >>= _) _ _ _
  exact wpAny_bind (wpAny_nextOf_list_end hh ((h2.extBut hs₁.extBut D.i2z).extBut hs₂.extBut D.i12.symm) ((hl2.extBut hs₁.extBut D.l2z).extBut hs₂.extBut D.l2i1) hy fun h₄ e hs₄ he=>hE h₄ e (fun c o c1 c2 c3 x=>hs₄ _ _ c3 (hs₂.extBut _ _ c2 (hs₁.extBut _ _ c1 x))) he)
theorem sJ {z TI TO i1 i2 l1 l2 T:Addr}{bb:Bool}{oT:Obj}{k1 k2:Nat}{xs ys:Array Value}{x y:Value}{Q:Option Value→Shared→Prop} (D:ZipApart z TI TO i1 i2 l1 l2)
  (hz:fL s.heap z TI TO T bb) (hT:s.heap.get? T=some oT) (hTI:IsPair s.heap TI (.ref i1) (.ref i2))
  (h1:s.heap.IsListIter i1 l1 k1) (h2:s.heap.IsListIter i2 l2 k2) (hl1:s.heap.IsList l1 xs) (hl2:s.heap.IsList l2 ys) (hx:xs[k1]? = some x) (hy:ys[k2]? = some y)
  (hQ:∀ h',fL h' z TI TO T true→h'.IsListIter i1 l1 (k1 + 1)→h'.IsListIter i2 l2 (k2 + 1)→IsPair h' s.heap.objs.size x y→h'.objs.size=s.heap.objs.size + 1 →
   (∀ c o,c ≠ z→c ≠ i1→c ≠ i2→s.heap.get? c=some o→h'.get? c=some o)→Q (some (.ref s.heap.objs.size)) { s with heap:=h' }) :
  wpAny (model pw w) A (pyNext (.ref z)) Q E s:=by
 have hT':s.TypeIs (.ref z) "zip" := ⟨_,hz,rfl⟩
 unfold pyNext
 exact wpAny_bind (wpAny_attempt (wpAny_callSpecial?_slot (name:=Str.ofString "__next__") hT' F.slot_zip_next
  (wpAny_call_entry F.slot_zip_next hT' F.entry_zip_next
   (tY D hz hT hTI h1 h2 hl1 hl2 hx hy fun h' a1 a2 a3 a4 a5 a6=>wpAny_pure (hQ h' a1 a2 a3 a4 a5 a6)) (F.args_zip_next_1 _))))
theorem t9 {z TI TO i1 i2 l1 l2 T:Addr}{bb:Bool}{oT:Obj}{k1 k2:Nat}{xs ys:Array Value}{Q:Option Value→Shared→Prop} (hh:A.handled=none) (D:ZipApart z TI TO i1 i2 l1 l2)
  (hz:fL s.heap z TI TO T bb) (hT:s.heap.get? T=some oT) (hTI:IsPair s.heap TI (.ref i1) (.ref i2))
  (h1:s.heap.IsListIter i1 l1 k1) (h2:s.heap.IsListIter i2 l2 k2) (hl1:s.heap.IsList l1 xs) (hl2:s.heap.IsList l2 ys) (hend:xs[k1]? = none∨ys[k2]? = none)
  (hQ:∀ h',(∀ c o,c ≠ z→c ≠ i1→c ≠ i2→s.heap.get? c=some o→h'.get? c=some o)→Q none { s with heap:=h' }):wpAny (model pw w) A (pyNext (.ref z)) Q E s:=by
 have hT':s.TypeIs (.ref z) "zip" := ⟨_,hz,rfl⟩
 unfold pyNext
 refine wpAny_bind (wpAny_attempt (wpAny_callSpecial?_slot (name:=Str.ofString "__next__") hT' F.slot_zip_next
  (wpAny_call_entry F.slot_zip_next hT' F.entry_zip_next (vO hh D hz hT hTI h1 h2 hl1 hl2 hend fun h' e hk he=>?_) (F.args_zip_next_1 _))))
 obtain⟨o,ho,hc⟩:=he
 refine wpAny_bind (wpAny_isInstance (T := "StopIteration") (b:=true) ⟨o,ho,hc⟩ isSubtype_stop ?_)
 exact wpAny_pure (hQ _ hk)
end
end Mine
end
section
namespace Mine
theorem Ac:typeLookup (.type "zip") "__len__" = pure none:=by rw[typeLookup_type,builtinLookup_eq_fast];kernel_rfl
theorem yY:typeLookup (.type "zip") "__length_hint__" = pure none:=by rw[typeLookup_type,builtinLookup_eq_fast];kernel_rfl
noncomputable def t5 (b:Nat) (xs ys acc:Array Value) (h:Heap):Prop:=∀ (j:Nat) (v:Value),acc[j]? = some v→∃ T x y,v=.ref T∧b + 6 ≤ T∧IsPair h T x y∧xs[j]? = some x∧ys[j]? = some y
structure G8 (b:Nat) (h₀:Heap) (l1 l2:Addr) (xs ys:Array Value) (i:Nat) (acc:Array Value) (c:Nat) (h:Heap):Prop where
 z:IsZip h (b + 4) (b + 2) (b + 3) .none∨∃ T bb oT,fL h (b + 4) (b + 2) (b + 3) T bb∧h.get? T=some oT∧b + 6 ≤ T
 ti:IsPair h (b + 2) (.ref b) (.ref (b + 1))
 to:∃ x y,IsPair h (b + 3) x y
 i1:h.IsListIter b l1 i
 i2:h.IsListIter (b + 1) l2 i
 l1:h.IsList l1 xs
 l2:h.IsList l2 ys
 sz:b + 6 ≤ h.objs.size
 S:h.get? (b + 5)=some { cls:=.type "list",dict:=none,data:=.seq acc c,slots:=#[] }
 old:∀ a o,h₀.get? a=some o→h.get? a=some o
 acc:t5 b xs ys acc h
section
variable {w:World}{A:Around}{E:Value→Shared→Prop}{s:Shared}{b:Nat}{h₀:Heap}{l1 l2:Addr}{xs ys:Array Value}{i c:Nat}{acc:Array Value}{h h':Heap}
theorem Dl (hb:h₀.objs.size=b) (a1:l1 < b) (a2:l2 < b):ZipApart (b + 4) (b + 2) (b + 3) b (b + 1) l1 l2 where
 TIz:=nb rfl
 TOz:=nb rfl
 i1z:=bn
 i2z:=nb rfl
 TITO:=nb rfl
 TIi1:=bn.symm
 TIi2:=nb rfl
 TOi1:=bn.symm
 TOi2:=nb rfl
 i12:=bn
 l1z:=kL a1
 l1TO:=kL a1
 l1i1:=Nat.ne_of_lt a1
 l1i2:=kL a1
 l2z:=kL a2
 l2TO:=kL a2
 l2i1:=Nat.ne_of_lt a2
 l2i2:=kL a2
noncomputable def GC (b:Nat) (h h':Heap):Prop:=∀ c o,c ≠ b + 4→c ≠ b + 3→c ≠ b→c ≠ b + 1→h.get? c=some o→h'.get? c=some o
theorem Er (D:ZipApart (b + 4) (b + 2) (b + 3) b (b + 1) l1 l2) (Z:G8 b h₀ l1 l2 xs ys i acc c s.heap) (hx:i < xs.size) (hy:i < ys.size) {Q:Option Value→Shared→Prop}
  (q:∀ h',(∃ T bb oT,fL h' (b + 4) (b + 2) (b + 3) T bb∧h'.get? T=some oT∧b + 6 ≤ T)→(∃ x y,IsPair h' (b + 3) x y)→h'.IsListIter b l1 (i + 1)→h'.IsListIter (b + 1) l2 (i + 1)→IsPair h' s.heap.objs.size xs[i] ys[i] →
   h'.objs.size=s.heap.objs.size + 1→GC b s.heap h'→Q (some (.ref s.heap.objs.size)) { s with heap:=h' }):wpAny (model pw w) A (pyNext (.ref (b + 4))) Q E s:=by
 rcases Z.z with hz | ⟨T,bb,oT,hz,hT,hTb⟩
 ·obtain⟨x,y,hTO⟩:=Z.to
  refine wpAny_pyNext_zip_item D hz Z.ti hTO Z.i1 Z.i2 Z.l1 Z.l2 (Array.getElem?_eq_getElem hx) (Array.getElem?_eq_getElem hy) fun h' a1 a2 a3 a4 a5 a6 a7=>?_
  exact q h' ⟨_,false,_,a1,a5,Z.sz⟩ ⟨_,_,a2⟩ a3 a4 a5 a6 fun c o c1 c2 c3 c4 e=>a7 c o c1 c2 c3 c4 e
 ·obtain⟨x,y,hTO⟩:=Z.to
  refine sJ D hz hT Z.ti Z.i1 Z.i2 Z.l1 Z.l2 (Array.getElem?_eq_getElem hx) (Array.getElem?_eq_getElem hy) fun h' a1 a3 a4 a5 a6 a7=>?_
  have n1:T ≠ b + 4:=qQ hTb rfl
  have n2:T ≠ b:=JZ hTb
  have n3:T ≠ b + 1:=qQ hTb rfl
  exact q h' ⟨_,_,_,a1,a7 _ _ n1 n2 n3 hT,hTb⟩ ⟨_,_,a7 _ _ D.TOz D.TOi1 D.TOi2 hTO⟩ a3 a4 a5 a6 fun c o c1 _ c3 c4 e=>a7 c o c1 c3 c4 e
theorem Fj (hh:A.handled=none) (D:ZipApart (b + 4) (b + 2) (b + 3) b (b + 1) l1 l2) (Z:G8 b h₀ l1 l2 xs ys i acc c s.heap) (hend:xs[i]? = none∨ys[i]? = none) {Q:Option Value→Shared→Prop}
  (q:∀ h',GC b s.heap h'→Q none { s with heap:=h' }):wpAny (model pw w) A (pyNext (.ref (b + 4))) Q E s:=by
 rcases Z.z with hz | ⟨T,bb,oT,hz,hT,hTb⟩
 ·obtain⟨x,y,hTO⟩:=Z.to
  exact wpAny_pyNext_zip_end hh D hz Z.ti hTO Z.i1 Z.i2 Z.l1 Z.l2 hend fun h' k=>q h' fun c o c1 c2 c3 c4 e=>k c o c1 c2 c3 c4 e
 ·exact t9 hh D hz hT Z.ti Z.i1 Z.i2 Z.l1 Z.l2 hend fun h' k=>q h' fun c o c1 _ c3 c4 e=>k c o c1 c3 c4 e
theorem Ff (hh:A.handled=none) (D:ZipApart (b + 4) (b + 2) (b + 3) b (b + 1) l1 l2) (hb:h₀.objs.size=b) (a1:l1 < b) (a2:l2 < b) (hl:xs.size ≤ sizeLine) (hl2:ys.size ≤ sizeLine) {R:Result→Shared→Prop}{res:Value} :
  ∀ (k i:Nat) (s:Shared) (acc:Array Value) (c:Nat),i + k=min xs.size ys.size→G8 b h₀ l1 l2 xs ys i acc c s.heap→acc.size=i →
  (∀ h' acc' c',(∀ a o,h₀.get? a=some o→h'.get? a=some o)→h'.get? (b + 5)=some { cls:=.type "list",dict:=none,data:=.seq acc' c',slots:=#[] }→acc'.size=min xs.size ys.size →
   t5 b xs ys acc' h'→R (.ok (.ret res)) { s with heap:=h' }) →
  codeAny (model pw w) A (.builtin "list.extend.loop" ⟨[.ref (b + 5),.ref (b + 4),res],[]⟩) R s:=by
 intro k
 induction k with
 | zero =>
  intro i s acc c hk Z ha hR
  have hin:i=min xs.size ys.size:=hk
  refine codeAny_builtin F.entry_extend_loop ?_
  rw[Around.under_plainId F.plain_extend_loop _]
  show wpAny _ A.in1 (pyNext (.ref (b + 4)) >>= _) _ _ s
  refine wpAny_bind (Fj (by exact hh) D Z ?_ fun h' kp=>?_)
  ·rcases Nat.le_total xs.size ys.size with h | h
   ·exact .inl (Array.getElem?_eq_none (Nat.le_of_eq ((Nat.min_eq_left h).symm.trans hin.symm)))
   ·exact .inr (Array.getElem?_eq_none (Nat.le_of_eq ((Nat.min_eq_right h).symm.trans hin.symm)))
  ·refine wpAny_pure (hR h' acc c (fun a o e=>?_) (kp _ _ (nb rfl) (nb rfl) (bn.symm) (nb rfl) Z.S) (ha.trans hin) fun j v e=>?_)
   ·have lt:a < b:=hb ▸ Heap.lt_size e
    exact kp _ _ (kL lt) (kL lt) (Nat.ne_of_lt lt) (kL lt) (Z.old a o e)
   ·obtain⟨T,x,y,e1,e2,e3,e4,e5⟩:=Z.acc j v e
    exact⟨T,x,y,e1,e2,kp _ _ (qQ e2 rfl) (qQ e2 rfl) (JZ e2) (qQ e2 rfl) e3,e4,e5⟩
 | succ k ih =>
  intro i s acc c hk Z ha hR
  have hlt:i < min xs.size ys.size:=hk ▸ Nat.lt_add_of_pos_right (Nat.succ_pos k)
  have hx:i < xs.size:=Nat.lt_of_lt_of_le hlt (Nat.min_le_left _ _)
  have hy:i < ys.size:=Nat.lt_of_lt_of_le hlt (Nat.min_le_right _ _)
  refine codeAny_builtin F.entry_extend_loop ?_
  rw[Around.under_plainId F.plain_extend_loop _]
  show wpAny _ A.in1 (pyNext (.ref (b + 4)) >>= _) _ _ s
  refine wpAny_bind (Er D Z hx hy fun h' z' to' j1 j2 np sz' kp=>?_)
  have S':=kp _ _ (nb rfl) (nb rfl) (bn.symm) (nb rfl) Z.S
  show wpAny _ A.in1 (updateSeq (b + 5) (·.push (.ref s.heap.objs.size)) >>= _) _ _ _
  have oth:∀ a o,a ≠ b + 5→h'.get? a=some o→(h'.update (b + 5) (Obj.mapSeq (·.push (.ref s.heap.objs.size)))).get? a=some o:=fun a o n e=>(Heap.get?_update_other _ _ (Ne.symm n)).trans e
  have up:∀ a o,a ≠ b + 4→a ≠ b + 3→a ≠ b→a ≠ b + 1→a ≠ b + 5→s.heap.get? a=some o→(h'.update (b + 5) (Obj.mapSeq (·.push (.ref s.heap.objs.size)))).get? a=some o:=fun a o n1 n2 n3 n4 n5 e=>oth a o n5 (kp a o n1 n2 n3 n4 e)
  have hi6:∀ {T:Addr},b + 6 ≤ T→T ≠ b + 4∧T ≠ b + 3∧T ≠ b∧T ≠ b + 1∧T ≠ b + 5:=fun {T} e =>
   ⟨qQ e rfl,qQ e rfl,JZ e,qQ e rfl,qQ e rfl⟩
  have lo:∀ {a:Addr},a < b→a ≠ b + 4∧a ≠ b + 3∧a ≠ b∧a ≠ b + 1∧a ≠ b + 5:=fun {a} lt =>
   ⟨kL lt,kL lt,Nat.ne_of_lt lt,kL lt,kL lt⟩
  obtain⟨c',Sx⟩:∃ c',(h'.update (b + 5) (Obj.mapSeq (·.push (.ref s.heap.objs.size)))).get? (b + 5)=some { cls:=.type "list",dict:=none,data:=.seq (acc.push (.ref s.heap.objs.size)) c',slots:=#[] }:=⟨_,Heap.get?_update_self _ S' rfl⟩
  refine wpAny_bind ?_
  refine wpAny_updateSeq S' rfl (wpAny_pure ⟨plainId_quiet F.plain_extend_loop _,ih (i + 1) { s with heap:=h'.update (b + 5) (Obj.mapSeq (·.push (.ref s.heap.objs.size))) } (acc.push (.ref s.heap.objs.size)) c' ((Nat.add_assoc i 1 k).trans ((congrArg (i + ·) (Nat.add_comm 1 k)).trans hk)) ?_ (by rw[Array.size_push,ha]) fun h'' acc' c₂ r1 r2 r3 r4=>hR h'' acc' c₂ r1 r2 r3 r4⟩)
   (by rw[ha];exact Nat.le_of_lt (Nat.lt_of_lt_of_le hx hl)) (by show(acc.push _).size ≤ sizeLine + 1;rw[Array.size_push,ha];exact Nat.succ_le_succ (Nat.le_of_lt (Nat.lt_of_lt_of_le hx hl)))
  refine⟨.inr ?_,up _ _ (nb rfl) (nb rfl) (bn.symm) (nb rfl) (nb rfl) Z.ti,to'.imp fun x q=>q.imp fun y q=>oth _ _ (nb rfl) q,
   j1.at fun o e=>oth _ _ (bn) e,j2.at fun o e=>oth _ _ (nb rfl) e,Z.l1.at fun o e=>?_,Z.l2.at fun o e=>?_,?_,Sx,fun a o e=>?_,fun j v e=>?_⟩
  ·obtain⟨T,bb,oT,q1,q2,q3⟩:=z'
   exact⟨T,bb,oT,oth _ _ (nb rfl) q1,oth _ _ (hi6 q3).2.2.2.2 q2,q3⟩
  ·obtain⟨n1,n2,n3,n4,n5⟩:=lo a1;exact up _ _ n1 n2 n3 n4 n5 e
  ·obtain⟨n1,n2,n3,n4,n5⟩:=lo a2;exact up _ _ n1 n2 n3 n4 n5 e
  ·have:=Z.sz
   show b + 6 ≤ (h'.update _ _).objs.size
   rw[Heap.size_after_update,sz'];exact Nat.le_succ_of_le this
  ·obtain⟨n1,n2,n3,n4,n5⟩:=lo (a:=a) (hb ▸ Heap.lt_size e);exact up _ _ n1 n2 n3 n4 n5 (Z.old a o e)
  ·rw[Array.getElem?_push]at e
   split at e
   ·rename_i hj
    cases e
    rw[ha]at hj;subst hj
    exact⟨_,_,_,rfl,Z.sz,oth _ _ (hi6 Z.sz).2.2.2.2 np,Array.getElem?_eq_getElem hx,Array.getElem?_eq_getElem hy⟩
   ·obtain⟨T,x,y,e1,e2,e3,e4,e5⟩:=Z.acc j v e
    obtain⟨n1,n2,n3,n4,n5⟩:=hi6 e2
    exact⟨T,x,y,e1,e2,up _ _ n1 n2 n3 n4 n5 e3,e4,e5⟩
end
end Mine
end
section
namespace Mine
theorem Ip {h h':Heap} (us:List Value):∀ {vs ws:List Value},ws.length=min us.length vs.length →
  (∀ (j:Nat) (v:Value),ws[j]? = some v→∃ (T:Addr) (x y:Value),v=.ref T∧h.get? T=none∧h'.get? T=some { cls:=.type "tuple",data:=.seq #[x,y] }∧us[j]? = some x∧vs[j]? = some y)→sV h h' us vs ws:=by
 induction us with
 | nil=>exact fun e _=>List.eq_nil_of_length_eq_zero (e.trans (Nat.zero_min _))
 | cons a us ih =>
  intro vs ws e f
  cases vs with
  | nil=>exact List.eq_nil_of_length_eq_zero (e.trans (Nat.min_zero _))
  | cons b vs =>
   have e:=e.trans (Nat.succ_min_succ us.length vs.length)
   cases ws with
   | nil=>exact absurd e nofun
   | cons v ws =>
    obtain⟨T,x,y,e1,h1,h2,h3,h4⟩:=f 0 v rfl
    exact⟨T,0,ws,by rw[e1],h1,by rw[h2,← Option.some.inj h3,← Option.some.inj h4],ih (Nat.succ.inj e) fun j v e=>f (j + 1) v e⟩
section
variable {w:World}{A:Around}{s:Shared}
theorem AT {b:Nat}{h₀:Heap}{l1 l2:Addr}{xs ys:Array Value}{c:Nat}{R:Result→Shared→Prop}{res:Value} (hh:A.handled=none) (D:ZipApart (b + 4) (b + 2) (b + 3) b (b + 1) l1 l2) (hb:h₀.objs.size=b) (a1:l1 < b) (a2:l2 < b) (hl:xs.size ≤ sizeLine) (hl2:ys.size ≤ sizeLine)
  (Z:G8 b h₀ l1 l2 xs ys 0 #[] c s.heap) (hz:IsZip s.heap (b + 4) (b + 2) (b + 3) .none)
  (hR:∀ h' acc' c',(∀ a o,h₀.get? a=some o→h'.get? a=some o)→h'.get? (b + 5)=some { cls:=.type "list",dict:=none,data:=.seq acc' c',slots:=#[] }→acc'.size=min xs.size ys.size →
   t5 b xs ys acc' h'→R (.ok (.ret res)) { s with heap:=h' }) :
  wpAny (model pw w) A.in1 (Builtin.List.listExtendWith (.ref (b + 5)) (.ref (b + 4)) res)
   (fun fin s'=>match fin with | .done f=>R (.ok f) s' | .again c'=>c'.quiet=true∧codeAny (model pw w) A c' R s') (fun e s'=>R (.error e) s') s:=by
 have hT:s.TypeIs (.ref (b + 4)) "zip" := ⟨_,hz,rfl⟩
 unfold Builtin.List.listExtendWith
 refine wpAny_bind (wpAny_typeOf hT ?_)
 have h1:Builtin.List.listSameRef (.ref (b + 5)) (.ref (b + 4))=false:=by simp[Builtin.List.listSameRef]
 have h2:(Value.type "zip" == Value.type "list")=false:=by decide
 have h3:(Value.type "zip" == Value.type "tuple")=false:=by decide
 simp only[h1,h2,h3,Bool.or_false,Bool.false_eq_true,if_false]
 refine wpAny_bind (wpAny_pyIter_zip hz ?_)
 refine wpAny_bind (wpAny_holding ?_)
 unfold Builtin.List.listLengthHint
 refine wpAny_bind (wpAny_specialOf hT Ac ?_)
 show wpAny _ A.in1 (specialOf (Value.ref (b + 4)) (Str.ofString "__length_hint__") >>= _) _ _ _
 refine wpAny_bind (wpAny_specialOf hT yY ?_)
 refine wpAny_pure ?_
 show wpAny _ A.in1 (rule "list.extend.makes-room" >>= fun _=>Builtin.List.listTouch (.ref (b + 5)) >>= fun _ =>
  again (.builtin "list.extend.loop" ⟨[.ref (b + 5),.ref (b + 4),res],[]⟩)) _ _ _
 refine wpAny_bind (wpAny_rule ?_)
 refine wpAny_bind ?_
 show wpAny _ A.in1 (updateSeq (b + 5) (·.push .none) >>= fun _=>updateSeq (b + 5) (·.pop)) _ _ _
 refine wpAny_bind (wpAny_updateSeq Z.S rfl ?_)
 have hS₂:=Heap.get?_update_self (Obj.mapSeq (·.push Value.none)) Z.S rfl
 refine wpAny_updateSeq (hz:=by seq_fits) hS₂ rfl ?_
 obtain⟨c₃,hS₃⟩:∃ c₃,((s.heap.update (b + 5) (Obj.mapSeq (·.push Value.none))).update (b + 5) (Obj.mapSeq (·.pop))).get? (b + 5)=some { cls:=.type "list",dict:=none,data:=.seq #[] c₃,slots:=#[] }:=⟨_,Heap.get?_update_self (Obj.mapSeq (·.pop)) hS₂ rfl⟩
 have oth:∀ a o,a ≠ b + 5→s.heap.get? a=some o→((s.heap.update (b + 5) (Obj.mapSeq (·.push Value.none))).update (b + 5) (Obj.mapSeq (·.pop))).get? a=some o :=
  fun a o hb e=>(Heap.get?_update_other _ _ (Ne.symm hb)).trans ((Heap.get?_update_other _ _ (Ne.symm hb)).trans e)
 have lo:∀ {a:Addr},a < b→a ≠ b + 5:=fun lt=>kL lt
 refine wpAny_pure ⟨plainId_quiet F.plain_extend_loop _,Ff hh D hb a1 a2 hl hl2 _ 0 _ #[] c₃ (Nat.zero_add _) ⟨.inl (oth _ _ (nb rfl) hz),oth _ _ (nb rfl) Z.ti,Z.to.imp fun x q=>q.imp fun y q=>oth _ _ (nb rfl) q,
  Z.i1.at fun o e=>oth _ _ (bn) e,Z.i2.at fun o e=>oth _ _ (nb rfl) e,Z.l1.at fun o e=>oth _ _ (lo a1) e,Z.l2.at fun o e=>oth _ _ (lo a2) e,?_,hS₃,fun a o e=>oth _ _ (lo (a:=a) (hb ▸ Heap.lt_size e)) (Z.old a o e),fun j v e=>by simp at e⟩ rfl hR⟩
 show b + 6 ≤ ((s.heap.update _ _).update _ _).objs.size
 rw[Heap.size_after_update,Heap.size_after_update]
 exact Z.sz
end
theorem MG {w:World}:xD w:=by
 intro A s la lb us vs n m Q E hh hla hlb hu hv q
 have ta:la < s.heap.objs.size:=Heap.lt_size hla
 have tb:lb < s.heap.objs.size:=Heap.lt_size hlb
 refine call_zip_2 (xs:=us.toArray) (ys:=vs.toArray) ⟨_,hla,rfl,_,rfl⟩ ⟨_,hlb,rfl,_,rfl⟩ fun h' a1 a2 a3 a4 a5 a6 a7=>?_
 refine callType_codes (Q₁:=fun obj s₁=>obj=.ref h'.objs.size∧s₁={ s with heap:=h'.push { cls:=.type "list",data:=.seq #[] } }) F.called_list (F.typeCall_list_1 _) F.entry_list_init (code_list_new _ ⟨rfl,rfl⟩) fun obj s₁ h₁=>?_
 obtain⟨rfl,rfl⟩:=h₁
 have hS:(h'.push { cls:=.type "list",data:=.seq #[] }).get? h'.objs.size=some { cls:=.type "list",data:=.seq #[] }:=Heap.get?_push_size _ rfl
 refine⟨⟨_,hS,rfl⟩,F.args_list_init_2 _ _,?_⟩
 rw[a6]at hS ⊢
 show wpAny _ A.in1.in1 (do let old ← Builtin.List.listItems (.ref (s.heap.objs.size + 5));Builtin.List.listUpdate (.ref (s.heap.objs.size + 5)) (fun _=>#[]);letGo old.toList.reverse;Builtin.List.listExtendWith (.ref (s.heap.objs.size + 5)) (.ref (s.heap.objs.size + 4)) .none) _ _ _
 refine wpAny_bind ?_
 unfold Builtin.List.listItems
 refine wpAny_bind (wpAny_seqItems hS rfl (wpAny_pure ?_))
 show wpAny _ A.in1.in1 (updateSeq (s.heap.objs.size + 5) (fun _=>#[]) >>= fun _=>letGo (#[]:Array Value).toList.reverse >>= fun _=>Builtin.List.listExtendWith (.ref (s.heap.objs.size + 5)) (.ref (s.heap.objs.size + 4)) .none) _ _ _
 refine wpAny_bind (wpAny_updateSeq hS rfl ?_)
 obtain⟨c₂,hS₂⟩:∃ c₂,((h'.push { cls:=.type "list",data:=.seq #[] }).update (s.heap.objs.size + 5) (Obj.mapSeq (fun _=>(#[]:Array Value)))).get? (s.heap.objs.size + 5)=some { cls:=.type "list",dict:=none,data:=.seq #[] c₂,slots:=#[] }:=⟨_,Heap.get?_update_self (Obj.mapSeq (fun _=>(#[]:Array Value))) hS rfl⟩
 have oth:∀ a o,a ≠ s.heap.objs.size + 5→h'.get? a=some o→((h'.push { cls:=.type "list",data:=.seq #[] }).update (s.heap.objs.size + 5) (Obj.mapSeq (fun _=>(#[]:Array Value)))).get? a=some o :=
  fun a o hb e=>(Heap.get?_update_other _ _ (Ne.symm hb)).trans (Heap.get?_push_of_some _ e)
 have lo:∀ {a:Addr},a < s.heap.objs.size→a ≠ s.heap.objs.size + 5:=fun lt=>kL lt
 have hz:=oth _ _ (nb rfl) a1
 have la':((h'.push { cls:=.type "list",data:=.seq #[] }).update (s.heap.objs.size + 5) (Obj.mapSeq (fun _=>(#[]:Array Value)))).IsList la us.toArray:=⟨_,oth _ _ (lo ta) (a7 _ _ hla),rfl,_,rfl⟩
 have lb':((h'.push { cls:=.type "list",data:=.seq #[] }).update (s.heap.objs.size + 5) (Obj.mapSeq (fun _=>(#[]:Array Value)))).IsList lb vs.toArray:=⟨_,oth _ _ (lo tb) (a7 _ _ hlb),rfl,_,rfl⟩
 refine wpAny_bind (wpAny_letGo ?_)
 refine AT (c:=c₂) (l1:=la) (l2:=lb) (xs:=us.toArray) (ys:=vs.toArray) (h₀:=s.heap) (by exact hh) (Dl rfl ta tb) rfl ta tb (by simpa using hu) (by simpa using hv) ⟨.inl hz,oth _ _ (nb rfl) a2,⟨_,_,oth _ _ (nb rfl) a3⟩,
  a4.at fun o e=>oth _ _ (bn) e,a5.at fun o e=>oth _ _ (nb rfl) e,la',lb',?_,hS₂,fun a o e=>oth _ _ (lo (Heap.lt_size e)) (a7 _ _ e),fun j v e=>by simp at e⟩ hz fun h'' acc' c' r1 r2 r3 r4=>?_
 ·show s.heap.objs.size + 6 ≤ (Heap.update _ _ _).objs.size
  rw[Heap.size_after_update,Heap.size_push,a6];exact Nat.le_refl _
 ·refine⟨rfl,q _ (s.heap.objs.size + 5) c' acc'.toList ⟨rfl,rfl⟩ r1 (Heap.get?_none_of_le (by omega)) (by rw[Array.toArray_toList];exact r2) (Ip _ (by simpa using r3) fun j v e=>?_)⟩
  obtain⟨T,x,y,e1,e2,e3,e4,e5⟩:=r4 j v (by simpa using e)
  exact⟨T,x,y,e1,Heap.get?_none_of_le (Nat.le_trans (by omega) e2),e3,by simpa using e4,by simpa using e5⟩
end Mine
end
section
namespace Mine
abbrev Ob:=List (Int × Str)
noncomputable def vI (v:Value):Option Int:=match v with
 | .int i _=>some i
 | _=>none
noncomputable def vS (v:Value):Option Str:=match v with
 | .str s _=>some s
 | _=>none
noncomputable def vR (v:Value):Option Addr:=match v with
 | .ref a=>some a
 | _=>none
theorem CI {v:Value}{i:Int} (h:vI v=some i):∃ t,v=.int i t:=by
 cases v with
 | int j t=>exact⟨t,by rw[Option.some.inj h]⟩
 | _=>exact nk3 h
theorem wE {v:Value}{i:Str} (h:vS v=some i):∃ t,v=.str i t:=by
 cases v with
 | str j t=>exact⟨t,by rw[Option.some.inj h]⟩
 | _=>exact nk3 h
theorem pM {v:Value}{i:Addr} (h:vR v=some i):v=.ref i:=by
 cases v with
 | ref a=>rw[Option.some.inj h]
 | _=>exact nk3 h
noncomputable def rX (d:Data):Option (List Value × Nat):=match d with
 | .seq vs n=>some (vs.toList,n)
 | _=>none
noncomputable def tX (d:Data):Option (List DictEntry × Nat):=match d with
 | .dict es n=>some (es.toList,n)
 | _=>none
theorem yJ {d:Data}{r:List Value × Nat} (h:rX d=some r):d=.seq r.1.toArray r.2:=by
 cases d with
 | seq=>rw[← Option.some.inj h,Array.toArray_toList]
 | _=>exact nk3 h
theorem rC {d:Data}{r:List DictEntry × Nat} (h:tX d=some r):d=.dict r.1.toArray r.2:=by
 cases d with
 | dict=>rw[← Option.some.inj h,Array.toArray_toList]
 | _=>exact nk3 h
noncomputable def bare {α:Type} (t:String) (f:Data→Option α) (o:Obj):Option α:=gd (decide (o.cls=.type t)) (gd o.dict.isNone (gd (bV o.slots.toList) (f o.data)))
theorem Ap {α:Type}{t:String}{f:Data→Option α}{o:Obj}{r:α}{P:Prop} (h:bare t f o=some r) (k:o=⟨.type t,none,o.data,#[]⟩→f o.data=some r→P):P :=
 aD h fun h1 h=>aD h fun h2 h=>aD h fun h3 h=>k (by
  obtain⟨c,d,da,s⟩:=o
  rw[show c=.type t from of_decide_eq_true h1,show d=none from Option.isNone_iff_eq_none.mp h2,show s = #[] from Array.toList_inj.mp (bN h3)]) h
noncomputable def Am (k:FV) (e:DictEntry):Option Ob:=oe (dO k) (fun i=>(vI e.key).bind fun j=>gd (decide (i=j)) (gd (decide (e.hash=hashInt i)) (some []))) ((dF k).bind fun s=>(vS e.key).bind fun t=>gd (gF t.cps.toList s) (some [(e.hash,t)]))
noncomputable def GA (K:Frag) (x:FV):Value→Option Ob:=@FV.rec (fun _=>Value→Option Ob) (fun _=>List Value→Option Ob) (fun _=>List DictEntry→Option Ob) (fun _=>List DictEntry→Option Ob) (fun _=>DictEntry→Option Ob) (fun _=>DictEntry→Option Ob)
 (fun v=>gd (decide (v=.none)) (some [])) (fun b v=>gd (decide (v=.bool b)) (some [])) (fun i v=>(vI v).bind fun j=>gd (decide (j=i)) (some [])) (fun s v=>(vS v).bind fun t=>gd (gF t.cps.toList s) (some []))
 (fun _ k v=>(vR v).bind fun a=>(K.lookup a).bind fun o=>(bare "tuple" rX o).bind fun r=>k r.1) (fun _ k v=>(vR v).bind fun a=>(K.lookup a).bind fun o=>(bare "list" rX o).bind fun r=>k r.1)
 (fun _ _ _ _=>none) (fun _ k v=>(vR v).bind fun a=>gd (!(a == sysModules)) ((K.lookup a).bind fun o=>(bare "dict" tX o).bind fun r=>k r.1))
 (fun a v=>(vR v).bind fun b=>gd (Nat.beq a b) (some [])) (fun n v=>gd (decide (v=.type n.id)) (some [])) (fun n v=>gd (decide (v=.builtin n.id)) (some []))
 (fun us=>gd (bV us) (some [])) (fun _ _ p q us=>@List.rec Value (fun _=>Option Ob) none (fun v r _=>(p v).bind fun l=>(q r).bind fun m=>some (l++m)) us)
 (fun _=>none) (fun _ _ _ _ _=>none) (fun es=>gd (bV es) (some [])) (fun _ _ p q es=>@List.rec DictEntry (fun _=>Option Ob) none (fun e r _=>(p e).bind fun l=>(q r).bind fun m=>some (l++m)) es)
 (fun _ _ _ _=>none) (fun k _ _ p e=>(Am k e).bind fun a=>(p e.val).bind fun l=>some (a++l)) x
noncomputable def PJ (K:Frag) (x:List FV):List Value→Option Ob:=@FV.rec_1 (fun _=>Value→Option Ob) (fun _=>List Value→Option Ob) (fun _=>List DictEntry→Option Ob) (fun _=>List DictEntry→Option Ob) (fun _=>DictEntry→Option Ob) (fun _=>DictEntry→Option Ob)
 (fun v=>gd (decide (v=.none)) (some [])) (fun b v=>gd (decide (v=.bool b)) (some [])) (fun i v=>(vI v).bind fun j=>gd (decide (j=i)) (some [])) (fun s v=>(vS v).bind fun t=>gd (gF t.cps.toList s) (some []))
 (fun _ k v=>(vR v).bind fun a=>(K.lookup a).bind fun o=>(bare "tuple" rX o).bind fun r=>k r.1) (fun _ k v=>(vR v).bind fun a=>(K.lookup a).bind fun o=>(bare "list" rX o).bind fun r=>k r.1)
 (fun _ _ _ _=>none) (fun _ k v=>(vR v).bind fun a=>gd (!(a == sysModules)) ((K.lookup a).bind fun o=>(bare "dict" tX o).bind fun r=>k r.1))
 (fun a v=>(vR v).bind fun b=>gd (Nat.beq a b) (some [])) (fun n v=>gd (decide (v=.type n.id)) (some [])) (fun n v=>gd (decide (v=.builtin n.id)) (some []))
 (fun us=>gd (bV us) (some [])) (fun _ _ p q us=>@List.rec Value (fun _=>Option Ob) none (fun v r _=>(p v).bind fun l=>(q r).bind fun m=>some (l++m)) us)
 (fun _=>none) (fun _ _ _ _ _=>none) (fun es=>gd (bV es) (some [])) (fun _ _ p q es=>@List.rec DictEntry (fun _=>Option Ob) none (fun e r _=>(p e).bind fun l=>(q r).bind fun m=>some (l++m)) es)
 (fun _ _ _ _=>none) (fun k _ _ p e=>(Am k e).bind fun a=>(p e.val).bind fun l=>some (a++l)) x
noncomputable def QX (K:Frag) (x:List (FV × FV)):List DictEntry→Option Ob:=@FV.rec_3 (fun _=>Value→Option Ob) (fun _=>List Value→Option Ob) (fun _=>List DictEntry→Option Ob) (fun _=>List DictEntry→Option Ob) (fun _=>DictEntry→Option Ob) (fun _=>DictEntry→Option Ob)
 (fun v=>gd (decide (v=.none)) (some [])) (fun b v=>gd (decide (v=.bool b)) (some [])) (fun i v=>(vI v).bind fun j=>gd (decide (j=i)) (some [])) (fun s v=>(vS v).bind fun t=>gd (gF t.cps.toList s) (some []))
 (fun _ k v=>(vR v).bind fun a=>(K.lookup a).bind fun o=>(bare "tuple" rX o).bind fun r=>k r.1) (fun _ k v=>(vR v).bind fun a=>(K.lookup a).bind fun o=>(bare "list" rX o).bind fun r=>k r.1)
 (fun _ _ _ _=>none) (fun _ k v=>(vR v).bind fun a=>gd (!(a == sysModules)) ((K.lookup a).bind fun o=>(bare "dict" tX o).bind fun r=>k r.1))
 (fun a v=>(vR v).bind fun b=>gd (Nat.beq a b) (some [])) (fun n v=>gd (decide (v=.type n.id)) (some [])) (fun n v=>gd (decide (v=.builtin n.id)) (some []))
 (fun us=>gd (bV us) (some [])) (fun _ _ p q us=>@List.rec Value (fun _=>Option Ob) none (fun v r _=>(p v).bind fun l=>(q r).bind fun m=>some (l++m)) us)
 (fun _=>none) (fun _ _ _ _ _=>none) (fun es=>gd (bV es) (some [])) (fun _ _ p q es=>@List.rec DictEntry (fun _=>Option Ob) none (fun e r _=>(p e).bind fun l=>(q r).bind fun m=>some (l++m)) es)
 (fun _ _ _ _=>none) (fun k _ _ p e=>(Am k e).bind fun a=>(p e.val).bind fun l=>some (a++l)) x
noncomputable def lB (w:World) (l:Ob):Prop:=∀ p ∈ l,p.1=hashStr w p.2
section
variable {w:World}{K:Frag}
theorem lB.l {a b l:Ob} (o:lB w l) (e:some (a++b)=some l):lB w a:=fun p m=>o p (Option.some.inj e ▸ List.mem_append_left _ m)
theorem lB.r {a b l:Ob} (o:lB w l) (e:some (a++b)=some l):lB w b:=fun p m=>o p (Option.some.inj e ▸ List.mem_append_right _ m)
theorem tB {t:Str}{s:List Nat} (h:gF t.cps.toList s=true):t=⟨s.toArray⟩:=by
 rw[← pW.mp h]
theorem Iv {k:FV}{e:DictEntry}{l:Ob} (h:Am k e=some l) (o:lB w l):n6 w e k:=by
 refine fA h (fun i hi h=>ob h fun j hj h=>aD h fun h1 h=>aD h fun h2 _=>?_) fun _ h=>ob h fun s hs h=>ob h fun t ht h=>aD h fun h1 h=>?_
 ·rw[lY hi]
  exact(CI hj).imp fun t e=>⟨by rw[e,of_decide_eq_true h1],of_decide_eq_true h2⟩
 ·rw[l9 hs]
  have q:=tB h1
  exact(wE ht).imp fun u e=>⟨by rw[e,q],q ▸ o _ (Option.some.inj h ▸ List.mem_cons_self)⟩
theorem Ku {x:FV}:∀ {v:Value}{l:Ob},GA K x v=some l→lB w l→aO w (fun a=>K.lookup a) v x:=by
 refine @FV.rec (fun x=>∀ {v:Value}{l:Ob},GA K x v=some l→lB w l→aO w (fun a=>K.lookup a) v x)
  (fun xs=>∀ {us:List Value}{l:Ob},PJ K xs us=some l→lB w l→aQ w (fun a=>K.lookup a) us xs) (fun _=>True) (fun xs=>∀ {us:List DictEntry}{l:Ob},QX K xs us=some l→lB w l→nH w (fun a=>K.lookup a) us xs) (fun _=>True) (fun p=>∀ {v:Value}{l:Ob},GA K p.2 v=some l→lB w l→aO w (fun a=>K.lookup a) v p.2)
  (fun {v l} h _=>?_) (fun b {v l} h _=>?_) (fun i {v l} h _=>?_) (fun s {v l} h _=>?_) (fun xs ih {v l} h o=>?_) (fun xs ih {v l} h o=>?_) (fun _ _ _ {v l} h _=>nk3 h) (fun xs ih {v l} h o=>?_) (fun a {v l} h _=>?_) (fun n {v l} h _=>?_) (fun n {v l} h _=>?_)
  (fun {us l} h _=>?_) (fun x xs p q {us l} h o=>?_) trivial (fun _ _ _ _=>trivial) (fun {us l} h _=>?_) (fun x xs p q {us l} h o=>?_) (fun _ _ _=>trivial) (fun _ _ _ p=>p) x
 ·exact aD h fun h _=>show v=.none from of_decide_eq_true h
 ·exact aD h fun h _=>show v=.bool b from of_decide_eq_true h
 ·exact ob h fun j hj h=>aD h fun h _=>by rw[← show j=i from of_decide_eq_true h];exact CI hj
 ·exact ob h fun t ht h=>aD h fun h _=>(wE ht).imp fun u e=>by rw[e,tB h]
 ·exact ob h fun a ha h=>ob h fun ob' ho h=>ob h fun r hr h=>Ap hr fun e1 e2=>by
   rw[pM ha]
   exact .tup (n:=r.2) (by rw[ho,e1,yJ e2]) (ih h o)
 ·exact ob h fun a ha h=>ob h fun ob' ho h=>ob h fun r hr h=>Ap hr fun e1 e2=>by
   rw[pM ha]
   exact .lst (n:=r.2) (by rw[ho,e1,yJ e2]) (ih h o)
 ·exact ob h fun a ha h=>aD h fun hm h=>ob h fun ob' ho h=>ob h fun r hr h=>Ap hr fun e1 e2=>by
   rw[pM ha]
   exact .dct (n:=r.2) (gV hm) (by rw[ho,e1,rC e2]) (ih h o)
 ·exact ob h fun b hb h=>aD h fun h _=>show v=.ref a by rw[pM hb,Nat.eq_of_beq_eq_true h]
 ·exact aD h fun h _=>show v=.type n.id from of_decide_eq_true h
 ·exact aD h fun h _=>show v=.builtin n.id from of_decide_eq_true h
 ·exact aD h fun h _=>bN h
 ·cases us with
  | nil=>exact nk3 h
  | cons v r=>exact ob h fun a h1 h=>ob h fun b h2 h=>.cons (p h1 (o.l h)) (q h2 (o.r h))
 ·exact aD h fun h _=>bN h
 ·cases us with
  | nil=>exact nk3 h
  | cons e r=>exact ob h fun a h1 h=>ob h fun b h2 h=>ob h1 fun k hk h1=>ob h1 fun l hl h1=>⟨e,r,rfl,⟨Iv hk ((o.l h).l h1),p hl ((o.l h).r h1)⟩,q h2 (o.r h)⟩
end
end Mine
end
section
namespace Mine
theorem tJ {ps:List Str}:∀ {vs:List Value},ps.length=vs.length→∀ n ∈ ps,((ps.zip vs).lookup n).isSome=true:=by
 induction ps with
 | nil=>exact fun _=>iJ
 | cons p ps ih =>
  intro vs e n m
  cases vs with
  | nil=>exact absurd e nofun
  | cons v vs =>
   rw[List.zip_cons_cons]
   by_cases z:n=p
   ·rw[jM z];rfl
   ·rw[kR z];exact ih (Nat.succ.inj e) n ((List.mem_cons.mp m).resolve_left z)
theorem rG {α β:Type}{f g:α→Option β}{l:List α} (h:∀ x ∈ l,f x=g x):l.filterMap f=l.filterMap g:=by
 induction l with
 | nil=>rfl
 | cons a r ih=>rw[List.filterMap_cons,List.filterMap_cons,h a List.mem_cons_self,ih fun x m=>h x (List.mem_cons_of_mem _ m)]
theorem vL {ps:List Str}:∀ {vs:List Value},ps.length=vs.length→ps.Nodup→ps.filterMap (fun n=>((ps.zip vs).lookup n).map (n,·))=ps.zip vs:=by
 induction ps with
 | nil=>exact fun _ _=>rfl
 | cons p ps ih =>
  intro vs e nd
  cases vs with
  | nil=>exact absurd e nofun
  | cons v vs =>
   have nd:=List.nodup_cons.mp nd
   rw[List.zip_cons_cons,List.filterMap_cons,jM rfl]
   show(p,v)::_=_
   rw[rG (g:=fun n=>((ps.zip vs).lookup n).map (n,·)) fun x m=>by rw[kR fun z=>nd.1 (by rw[← z];exact m)],ih (Nat.succ.inj e) nd.2]
theorem BN {fd:FuncData} (h1:fd.params.posonlyargs=[]) (h2:fd.params.kwonlyargs=[]) (h3:fd.params.vararg=none) (h4:fd.params.kwarg=none) (h5:fd.defaults=.none) (nd:(fd.params.args.map (·.arg)).Nodup) {vals:List Value} (hl:vals.length=(fd.params.args.map (·.arg)).length) :
  bindArgs fd ⟨vals,[]⟩=pure ((fd.params.args.map (·.arg)).zip vals):=by
 obtain⟨n,q,⟨po,ar,va,ko,kd,kw,df⟩,bo,sc,gl,cl,dfs,kwd,doc,pm,an,co,ct,bu⟩:=fd
 dsimp only at h1 h2 h3 h4 h5 nd hl ⊢
 subst h1 h2 h3 h4 h5
 have e1:¬ ((decide (vals.length > (ar.map (·.arg)).length)&&Option.isNone (none:Option Arg))=true):=by rw[hl];simp
 refine Eq.trans (if_neg e1) ?_
 have e2:¬ ((!((((ar.map (·.arg)).take ((ar.map (·.arg)).length - (List.drop (0 - (ar.map (·.arg)).length) ([]:List Value)).length)).filter fun n=>(((ar.map (·.arg)).zip vals).lookup n).isNone).isEmpty))=true):=by
  have hm:((ar.map (·.arg)).take ((ar.map (·.arg)).length - (List.drop (0 - (ar.map (·.arg)).length) ([]:List Value)).length)).filter (fun n=>(((ar.map (·.arg)).zip vals).lookup n).isNone)=[]:=by
   refine List.filter_eq_nil_iff.mpr fun n hn z=>?_
   have:=tJ hl.symm n (List.mem_of_mem_take hn)
   rw[Option.isNone_iff_eq_none.mp z]at this
   exact nk6 this
  rw[hm];exact nk6
 refine Eq.trans (if_neg e2) ?_
 show(forIn (((ar.map (·.arg)).drop ((ar.map (·.arg)).length - (List.drop (0 - (ar.map (·.arg)).length) ([]:List Value)).length)).zip (List.drop (0 - (ar.map (·.arg)).length) ([]:List Value))) _ _ >>= _)=_
 rw[List.drop_nil,List.zip_nil_right]
 show(pure (List.filterMap (fun n=>(((ar.map (·.arg)).zip vals).lookup n).map (n,·)) (ar.map (·.arg)++[])):Sem _)=_
 rw[List.append_nil,vL hl.symm nd]
end Mine
end
section
namespace Mine
noncomputable def Nr (K:Frag) (x:Str):Option Value:=(nsIn K mainGlobals x).bind fun o=>oe o some ((nsIn K builtinsNs x).bind fun o=>o)
noncomputable def mQ (K:Frag) (l:List (Str × FV)):Option Ob:=@List.rec (Str × FV) (fun _=>Option Ob) (some []) (fun p _ ih=>(Nr K p.1).bind fun v=>(GA K p.2 v).bind fun a=>ih.bind fun b=>some (a++b)) l
theorem CE {w:World}{K:Frag}{l:List (Str × FV)}:∀ {o:Ob},mQ K l=some o→lB w o→∀ {x y},lk x l=some y→∃ v,(nsIn K mainGlobals x=some (some v)∨(nsIn K mainGlobals x=some none∧nsIn K builtinsNs x=some (some v)))∧aO w (fun a=>K.lookup a) v y:=by
 induction l with
 | nil=>exact fun _ _ _ _=>nk3
 | cons p r ih =>
  intro o e ob' x y h
  refine ob e fun v hv e=>ob e fun a h1 e=>ob e fun b h2 e=>zO h (fun z h=>⟨v,?_,Option.some.inj h ▸ Ku h1 (ob'.l e)⟩) fun _ h=>ih h2 (ob'.r e) h
  rw[z]
  exact ob hv fun q hq hv=>fA hv (fun u hu hv=>.inl (by rw[hq,hu,hv])) fun hu hv=>ob hv fun u h1 h2=>.inr ⟨by rw[hq,hu],by rw[h1];exact congrArg some h2⟩
noncomputable def Jx (T:bP):List (Nat ⊕ Ty):=[.inr .none,.inr .bool,.inr .int,.inr .str,.inr .tuple,.inr .list]++T.isiC.map Sum.inl
noncomputable def OZ (T:bP):List (Nat ⊕ Ty):=[.inr .list,.inr .tuple,.inr .bool]++T.isiC.map Sum.inl
theorem Hf {T:bP}{x:FV}{tv:Nat ⊕ Ty} (h:rF T x=some tv):tv ∈ Jx T:=by
 have f:∀ {t:Nat ⊕ Ty},t ∈ [.inr .none,.inr .bool,.inr .int,.inr .str,.inr .tuple,.inr .list]→some t=some tv→tv ∈ Jx T:=fun m e=>Option.some.inj e ▸ List.mem_append_left _ m
 cases x with
 | none=>exact f (.head _) h
 | bool=>exact f (.tail _ (.head _)) h
 | int=>exact f (.tail _ (.tail _ (.head _))) h
 | str=>exact f (.tail _ (.tail _ (.tail _ (.head _)))) h
 | tup=>exact f (.tail _ (.tail _ (.tail _ (.tail _ (.head _))))) h
 | lst=>exact f (.tail _ (.tail _ (.tail _ (.tail _ (.tail _ (.head _)))))) h
 | obj D fs=>exact aD h fun hm h=>Option.some.inj h ▸ List.mem_append_right _ (List.mem_map_of_mem (uB hm))
 | _=>exact nk3 h
theorem Ig {T:bP}{t:FV}{c:Nat ⊕ Ty} (h:Ag T t=some c):c ∈ OZ T:=by
 cases t with
 | top C=>exact aD h fun hm h=>Option.some.inj h ▸ List.mem_append_right _ (List.mem_map_of_mem (uB hm))
 | typ n =>
  refine aD h fun hm h=>Option.some.inj h ▸ List.mem_append_left _ ?_
  cases n with
  | list=>exact .head _
  | tuple=>exact .tail _ (.head _)
  | bool=>exact .tail _ (.tail _ (.head _))
  | _=>exact nk6 hm
 | _=>exact nk3 h
noncomputable def PC (K:Frag) (T:bP):Bool:=(Jx T).all fun tv=>(OZ T).all fun c=>decide (kitOne K (jE tv) (jE c)=some (FS tv c))
noncomputable def Mj (K:Frag) (D:Nat):Option Unit:=gd (plainGet K D "__class__") (gd (hasDictIn K D) (gd (decide (findIn K (.ref D) "__class__" = some (some (.builtin "object.__class__")))) (gd (decide (specialIn K (.builtin "object.__class__") "__get__" = some (some (.builtin "getset_descriptor.__get__")))) (gd (decide (takesIn K (.builtin "object.__class__")=some true)) (gd (decide (mroIn K D (.type "object")=some true)) (some ()))))))
noncomputable def n7 {α:Type} (f:α→Option Unit) (l:List α):Bool:=l.all fun x=>(f x).isSome
theorem rI {α:Type}{f:α→Option Unit}{l:List α} (h:n7 f l=true) {x:α} (m:x ∈ l) {P:Prop} (k:∀ u,f x=some u→P):P:=(Option.isSome_iff_exists.mp (gZ h m)).elim k
noncomputable def Fu (e:DictEntry):Option Unit:=(vS e.key).bind fun _=>some ()
theorem sC {es:List DictEntry} (h:n7 Fu es=true):StrKeys es.toArray:=fun e m=>rI h (List.mem_toArray.mp m) fun u h=>ob h fun s hs _=>(wE hs).imp' (fun _=>s) fun t q=>⟨t,q⟩
noncomputable def DM (K:Frag):Option Unit:=(K.lookup cStatics).bind fun o=>(tX o.data).bind fun r=>gd (n7 Fu r.1) (gd (nsFind r.1.toArray "sys.recursionlimit").isNone (some ()))
theorem Ez {K:Frag}{u:Unit} (e:DM K=some u) (h:Heap) (KI:K.In h):h.NoLimit :=
 ob e fun o ho e=>ob e fun r hr e=>aD e fun h1 e=>aD e fun h2 _=>⟨nsFind r.1.toArray,⟨o,r.1.toArray,r.2,KI _ _ ho,rC hr,sC h1,fun _=>rfl⟩,Option.isNone_iff_eq_none.mp h2⟩
theorem FW {l:List Str} (h:wA l=true):l.Nodup:=by
 induction l with
 | nil=>exact List.nodup_nil
 | cons a r ih =>
  obtain⟨h1,h2⟩:=Bool.and_eq_true_iff.mp h
  exact List.nodup_cons.mpr ⟨fun m=>nk5 ((rJ.mpr m).symm.trans (gV h1)),ih h2⟩
noncomputable def Af (d:Data):Option FuncData:=match d with
 | .func fd=>some fd
 | _=>none
theorem ET {d:Data}{fd:FuncData} (h:Af d=some fd):d=.func fd:=by
 cases d with
 | func=>rw[← Option.some.inj h]
 | _=>exact nk3 h
noncomputable def OM (K:Frag) (a:Addr):Option FuncData:=(K.lookup a).bind fun o=>(Af o.data).bind fun fd=>gd (bV fd.closure) (gd (fd.globals == mainGlobals) (gd (fd.builtins == builtinsNs) (gd (codeIn K fd.code fd.qualname) (gd (!fd.scope.isCoroutine) (gd (!fd.scope.isGenerator) (gd (decide (fd.scope.kind=.function))
 (gd (bV fd.params.posonlyargs) (gd (bV fd.params.kwonlyargs) (gd fd.params.vararg.isNone (gd fd.params.kwarg.isNone (gd (decide (fd.defaults=.none)) (gd (wA (fd.params.args.map (·.arg))) (some fd)))))))))))))
noncomputable def K4 (K:Frag) (a:Addr):Option (FuncBody × Scope × Arguments):=(K.lookup a).bind fun o=>(Af o.data).bind fun fd=>some (fd.body,fd.scope,fd.params)
noncomputable def qF (s:Stmt):Option (FuncBody × Scope × Arguments):=sF s none (fun a b c=>some (.stmts b,c,a)) (fun _=>none) (fun _=>none) (fun _ _=>none) (fun _ _ _=>none) (fun _ _ _ _=>none) (fun _ _ _=>none) (fun _ _ _=>none) (fun _ _=>none) (fun _ _ _ _=>none) (fun _=>none) none none
noncomputable def Aa (i:Nat) (j:Option Nat):Option (FuncBody × Scope × Arguments):=(nth pw.main.body i).bind fun s=>oe j (fun j=>(nth (jO s) j).bind qF) (qF s)
theorem wP {s:Stmt}{fi:FI} (h:wR s=some fi):∃ a,qF s=some (.stmts fi.body,fi.sc,a)∧fi.ps=a.args.map (·.arg):=by
 cases s with
 | FunctionDef _ a=>exact⟨a,by rw[← Option.some.inj h];rfl,by rw[← Option.some.inj h]⟩
 | _=>exact nk3 h
theorem Hl {i:Nat}{j:Option Nat}{fi:FI} (h:t8 i j=some fi):∃ a,Aa i j=some (.stmts fi.body,fi.sc,a)∧fi.ps=a.args.map (·.arg) :=
 ob h fun s hs h=>by
  have e:Aa i j=oe j (fun j=>(nth (jO s) j).bind qF) (qF s):=by show(nth pw.main.body i).bind _=_;rw[hs];rfl
  cases j with
  | none=>exact(wP h).imp fun a q=>⟨e.trans q.1,q.2⟩
  | some j=>exact ob h fun t ht h=>(wP h).imp fun a q=>⟨e.trans (by show(nth (jO s) j).bind qF=_;rw[ht];exact q.1),q.2⟩
theorem Ho {K:Frag}{a:Addr}{i:Nat}{j:Option Nat}{fi:FI}{fd:FuncData} (h1:OM K a=some fd) (h2:K4 K a=Aa i j) (h3:t8 i j=some fi):Az K a fi:=by
 obtain⟨ar,h4,h5⟩:=Hl h3
 refine ob h1 fun o ho h1=>ob h1 fun fd' hd h1=>aD h1 fun q1 h1=>aD h1 fun q2 h1=>aD h1 fun q3 h1=>aD h1 fun q4 h1=>aD h1 fun q5 h1=>aD h1 fun q6 h1=>aD h1 fun q7 h1=>aD h1 fun q8 h1=>aD h1 fun q9 h1=>aD h1 fun q10 h1=>aD h1 fun q11 h1=>aD h1 fun q12 h1=>aD h1 fun q13 _=>?_
 have e:K4 K a=some (fd'.body,fd'.scope,fd'.params):=by show(K.lookup a).bind _=_;rw[ho];show(Af o.data).bind _=_;rw[hd];rfl
 have e:=Option.some.inj ((e.symm.trans h2).trans h4)
 have b1:fd'.body=.stmts fi.body:=congrArg Prod.fst e
 have b2:fd'.scope=fi.sc:=congrArg (fun p=>p.2.1) e
 have b3:fd'.params=ar:=congrArg (fun p=>p.2.2) e
 have nd:=FW q13
 refine⟨o,fd',ho,ET hd,b1,b2,bN q1,beq_iff_eq.mp q2,beq_iff_eq.mp q3,q4,b2 ▸ gV q5,b2 ▸ gV q6,b2 ▸ of_decide_eq_true q7,fun vals e=>?_,by rw[h5,← b3];exact nd⟩
 rw[h5,← b3]at e ⊢
 exact BN (bN q8) (bN q9) (Option.isNone_iff_eq_none.mp q10) (Option.isNone_iff_eq_none.mp q11) (of_decide_eq_true q12) nd e
noncomputable def RX (K:Frag) (p:Nat × Nat × Option Nat):Option Unit:=(OM K p.1).bind fun _=>gd (keepIn K (.ref p.1)) (some ())
noncomputable def PP (K:Frag) (p:Nat × Bool × Nat):Option Unit:=gd (keepIn K (.ref p.1)) (gd (makesIn K p.1) (gd (decide (findIn K (.ref p.1) "__init__" = some (some (.ref p.2.2)))) (gd (decide (typeIn K (.ref p.2.2)=some (.type "function"))) (some ()))))
noncomputable def Md (K:Frag) (C:Nat) (p:Str × Nat):Option Unit:=gd (plainGet K C p.1) (gd (decide (findIn K (.ref C) p.1=some (some (.ref p.2)))) (gd (decide (typeIn K (.ref p.2)=some (.type "function"))) (gd (keepIn K (.ref p.2)) (some ()))))
noncomputable def PB (K:Frag) (C:Nat) (a:Str):Option Unit:=gd (plainGet K C a) (gd (hasDictIn K C) ((findIn K (.ref C) a).bind fun attr=>gd (noGet K attr) (gd (decide (findIn K (.ref C) "__setattr__" = some (some (.builtin "object.__setattr__")))) (gd (plainOver K C) (gd (decide (takerIn K C a=some none)) (some ()))))))
noncomputable def Dy (K:Frag) (T:bP):Option Unit:=gd (PC K T) (gd (n7 (Mj K) T.isiC) ((K.lookup sysModules).bind fun _=>(DM K).bind fun _=>gd (n7 (RX K) T.fns) (gd (n7 (PP K) T.clss) (gd (T.meths.all fun q=>n7 (Md K q.1) q.2) (gd (T.fields.all fun q=>n7 (PB K q.1) q.2) (some ()))))))
noncomputable def AX (K:Frag) (T:bP):List (Option (FuncBody × Scope × Arguments)):=T.fns.map fun p=>K4 K p.1
noncomputable def B6 (T:bP):List (Option (FuncBody × Scope × Arguments)):=T.fns.map fun p=>Aa p.2.1 p.2.2
theorem Ck {α β:Type}{f g:α→β}{l:List α} (h:l.map f=l.map g) {x:α} (m:x ∈ l):f x=g x:=by
 induction l with
 | nil=>exact absurd m List.not_mem_nil
 | cons a r ih =>
  have h:=List.cons.inj h
  exact(List.mem_cons.mp m).elim (fun q=>q ▸ h.1) (ih h.2)
theorem kG {α:Type}{x:Nat}{y:α}{l:List (Nat × α)} (e:iU x l=some y):(x,y) ∈ l:=by
 induction l with
 | nil=>exact nk3 e
 | cons p r ih =>
  replace e : @Bool.rec (fun _=>Option α) (iU x r) (some p.2) (Nat.beq x p.1)=some y:=e
  cases q:Nat.beq x p.1 with
  | true=>rw[q]at e;rw[Nat.eq_of_beq_eq_true q,← show p.2=y from Option.some.inj e];exact List.mem_cons_self
  | false=>rw[q]at e;exact List.mem_cons_of_mem _ (ih e)
theorem LP {α:Type}{x:Str}{y:α}{l:List (Str × α)} (e:lk x l=some y):(x,y) ∈ l:=nU ((fO _ _).symm.trans e)
theorem LN {w:World}{K:Frag}{T:bP}{o:Ob}{u:Unit} (h1:Dy K T=some u) (h2:mQ K T.glob=some o) (h3:lB w o) (h4:AX K T=B6 T):cS w K T:=by
 refine aD h1 fun c1 h1=>aD h1 fun c2 h1=>ob h1 fun m hm h1=>ob h1 fun _ c4 h1=>aD h1 fun c5 h1=>aD h1 fun c6 h1=>aD h1 fun c7 h1=>aD h1 fun c8 _=>⟨fun x y e=>CE h2 h3 e,fun tv c x t e1 e2=>?_,fun D m=>?_,⟨m,hm⟩,Ez c4,fun a p fi e1 e2=>?_,fun a p e=>?_,fun a p e=>?_,fun C ms n a e1 e2=>?_,fun C a e=>?_⟩
 ·exact of_decide_eq_true (gZ (gZ c1 (Hf e1)) (Ig e2))
 ·exact rI c2 m fun _ h=>aD h fun q1 h=>aD h fun q2 h=>aD h fun q3 h=>aD h fun q4 h=>aD h fun q5 h=>aD h fun q6 _=>⟨q1,q2,of_decide_eq_true q3,of_decide_eq_true q4,of_decide_eq_true q5,of_decide_eq_true q6⟩
 ·exact rI c5 (kG e1) fun _ h=>ob h fun fd hf _=>Ho hf (Ck h4 (kG e1)) e2
 ·exact rI c5 (kG e) fun _ h=>ob h fun fd hf h=>aD h fun q _=>q
 ·exact rI c6 (kG e) fun _ h=>aD h fun q1 h=>aD h fun q2 h=>aD h fun q3 h=>aD h fun q4 _=>⟨q1,q2,of_decide_eq_true q3,of_decide_eq_true q4⟩
 ·exact rI (gZ c7 (kG e1)) (LP e2) fun _ h=>aD h fun q1 h=>aD h fun q2 h=>aD h fun q3 h=>aD h fun q4 _=>⟨q1,of_decide_eq_true q2,of_decide_eq_true q3,q4⟩
 ·obtain⟨fs,hf,e⟩:=mD e
  exact rI (gZ c8 (kG hf)) (rJ.mp e) fun _ h=>aD h fun q1 h=>aD h fun q2 h=>ob h fun at' ha h=>aD h fun q3 h=>aD h fun q4 h=>aD h fun q5 h=>aD h fun q6 _=>⟨q1,q2,⟨at',ha,q3⟩,of_decide_eq_true q4,q5,of_decide_eq_true q6⟩
end Mine
end
section
namespace Mine
noncomputable def GM (s:Stmt):Option (List Expr × Expr):=sF s none (fun _ _ _=>none) (fun _=>none) (fun _=>none) (fun t e=>some (t,e)) (fun _ _ _=>none) (fun _ _ _ _=>none) (fun _ _ _=>none) (fun _ _ _=>none) (fun _ _=>none) (fun _ _ _ _=>none) (fun _=>none) none none
theorem CM {s:Stmt}{q:List Expr × Expr} (h:GM s=some q):∃ p,s=.Assign q.1 q.2 p:=by
 cases s with
 | Assign t e p=>exact⟨p,by rw[← Option.some.inj h]⟩
 | _=>exact nk3 h
noncomputable def Bh {α:Type} (l:List α):Option (α × α × α):=@List.rec α (fun _=>Option (α × α × α)) none (fun x r _=>(mM r).bind fun y=>some (x,y)) l
theorem vH {α:Type}{l:List α}{x:α × α × α} (h:Bh l=some x):l=[x.1,x.2.1,x.2.2]:=by
 cases l with
 | nil=>exact nk3 h
 | cons a r=>exact ob h fun y h1 h2=>by rw[kB h1,← Option.some.inj h2]
noncomputable def J0 (s:Stmt) (p a q:Str):Option Unit:=(GM s).bind fun z=>(one z.1).bind fun t=>(gG z.2).bind fun y=>(A5 t).bind fun o=>(gG o.1).bind fun x=>gd (seq x p) (gd (seq o.2.1 a) (gd (seq y q) (some ())))
theorem AS {s:Stmt}{p a q:Str}{u:Unit} (h:J0 s p a q=some u):∃ p1 p2 p3 p4,s=.Assign [.Attribute (.Name p p1) a p2] (.Name q p3) p4 :=
 ob h fun z h1 h=>ob h fun t h2 h=>ob h fun y h3 h=>ob h fun o h4 h=>ob h fun x h5 h=>aD h fun g1 h=>aD h fun g2 h=>aD h fun g3 _=>by
  obtain⟨p4,e1⟩:=CM h1
  obtain⟨p3,e3⟩:=d4 h3
  obtain⟨p1,e5⟩:=d4 h5
  exact⟨p1,o.2.2,p3,p4,by rw[e1,eA h2,rQ h4,e3,e5,hO.mp g1,hO.mp g2,hO.mp g3]⟩
noncomputable def Aj (sc:Scope) (x:Str):Bool:=decide (kindOf sc x=some .local)
noncomputable def R7 (fi:FI):Option Unit:=(Bh fi.ps).bind fun z=>(mM fi.body).bind fun b=>(J0 b.1 z.1 "text" z.2.1).bind fun _=>(J0 b.2 z.1 "line" z.2.2).bind fun _=>gd (Aj fi.sc z.1) (gd (Aj fi.sc z.2.1) (gd (Aj fi.sc z.2.2) (some ())))
noncomputable def LD (d:Data):Option ClassData:=match d with
 | .cls c=>some c
 | _=>none
theorem EB {d:Data}{c:ClassData} (h:LD d=some c):d=.cls c:=by
 cases d with
 | cls=>rw[← Option.some.inj h]
 | _=>exact nk3 h
theorem Rs {α:Type}{l:List α}{e':α} (h:l.length=6) (h4:l[4]? = some e'):∃ a b c d f,l=[a,b,c,d,e',f]:=by
 obtain⟨a,l,rfl⟩:=List.exists_cons_of_length_eq_add_one h
 obtain⟨b,l,rfl⟩:=List.exists_cons_of_length_eq_add_one (Nat.succ.inj h)
 obtain⟨c,l,rfl⟩:=List.exists_cons_of_length_eq_add_one (Nat.succ.inj (Nat.succ.inj h))
 obtain⟨d,l,rfl⟩:=List.exists_cons_of_length_eq_add_one (Nat.succ.inj (Nat.succ.inj (Nat.succ.inj h)))
 obtain⟨e,f,rfl⟩:=Lj (Nat.succ.inj (Nat.succ.inj (Nat.succ.inj (Nat.succ.inj h))))
 exact⟨a,b,c,d,f,by rw[show e=e' from Option.some.inj h4]⟩
theorem PL {o:Obj}{cd:ClassData}{C:Addr}{bm:List Value}{n:String} (h1:o.cls=.type "type") (h2:o.data=.cls cd) (h3:cd.mro=.ref C::bm) (h4:cd.hasDict=true) (h5:cd.hasDel=false) (h6:o.slots.toList.length=6) (h7:o.slots.toList[4]? = some (some (.builtin n))) :
  ∃ k0 k1 k2 k3 k5,o=excClassObj cd.name cd.qualname C cd.ns cd.bases bm true cd.slotNames cd.subclasses cd.abstract cd.collection o.dict k0 k1 k2 k3 k5 n:=by
 obtain⟨c,d,da,s⟩:=o
 obtain⟨nm,bs,mro,ns,qn,hdi,sn,sub,ab,col,del⟩:=cd
 obtain⟨a,b,c',d',f,e⟩:=Rs h6 h7
 refine⟨a,b,c',d',f,?_⟩
 rw[show c=.type "type" from h1,show da=_ from h2,show mro=_ from h3,show hdi=_ from h4,show del=_ from h5,show s = #[a,b,c',d',some (.builtin n),f] from Array.toList_inj.mp e]
noncomputable def BV (K:Frag) (T:bP):Option Unit:=(K.lookup T.fail).bind fun o=>gd (decide (o.cls=.type "type")) ((LD o.data).bind fun cd=>gd (decide (cd.mro=[.ref T.fail,.type "Exception",.type "BaseException",.type "object"])) (gd cd.hasDict (gd (!cd.hasDel) (gd (Nat.beq o.slots.toList.length 6) (gd (decide (o.slots.toList[4]? = some (some (.builtin "Exception.__new__"))))
 ((K.lookup cd.ns).bind fun oN=>(tX oN.data).bind fun r=>gd (n7 Fu r.1) (gd (nsFind r.1.toArray "__setattr__").isNone (gd (nsFind r.1.toArray "text").isNone (gd (nsFind r.1.toArray "line").isNone ((nsFind r.1.toArray "__init__").bind fun v=>(vR v).bind fun fI=>(K.lookup fI).bind fun oI=>gd (decide (oI.cls=.type "function")) ((iU fI T.fns).bind fun p=>(t8 p.1 p.2).bind R7)))))))))))
theorem DK {w:World}{K:Frag}{T:bP}{u:Unit} (k:cS w K T) (h:BV K T=some u):xX K T.fail :=
 ob h fun o ho h=>aD h fun a1 h=>ob h fun cd hcd h=>aD h fun a2 h=>aD h fun a3 h=>aD h fun a4 h=>aD h fun a5 h=>aD h fun a6 h=>ob h fun oN hN h=>ob h fun r hr h=>aD h fun g1 h=>aD h fun g2 h=>aD h fun g3 h=>aD h fun g4 h=>ob h fun v hI h=>ob h fun fI hf h=>ob h fun oI hoI h=>aD h fun hcI h=>ob h fun p hp h=>ob h fun fi hfi h =>
  ob h fun z hz h=>ob h fun b hb h=>ob h fun _ t1 h=>ob h fun _ t2 h=>aD h fun q7 h=>aD h fun q8 h=>aD h fun q9 _=>by
  obtain⟨p1,p2,p3,p4,e1⟩:=AS t1
  obtain⟨p5,p6,p7,p8,e2⟩:=AS t2
  obtain⟨k0,k1,k2,k3,k5,e⟩:=PL (of_decide_eq_true a1) (EB hcd) (of_decide_eq_true a2) a3 (gV a4) (Nat.eq_of_beq_eq_true a5) (of_decide_eq_true a6)
  exact⟨cd.name,cd.qualname,cd.ns,cd.bases,cd.slotNames,cd.subclasses,cd.abstract,cd.collection,o.dict,k0,k1,k2,k3,k5,ho.trans (congrArg some e),oN,r.1.toArray,r.2,fI,oI,fi,z.1,z.2.1,z.2.2,p1,p2,p3,p4,p5,p6,p7,p8,hN,rC hr,sC g1,pM hf ▸ hI,Option.isNone_iff_eq_none.mp g2,Option.isNone_iff_eq_none.mp g3,Option.isNone_iff_eq_none.mp g4,hoI,of_decide_eq_true hcI,k.fnI fI p fi hp hfi,vH hz,of_decide_eq_true q7,of_decide_eq_true q8,of_decide_eq_true q9,by rw[kB hb,e1,e2]⟩
theorem ES {w:World}{K:Frag}{T:bP}{o:Ob}{u u':Unit} (h1:Dy K T=some u) (h2:mQ K T.glob=some o) (h3:lB w o) (h4:AX K T=B6 T) (h5:BV K T=some u') (h6:keepIn K (.ref T.fail)=true) (h7:ktsIn K T.fail "BaseException" = true):iY w K T :=
 have k:=LN h1 h2 h3 h4
 ⟨k,MG,I5 (DK k h5) k.nolim,AZ h7,h6,h7⟩
end Mine
end
section
namespace Mine
noncomputable def jY (B:PM) (h:Heap):PM:=fun a=>oe (B a) (fun _=>none) (h.get? a)
theorem I9 {B:PM}{h:Heap}{a:Addr}{o:Obj} (e:jY B h a=some o):h.get? a=some o:=by
 unfold jY at e
 cases q:B a with
 | none=>rw[q]at e;exact e
 | some o'=>rw[q]at e;exact nk3 e
theorem Im {B:PM}{h:Heap}{a:Addr}{o:Obj} (e:B a=some o):jY B h a=none:=by unfold jY;rw[e];rfl
theorem zC {B:PM}{h:Heap}{a:Addr} (e:B a=none):jY B h a=h.get? a:=by unfold jY;rw[e];rfl
noncomputable def c0 (B:PM):Cf:=⟨B,fun _=>none,[],[],false,[]⟩
noncomputable def c1 (B:PM) (C:Addr) (cs:List (Str × Addr)):Cf:=⟨B,iP (s9 (c0 B) cs) C (some .v),[],[],false,[]⟩
theorem aH.root {w:World}{B:PM}{C:Addr}{cs:List (Str × Addr)}{v:Value}{x:PV} (p:aH w (c0 B) v x):aH w (c1 B C cs) v x:=p
section
variable {w:World}{env₁:Env}{s s₁:Shared}{B:PM}
theorem aC.root (hB:∀ a o,B a=some o→s.heap.get? a=some o) {mL mC:Str→Option Value} (x:InCallC s env₁.locals mL env₁.cells mC s₁) (hL:env₁.locals=s.heap.objs.size) {v c':List (Str × PV)} (hv:BI w (c0 B) (fun _=>True) mL v)
  (hc:BI w (c0 B) (fun x=>(env₁.cells.lookup x).isSome=true) mC c'):aC w (jY B s.heap) env₁ (c1 B env₁.locals env₁.cells) ⟨[],[],v,c'⟩ s₁.heap:=by
 have gr:aY s.heap s₁.heap:=x.toInCall.keep
 have fresh:∀ {a:Addr},env₁.locals ≤ a→B a=none∧jY B s.heap a=none:=fun {a} l=>by
  have q:s.heap.get? a=none:=Heap.get?_none_of_le (hL ▸ l)
  have b:B a=none:=by
   cases e:B a with
   | none=>rfl
   | some o=>exact nk3 (q.symm.trans (hB a o e))
  exact⟨b,(zC b).trans q⟩
 have abv:∀ {n:Str}{a:Addr},env₁.cells.lookup n=some a→env₁.locals < a:=fun e=>x.above _ _ (mem_of_lookup e)
 have owC:∀ {n:Str}{a:Addr},env₁.cells.lookup n=some a→(c1 B env₁.locals env₁.cells).ow a=some (.c n):=fun {n a} e=>by
  refine(eW (f:=s9 (c0 B) env₁.cells) (Nat.ne_of_gt (abv e))).trans ?_
  show oe (gC env₁.cells a) (fun n=>some (bZ.c n)) (lT (c0 B) a)=_
  rw[wK x.apart e];rfl
 refine⟨fun a o e=>gr _ _ (hB a o e),fun a o e=>Im e,fun a o e=>.inl (gr _ _ (I9 e)),fun a e=>absurd e List.not_mem_nil,fun a t e=>jS (f:=s9 (c0 B) env₁.cells) e (fun z e=>?_) fun z e=>?_,gQ (f:=s9 (c0 B) env₁.cells),fun y a e=>.inl (owC e),fun y u e=>(hc y u e).2.1,rfl,fun k sl e=>nk3 e,rfl,fun k a xs e=>nk3 e,fun k C fs e=>nk3 e⟩
 ·obtain⟨o,es,ep,q1,q2,q3,q4⟩:=x.toInCall.ns
  rw[z,← Option.some.inj e]
  have f:=fresh (Nat.le_refl env₁.locals)
  exact⟨f.1,f.2,o,q1,rfl,es,ep,q2,q3,fun y u e=>(hv y u e).2.2.imp fun y' p=>⟨(q4 y).trans p.1,aH.root p.2⟩⟩
 ·replace e:oe (gC env₁.cells a) (fun n=>some (bZ.c n)) (lT (c0 B) a)=some t:=e
  cases q:gC env₁.cells a with
  | some n =>
   rw[q]at e
   have hn:=rD q
   have f:=fresh (Nat.le_of_lt (abv hn))
   rw[← Option.some.inj e]
   exact⟨f.1,f.2,(x.cell n a hn).imp fun o q=>⟨q.1,hn,_,q.2,fun u e=>(hc n u e).2.2.imp fun y p=>⟨p.1,aH.root p.2⟩⟩⟩
  | none=>rw[q]at e;exact nk3 e
end
section
variable {w:World}{K:Frag}{T:bP}{B:PM}
theorem CN (Bs:iY w K T) {n m:Nat}{A:Around}{E:Value→Shared→Prop}{s:Shared} (hfr:A.frames=some []) (hh:A.handled=none) (hd:A.depth + 3 * n + 7 ≤ recursionLimit) (hu:A.units + 8 * n + 44 ≤ cLine) (hB:∀ a o,B a=some o→s.heap.get? a=some o) (hK:∀ a o,K.lookup a=some o→B a=some o)
  {a:Nat}{vs:List Value}{xs:List FV}{q:FI × List (Str × PV) × List (Str × PV)} (ps:aQ w B vs xs) (h0:i0 T a (xs.map .f) []=some q) (h5:cW q.1.body=none) (hi:d5 a T.inits=false)
  (hr:cG T (run T m n) m a (xs.map .f) []=.ok (.f (.bool true),[])) {Q:Value→Shared→Prop} (fin:∀ s',aS s s'→aY s.heap s'.heap→Q (.bool true) s'):wpAny (model pw w) A (call (.ref a) vs) Q E s:=by
 have KI:K.In s.heap:=fun a o e=>hB _ _ (hK a o e)
 replace hr:(eJ (i0 T a (xs.map .f) [])).bind (fun q=>Mine.oe (cW q.1.body) (fun p=>AY T (run T m n) ⟨a,q.1.sc,m⟩ p.1 p.2 [] q.2.1 q.2.2) (aN (run T m n) (iC T m a [] q)))=.ok (.f (.bool true),[]):=hr
 rw[h0]at hr
 replace hr:=(Ke h5).symm.trans hr
 rw[iC,aZ]at hr
 refine wpAny_call (oC (C:=run T m n) (X:=⟨d9 s.heap (fun _=>none) (fun _=>none) [],fun _=>none⟩) (m:=m) Bs hfr hh (by omega) (by omega) KI (c:=c0 B) (aX.ofF ps) h0 fun fd env₁ s₁ mL mC he hF₁ ic _ b1 b2 zz=>?_)
 have R₁:=aC.root hB ic (by rw[he];rfl) b1 b2
 have nob:∀ a,(d9 s.heap (fun _=>none) (fun _=>none) []).get? a=none:=fun a=>by
  cases z:(d9 s.heap (fun _=>none) (fun _=>none) []).get? a with
  | none=>rfl
  | some o=>exact(gL z).2.elim (fun y=>y.elim fun _=>nk3) fun y=>y.elim fun _ y=>nk3 y.1
 have o₁:Ok ⟨w,K,T,⟨d9 s.heap (fun _=>none) (fun _=>none) [],fun _=>none⟩,run T m n,n⟩ (jY B s.heap) (Ja A [] env₁) (c1 B env₁.locals env₁.cells) :=
  ⟨rfl,hK,fun a o e=>nk3 ((nob a).symm.trans e),fun a o e=>nk3 e,fun e he=>absurd he List.not_mem_nil,by show env₁.scope.kind ≠ _;rw[hF₁.kind];exact nofun,⟨s.heap.objs.size,by rw[he];rfl,nob _,.inl (by rw[he];rfl)⟩,fun a e=>absurd e List.not_mem_nil⟩
 refine mZ (Cj Bs (J2 Bs m n) 30 _) hF₁ q.1.body ⟨[],[],q.2.1,q.2.2⟩ _ s₁ _ _ o₁ R₁ ⟨fun f st₂ ef c₂ fl s₂ l₂ R₂ vf z₂=>?_,fun er=>?_,fun es=>?_⟩
 ·rw[show aN (run T m n) (dS (ex T 30) ⟨a,q.1.sc,m⟩ q.1.body ⟨[],[],q.2.1,q.2.2⟩)=.ok (f,st₂) from ef]at hr
  replace hr:aN (run T m n) (opt (gK (d5 a T.inits) 0 (f,st₂)) .ok)=.ok (.f (.bool true),[]):=hr
  rw[hi]at hr
  have gg:aY s.heap s₂.heap:=fun b o e=>by
   cases hb:B b with
   | none=>exact(R₂.hh b o ((zC hb).trans e)).is (by rw[← l₂.fs];exact List.not_mem_nil)
   | some o'=>rw[Option.some.inj (e.symm.trans (hB b o' hb))];exact R₂.b b o' (l₂.b _ _ hb)
  have bk:∀ {x:PV},v3 0 x st₂=some (.f (.bool true),[])→x=.f (.bool true):=fun {x} e=>aD e fun _ e=>ob e fun y hy e=>by
   have e:y=.bool true:=by injection congrArg Prod.fst (Option.some.inj e)
   subst e
   cases x with
   | f y=>exact congrArg PV.f (Option.some.inj hy)
   | loc k=>exact ob hy fun vs _ hy=>by injection hy with hy;cases hy
   | ref k=>exact aD (b:=!Nat.blt k 0) (x:=(jK st₂.g k).bind fun q=>(nT q.2).bind fun ys=>some (FV.obj q.1 ys)) hy fun _ hy=>ob hy fun q _ hy=>ob hy fun ys _ hy=>by injection hy with hy;cases hy
  refine BJ hr fun r hr' e=>?_
  rw[nE e]at hr'
  cases f with
  | next=>exact absurd (bk (x:=.f .none) hr') (by intro z;cases z)
  | ret x =>
   obtain⟨v,rfl,p⟩:=vf
   rw[bk (x:=x) hr']at p
   rw[show v=.bool true from p]
   exact fin _ (zz.trans z₂) gg
  | _=>exact nk3 hr'
 ·rw[show aN (run T m n) (dS (ex T 30) ⟨a,q.1.sc,m⟩ q.1.body ⟨[],[],q.2.1,q.2.2⟩)=.raise from er]at hr;exact nk2 hr
 ·rw[show aN (run T m n) (dS (ex T 30) ⟨a,q.1.sc,m⟩ q.1.body ⟨[],[],q.2.1,q.2.2⟩)=.stuck from es]at hr;exact nk1 hr
end
end Mine
end
section
namespace Mine
noncomputable def No:List (Str × FV):=[((⟨#[99,111,100,101,95,97,116]⟩:Str),FV.top 535),
 ((⟨#[105,115,95,108,105,110,101,95,101,110,100]⟩:Str),FV.top 124),
 ((⟨#[76,73,78,69,95,69,78,68,83]⟩:Str),FV.lst [FV.int (10),FV.int (13),FV.int (8232),FV.int (8233)]),
 ((⟨#[105,115,95,119,104,105,116,101]⟩:Str),FV.top 117),
 ((⟨#[66,76,65,78,75,83]⟩:Str),FV.lst [FV.int (9),FV.int (11),FV.int (12),FV.int (32),FV.int (160),FV.int (5760),FV.int (6158),FV.int (8239),FV.int (8287),FV.int (12288),FV.int (65279)]),
 ((⟨#[105,115,95,105,100,95,115,116,97,114,116]⟩:Str),FV.top 152),
 ((⟨#[105,115,95,100,105,103,105,116]⟩:Str),FV.top 131),
 ((⟨#[108,101,110]⟩:Str),FV.blt .len),
 ((⟨#[111,114,100]⟩:Str),FV.blt .ord),
 ((⟨#[84,111,107,101,110]⟩:Str),FV.top 662),
 ((⟨#[112,117,110,99,116,95,97,116]⟩:Str),FV.top 680),
 ((⟨#[80,85,78,67,84,95,84,65,66,76,69]⟩:Str),FV.dct [(FV.str [62,62,62,61],FV.bool true),(FV.str [61,61,61],FV.bool true),(FV.str [33,61,61],FV.bool true),(FV.str [62,62,62],FV.bool true),(FV.str [60,60,61],FV.bool true),(FV.str [62,62,61],FV.bool true),(FV.str [60,61],FV.bool true),(FV.str [62,61],FV.bool true),(FV.str [61,61],FV.bool true),(FV.str [33,61],FV.bool true),(FV.str [43,43],FV.bool true),(FV.str [45,45],FV.bool true),(FV.str [60,60],FV.bool true),(FV.str [62,62],FV.bool true),(FV.str [38,38],FV.bool true),(FV.str [124,124],FV.bool true),(FV.str [43,61],FV.bool true),(FV.str [45,61],FV.bool true),(FV.str [42,61],FV.bool true),(FV.str [37,61],FV.bool true),(FV.str [38,61],FV.bool true),(FV.str [124,61],FV.bool true),(FV.str [94,61],FV.bool true),(FV.str [47,61],FV.bool true),(FV.str [123],FV.bool true),(FV.str [125],FV.bool true),(FV.str [40],FV.bool true),(FV.str [41],FV.bool true),(FV.str [91],FV.bool true),(FV.str [93],FV.bool true),(FV.str [46],FV.bool true),(FV.str [59],FV.bool true),(FV.str [44],FV.bool true),(FV.str [60],FV.bool true),(FV.str [62],FV.bool true),(FV.str [43],FV.bool true),(FV.str [45],FV.bool true),(FV.str [42],FV.bool true),(FV.str [37],FV.bool true),(FV.str [38],FV.bool true),(FV.str [124],FV.bool true),(FV.str [94],FV.bool true),(FV.str [33],FV.bool true),(FV.str [126],FV.bool true),(FV.str [63],FV.bool true),(FV.str [58],FV.bool true),(FV.str [61],FV.bool true),(FV.str [47],FV.bool true)]),
 ((⟨#[78,111,100,101]⟩:Str),FV.top 31),
 ((⟨#[105,115,95,105,100,95,112,97,114,116]⟩:Str),FV.top 159),
 ((⟨#[76,69,84,84,69,82,83]⟩:Str),FV.lst [FV.tup [FV.int (170),FV.int (170)],FV.tup [FV.int (181),FV.int (181)],FV.tup [FV.int (186),FV.int (186)],FV.tup [FV.int (192),FV.int (214)],FV.tup [FV.int (216),FV.int (246)],FV.tup [FV.int (248),FV.int (705)],FV.tup [FV.int (880),FV.int (883)],FV.tup [FV.int (886),FV.int (887)],FV.tup [FV.int (891),FV.int (893)],FV.tup [FV.int (902),FV.int (902)],FV.tup [FV.int (904),FV.int (906)],FV.tup [FV.int (908),FV.int (908)],FV.tup [FV.int (910),FV.int (929)],FV.tup [FV.int (931),FV.int (1013)],FV.tup [FV.int (1015),FV.int (1153)],FV.tup [FV.int (1162),FV.int (1315)],FV.tup [FV.int (1329),FV.int (1366)],FV.tup [FV.int (1377),FV.int (1415)],FV.tup [FV.int (1488),FV.int (1514)],FV.tup [FV.int (1569),FV.int (1594)],FV.tup [FV.int (1601),FV.int (1610)],FV.tup [FV.int (2308),FV.int (2361)],FV.tup [FV.int (4256),FV.int (4293)],FV.tup [FV.int (4304),FV.int (4346)],FV.tup [FV.int (7680),FV.int (7835)],FV.tup [FV.int (7840),FV.int (7929)],FV.tup [FV.int (8544),FV.int (8578)],FV.tup [FV.int (12353),FV.int (12438)],FV.tup [FV.int (12449),FV.int (12538)],FV.tup [FV.int (12549),FV.int (12588)],FV.tup [FV.int (19968),FV.int (40891)],FV.tup [FV.int (44032),FV.int (55203)]]),
 ((⟨#[80,65,82,84,83]⟩:Str),FV.lst [FV.tup [FV.int (768),FV.int (879)],FV.tup [FV.int (1632),FV.int (1641)],FV.tup [FV.int (2406),FV.int (2415)],FV.tup [FV.int (8204),FV.int (8205)],FV.tup [FV.int (8255),FV.int (8256)],FV.tup [FV.int (8276),FV.int (8276)]]),
 ((⟨#[105,115,105,110,115,116,97,110,99,101]⟩:Str),FV.blt .isi),
 ((⟨#[108,105,115,116]⟩:Str),FV.typ .list),
 ((⟨#[116,117,112,108,101]⟩:Str),FV.typ .tuple),
 ((⟨#[98,111,111,108]⟩:Str),FV.typ .bool),
 ((⟨#[115,116,114,101,110,103,116,104]⟩:Str),FV.top 368),
 ((⟨#[83,84,82,69,78,71,84,72,83]⟩:Str),FV.dct [(FV.str [124,124],FV.int (3)),(FV.str [38,38],FV.int (4)),(FV.str [124],FV.int (5)),(FV.str [94],FV.int (6)),(FV.str [38],FV.int (7)),(FV.str [61,61],FV.int (8)),(FV.str [33,61],FV.int (8)),(FV.str [61,61,61],FV.int (8)),(FV.str [33,61,61],FV.int (8)),(FV.str [60],FV.int (9)),(FV.str [62],FV.int (9)),(FV.str [60,61],FV.int (9)),(FV.str [62,61],FV.int (9)),(FV.str [105,110],FV.int (9)),(FV.str [105,110,115,116,97,110,99,101,111,102],FV.int (9)),(FV.str [60,60],FV.int (10)),(FV.str [62,62],FV.int (10)),(FV.str [62,62,62],FV.int (10)),(FV.str [43],FV.int (11)),(FV.str [45],FV.int (11)),(FV.str [42],FV.int (12)),(FV.str [47],FV.int (12)),(FV.str [37],FV.int (12))]),
 ((⟨#[115,104,111,119,95,98,97,114,101]⟩:Str),FV.top 387),
 ((⟨#[115,104,111,119,95,101,120,112,114,101,115,115,105,111,110]⟩:Str),FV.top 382),
 ((⟨#[77,69,77,66,69,82]⟩:Str),FV.int (16)),
 ((⟨#[67,65,76,76]⟩:Str),FV.int (15)),
 ((⟨#[85,78,65,82,89]⟩:Str),FV.int (13)),
 ((⟨#[65,83,83,73,71,78]⟩:Str),FV.int (1)),
 ((⟨#[67,79,77,77,65]⟩:Str),FV.int (0)),
 ((⟨#[79,84,72,69,82,83]⟩:Str),FV.dct [(FV.str [67,111,109,109,97],FV.int (0)),(FV.str [65,115,115,105,103,110],FV.int (1)),(FV.str [67,111,110,100],FV.int (2)),(FV.str [85,110,97,114,121],FV.int (13)),(FV.str [67,97,108,108],FV.int (15))]),
 ((⟨#[80,76,65,73,78]⟩:Str),FV.dct [(FV.str [78,117,108,108],FV.str [110,117,108,108]),(FV.str [84,104,105,115],FV.str [116,104,105,115])]),
 ((⟨#[65,83,83,73,71,78,73,78,71]⟩:Str),FV.tup [FV.str [61],FV.str [43,61],FV.str [45,61],FV.str [42,61],FV.str [47,61],FV.str [37,61],FV.str [60,60,61],FV.str [62,62,61],FV.str [62,62,62,61],FV.str [38,61],FV.str [94,61],FV.str [124,61]]),
 ((⟨#[85,78,65,82,89,95,83,73,71,78,83]⟩:Str),FV.tup [FV.str [45],FV.str [43],FV.str [33],FV.str [126]]),
 ((⟨#[85,78,65,82,89,95,87,79,82,68,83]⟩:Str),FV.tup [FV.str [116,121,112,101,111,102],FV.str [118,111,105,100],FV.str [100,101,108,101,116,101]]),
 ((⟨#[83,84,69,80,83]⟩:Str),FV.tup [FV.str [43,43],FV.str [45,45]]),
 ((⟨#[80,82,73,79,82,73,84,89]⟩:Str),FV.dct [(FV.str [124,124],FV.int (1)),(FV.str [38,38],FV.int (2)),(FV.str [124],FV.int (3)),(FV.str [94],FV.int (4)),(FV.str [38],FV.int (5)),(FV.str [61,61],FV.int (6)),(FV.str [33,61],FV.int (6)),(FV.str [61,61,61],FV.int (6)),(FV.str [33,61,61],FV.int (6)),(FV.str [60],FV.int (7)),(FV.str [62],FV.int (7)),(FV.str [60,61],FV.int (7)),(FV.str [62,61],FV.int (7)),(FV.str [105,110,115,116,97,110,99,101,111,102],FV.int (7)),(FV.str [105,110],FV.int (7)),(FV.str [60,60],FV.int (8)),(FV.str [62,62],FV.int (8)),(FV.str [62,62,62],FV.int (8)),(FV.str [43],FV.int (9)),(FV.str [45],FV.int (9)),(FV.str [42],FV.int (10)),(FV.str [47],FV.int (10)),(FV.str [37],FV.int (10))]),
 ((⟨#[77,79,83,84,95,78,69,83,84,69,68]⟩:Str),FV.int (40)),
 ((⟨#[111,99,116,97,108,95,102,97,117,108,116]⟩:Str),FV.top 899),
 ((⟨#[99,104,105,108,100,114,101,110]⟩:Str),FV.top 42),
 ((⟨#[115,97,109,101,95,107,105,110,100]⟩:Str),FV.top 54),
 ((⟨#[122,105,112]⟩:Str),FV.typ .zip),
 ((⟨#[115,104,111,119,95,110,97,109,101]⟩:Str),FV.top 347),
 ((⟨#[115,104,111,119,95,116,101,120,116]⟩:Str),FV.top 342),
 ((⟨#[69,83,67,65,80,69,68]⟩:Str),FV.dct [(FV.int (8),FV.str [92,98]),(FV.int (9),FV.str [92,116]),(FV.int (10),FV.str [92,110]),(FV.int (11),FV.str [92,118]),(FV.int (12),FV.str [92,102]),(FV.int (13),FV.str [92,114]),(FV.int (34),FV.str [92,34]),(FV.int (92),FV.str [92,92])]),
 ((⟨#[114,97,110,103,101]⟩:Str),FV.typ .range),
 ((⟨#[99,104,114]⟩:Str),FV.blt .chr),
 ((⟨#[105,115,95,107,101,121,119,111,114,100]⟩:Str),FV.top 673),
 ((⟨#[75,69,89,87,79,82,68,83]⟩:Str),FV.lst [FV.str [98,114,101,97,107],FV.str [99,97,115,101],FV.str [99,97,116,99,104],FV.str [99,111,110,116,105,110,117,101],FV.str [100,101,98,117,103,103,101,114],FV.str [100,101,102,97,117,108,116],FV.str [100,101,108,101,116,101],FV.str [100,111],FV.str [101,108,115,101],FV.str [102,105,110,97,108,108,121],FV.str [102,111,114],FV.str [102,117,110,99,116,105,111,110],FV.str [105,102],FV.str [105,110],FV.str [105,110,115,116,97,110,99,101,111,102],FV.str [110,101,119],FV.str [114,101,116,117,114,110],FV.str [115,119,105,116,99,104],FV.str [116,104,105,115],FV.str [116,104,114,111,119],FV.str [116,114,121],FV.str [116,121,112,101,111,102],FV.str [118,97,114],FV.str [118,111,105,100],FV.str [119,104,105,108,101],FV.str [119,105,116,104],FV.str [99,108,97,115,115],FV.str [99,111,110,115,116],FV.str [101,110,117,109],FV.str [101,120,112,111,114,116],FV.str [101,120,116,101,110,100,115],FV.str [105,109,112,111,114,116],FV.str [115,117,112,101,114],FV.str [110,117,108,108],FV.str [116,114,117,101],FV.str [102,97,108,115,101]]),
 ((⟨#[110,97,109,101,95,102,97,117,108,116]⟩:Str),FV.top 857),
 ((⟨#[83,84,82,73,67,84,95,87,79,82,68,83]⟩:Str),FV.tup [FV.str [105,109,112,108,101,109,101,110,116,115],FV.str [105,110,116,101,114,102,97,99,101],FV.str [108,101,116],FV.str [112,97,99,107,97,103,101],FV.str [112,114,105,118,97,116,101],FV.str [112,114,111,116,101,99,116,101,100],FV.str [112,117,98,108,105,99],FV.str [115,116,97,116,105,99],FV.str [121,105,101,108,100]]),
 ((⟨#[103,117,97,114,100,101,100]⟩:Str),FV.top 489),
 ((⟨#[102,105,114,115,116,95,112,108,97,99,101,95,112,114,105,110,116,101,114]⟩:Str),FV.top 482),
 ((⟨#[70,73,82,83,84,95,80,76,65,67,69,83]⟩:Str),FV.dct [(FV.str [65,115,115,105,103,110],FV.tup [FV.int (1),FV.int (15)]),(FV.str [67,111,110,100],FV.tup [FV.int (0),FV.int (3)]),(FV.str [77,101,109,98,101,114],FV.tup [FV.int (0),FV.int (15)]),(FV.str [73,110,100,101,120],FV.tup [FV.int (0),FV.int (15)]),(FV.str [67,97,108,108],FV.tup [FV.int (0),FV.int (15)])]),
 ((⟨#[105,115,95,116,111,111,95,104,105,103,104]⟩:Str),FV.top 47),
 ((⟨#[77,79,83,84,95,76,69,86,69,76,83]⟩:Str),FV.int (120)),
 ((⟨#[115,97,109,101,95,116,114,101,101]⟩:Str),FV.top 61),
 ((⟨#[105,115,95,111,99,116,97,108,95,100,105,103,105,116]⟩:Str),FV.top 138),
 ((⟨#[104,101,120,95,118,97,108,117,101]⟩:Str),FV.top 145),
 ((⟨#[83,73,71,78,95,66,73,84]⟩:Str),FV.int (9223372036854775808)),
 ((⟨#[70,82,65,67,84,73,79,78,95,66,73,84,83]⟩:Str),FV.int (52)),
 ((⟨#[70,82,65,67,84,73,79,78,95,77,65,83,75]⟩:Str),FV.int (4503599627370495)),
 ((⟨#[72,73,68,68,69,78,95,66,73,84,95,100,98,105,116,115]⟩:Str),FV.int (4503599627370496)),
 ((⟨#[69,88,80,79,78,69,78,84,95,77,65,83,75]⟩:Str),FV.int (2047)),
 ((⟨#[69,88,80,79,78,69,78,84,95,83,72,73,70,84]⟩:Str),FV.int (1075)),
 ((⟨#[76,69,65,83,84,95,80,79,87,69,82,95,100,98,105,116,115]⟩:Str),FV.int (-1074)),
 ((⟨#[90,69,82,79]⟩:Str),FV.int (0)),
 ((⟨#[73,78,70]⟩:Str),FV.int (9218868437227405312)),
 ((⟨#[119,105,100,116,104]⟩:Str),FV.top 173),
 ((⟨#[112,97,99,107]⟩:Str),FV.top 180),
 ((⟨#[105,115,95,110,101,103,97,116,105,118,101]⟩:Str),FV.top 187),
 ((⟨#[105,115,95,110,97,110]⟩:Str),FV.top 194),
 ((⟨#[105,115,95,105,110,102]⟩:Str),FV.top 201),
 ((⟨#[105,115,95,122,101,114,111]⟩:Str),FV.top 208),
 ((⟨#[112,97,114,116,115]⟩:Str),FV.top 222),
 ((⟨#[113,117,111,116,105,101,110,116]⟩:Str),FV.top 229),
 ((⟨#[114,111,117,110,100,95,114,97,116,105,111]⟩:Str),FV.top 236),
 ((⟨#[97,115,115,101,109,98,108,101,100]⟩:Str),FV.top 243),
 ((⟨#[76,69,65,83,84,95,80,79,87,69,82,95,110,117,109,115,104,111,119]⟩:Str),FV.int (-1074)),
 ((⟨#[72,73,68,68,69,78,95,66,73,84,95,110,117,109,115,104,111,119]⟩:Str),FV.int (4503599627370496)),
 ((⟨#[115,99,97,108,101,100]⟩:Str),FV.top 257),
 ((⟨#[100,101,99,105,109,97,108,95,112,108,97,99,101]⟩:Str),FV.top 264),
 ((⟨#[102,105,114,115,116,95,112,108,97,99,101,95,110,117,109,115,104,111,119]⟩:Str),FV.top 271),
 ((⟨#[115,104,111,114,116,101,115,116]⟩:Str),FV.top 278),
 ((⟨#[108,97,115,116,95,102,105,103,117,114,101]⟩:Str),FV.top 285),
 ((⟨#[108,97,105,100,95,111,117,116]⟩:Str),FV.top 306),
 ((⟨#[119,105,116,104,111,117,116,95,102,105,103,117,114,101,115]⟩:Str),FV.top 313),
 ((⟨#[115,104,111,119,95,110,117,109,115,104,111,119]⟩:Str),FV.top 320),
 ((⟨#[67,79,78,68]⟩:Str),FV.int (2)),
 ((⟨#[80,79,83,84,70,73,88]⟩:Str),FV.int (14)),
 ((⟨#[115,104,111,119,95,98,105,116,115]⟩:Str),FV.top 361),
 ((⟨#[115,104,111,119,95,97,114,114,97,121]⟩:Str),FV.top 392),
 ((⟨#[115,104,111,119,95,108,105,115,116]⟩:Str),FV.top 404),
 ((⟨#[115,104,111,119,95,97,99,99,101,115,115]⟩:Str),FV.top 411),
 ((⟨#[115,104,111,119,95,116,97,107,101,110]⟩:Str),FV.top 418),
 ((⟨#[115,104,111,119,95,109,97,100,101]⟩:Str),FV.top 425),
 ((⟨#[115,104,111,119,95,111,112,101,114,97,116,105,111,110]⟩:Str),FV.top 430),
 ((⟨#[115,104,111,119,95,117,110,97,114,121]⟩:Str),FV.top 437),
 ((⟨#[115,104,111,119,95,102,117,110,99,116,105,111,110]⟩:Str),FV.top 444),
 ((⟨#[115,104,111,119,95,98,111,100,121]⟩:Str),FV.top 449),
 ((⟨#[115,104,111,119,95,99,111,100,101]⟩:Str),FV.top 456),
 ((⟨#[115,104,111,119,95,115,116,97,116,101,109,101,110,116]⟩:Str),FV.top 496),
 ((⟨#[115,104,111,119,95,112,114,105,110,116,101,114]⟩:Str),FV.top 527),
 ((⟨#[83,73,78,71,76,69]⟩:Str),FV.dct [(FV.str [98],FV.int (8)),(FV.str [116],FV.int (9)),(FV.str [110],FV.int (10)),(FV.str [118],FV.int (11)),(FV.str [102],FV.int (12)),(FV.str [114],FV.int (13))]),
 ((⟨#[104,101,120,95,97,116]⟩:Str),FV.top 542),
 ((⟨#[114,101,97,100,95,101,115,99,97,112,101]⟩:Str),FV.top 563),
 ((⟨#[70,65,82,84,72,69,83,84]⟩:Str),FV.int (400)),
 ((⟨#[102,105,103,117,114,101,95,111,102]⟩:Str),FV.top 570),
 ((⟨#[119,111,114,116,104]⟩:Str),FV.top 577),
 ((⟨#[102,114,111,109,95,100,101,99,105,109,97,108]⟩:Str),FV.top 584),
 ((⟨#[83,121,110,116,97,120,70,97,105,108]⟩:Str),FV.top 697),
 ((⟨#[76,101,120,101,114]⟩:Str),FV.top 843),
 ((⟨#[82,69,83,84,82,73,67,84,69,68]⟩:Str),FV.tup [FV.str [97,114,103,117,109,101,110,116,115],FV.str [101,118,97,108]]),
 ((⟨#[84,65,82,71,69,84,83]⟩:Str),FV.tup [FV.str [78,97,109,101],FV.str [77,101,109,98,101,114],FV.str [73,110,100,101,120]]),
 ((⟨#[98,105,110,100,105,110,103,95,102,97,117,108,116]⟩:Str),FV.top 864),
 ((⟨#[102,105,114,115,116,95,116,119,105,99,101]⟩:Str),FV.top 871),
 ((⟨#[112,97,114,97,109,115,95,102,97,117,108,116]⟩:Str),FV.top 878),
 ((⟨#[116,97,114,103,101,116,95,102,97,117,108,116]⟩:Str),FV.top 885),
 ((⟨#[74,117,109,112,115]⟩:Str),FV.top 945),
 ((⟨#[83,116,109,116,80,97,114,115,101,114]⟩:Str),FV.top 1469),
 ((⟨#[112,97,114,115,101]⟩:Str),FV.top 1478),
 ((⟨#[95,108,97,119,95,108,101,97,100,115]⟩:Str),FV.tup [FV.tup [FV.str [40,123,125,41,32,43,32],FV.str [59],FV.int (2)],FV.tup [FV.str [40,123,125,41,46,97,32,61,32],FV.str [59],FV.int (3)],FV.tup [FV.str [40,102,117,110,99,116,105,111,110,32,40,41,32,123,125,41,46,99,97,108,108,40,116,104,105,115,44,32],FV.str [41,59],FV.int (3)],FV.tup [FV.str [40,123,125,41,91],FV.str [93,59],FV.int (3)],FV.tup [FV.str [40,123,125,41,44,32],FV.str [59],FV.int (2)],FV.tup [FV.str [40,102,117,110,99,116,105,111,110,32,40,41,32,123,125,41,32,63,32],FV.str [32,58,32,48,59],FV.int (3)],FV.tup [FV.str [40,123,125,41,46,97,40,49,41,40],FV.str [41,59],FV.int (3)],FV.tup [FV.str [40,102,117,110,99,116,105,111,110,32,102,40,41,32,123,125,41,40,41,32,124,124,32],FV.str [59],FV.int (2)],FV.tup [FV.str [40,123,125,41,46,97,43,43,44,32],FV.str [59],FV.int (2)]]),
 ((⟨#[95,108,97,119,95,99,111,114,101,115]⟩:Str),FV.tup [FV.tup [FV.str [48],FV.int (0)],FV.tup [FV.str [102,117,110,99,116,105,111,110,32,40,41,32,123,34,117,115,101,92,120,50,48,115,116,114,105,99,116,34,59,125],FV.int (3)],FV.tup [FV.str [102,117,110,99,116,105,111,110,32,40,41,32,123,40,34,117,115,101,32,115,116,114,105,99,116,34,41,59,32,34,117,115,101,32,115,116,114,105,99,116,34,59,125],FV.int (4)],FV.tup [FV.str [102,117,110,99,116,105,111,110,32,103,40,41,32,123,40,123,125,41,32,43,32,49,59,125],FV.int (4)],FV.tup [FV.str [110,101,119,32,40,102,40,41,46,97,41,40,49,41],FV.int (2)],FV.tup [FV.str [110,101,119,32,40,110,101,119,32,40,102,40,41,46,97,41,40,41,46,98,41,40,41],FV.int (4)],FV.tup [FV.str [102,117,110,99,116,105,111,110,32,40,41,32,123,40,102,117,110,99,116,105,111,110,32,40,41,32,123,125,41,46,97,59,125],FV.int (5)],FV.tup [FV.str [110,101,119,32,40,102,40,41,41,91,91,48,93,93,40,41],FV.int (3)]]),
 ((⟨#[95,108,97,119,95,97,104,101,97,100]⟩:Str),FV.tup [FV.str [34,117,115,101,92,120,50,48,115,116,114,105,99,116,34,59],FV.str [40,34,117,115,101,32,115,116,114,105,99,116,34,41,59],FV.str [34,117,115,101,32,115,116,114,105,99,116,34,59],FV.str [34,97,34,59],FV.str [97,59]]),
 ((⟨#[95,108,97,119,95,112,105,99,107]⟩:Str),FV.top 1505),
 ((⟨#[95,108,97,119,95,114,101,97,100]⟩:Str),FV.top 1512),
 ((⟨#[95,108,97,119,95,105,115,95,115,116,114,105,99,116]⟩:Str),FV.top 1519),
 ((⟨#[108,97,119]⟩:Str),FV.top 1524),
 ((⟨#[109,97,120]⟩:Str),FV.blt .max),
 ((⟨#[115,117,109]⟩:Str),FV.blt .sum),
 ((⟨#[115,116,114]⟩:Str),FV.typ .str),
 ((⟨#[105,110,116]⟩:Str),FV.typ .int)]
noncomputable def Ps:List (Nat × Nat × Option Nat):=[(535,100,none),(124,13,none),(117,12,none),(152,17,none),(131,14,none),(680,116,none),(984,138,some 3),(998,138,some 5),(970,138,some 1),(721,120,some 1),(1005,138,some 6),(159,18,none),(368,68,none),(387,73,none),(382,72,none),(991,138,some 4),(1040,138,some 11),(1047,138,some 12),(899,131,none),(1026,138,some 9),(42,2,none),(54,4,none),(347,65,none),(342,64,none),(673,115,none),(857,125,none),(489,90,none),(47,3,none),(742,120,some 4),(840,120,some 18),(756,120,some 6),(1186,145,some 11),(1158,145,some 7),(1144,145,some 5),(1151,145,some 6),(1172,145,some 9),(1179,145,some 10),(1207,145,some 14),(1123,145,some 2),(1137,145,some 4),(1116,145,some 1),(1252,147,some 1),(1266,147,some 3),(1273,147,some 4),(1280,147,some 5),(1082,138,some 17),(1259,147,some 2),(1019,138,some 8),(977,138,some 2),(763,120,some 7),(826,120,some 16),(777,120,some 9),(28,1,some 0),(61,5,none),(138,15,none),(145,16,none),(173,30,none),(180,31,none),(187,32,none),(194,33,none),(201,34,none),(208,35,none),(222,37,none),(229,38,none),(236,39,none),(243,40,none),(257,45,none),(264,46,none),(271,47,none),(278,49,none),(285,50,none),(306,53,none),(313,54,none),(320,55,none),(361,67,none),(392,74,none),(404,76,none),(411,77,none),(418,78,none),(425,79,none),(430,80,none),(437,81,none),(444,82,none),(449,83,none),(456,84,none),(482,88,none),(496,91,none),(527,96,none),(542,101,none),(563,104,none),(570,107,none),(577,108,none),(584,109,none),(659,114,some 0),(694,118,some 0),(714,120,some 0),(770,120,some 8),(798,120,some 12),(805,120,some 13),(833,120,some 17),(864,126,none),(871,127,none),(878,128,none),(885,129,none),(927,134,some 0),(963,138,some 0),(1054,138,some 13),(1061,138,some 14),(1068,138,some 15),(1130,145,some 3),(1165,145,some 8),(1193,145,some 12),(1200,145,some 13),(1214,145,some 15),(1221,145,some 16),(1245,147,some 0),(1348,149,some 0),(1369,149,some 3),(1376,149,some 4),(1383,149,some 5),(1478,154,none),(1505,159,none),(1512,160,none),(1519,161,none),(1524,162,none)]
noncomputable def Jj:List (Nat × List (Str × Nat)):=[(1469,[((⟨#[105,115,95,115,105,103,110]⟩:Str),984),((⟨#[101,97,116]⟩:Str),998),((⟨#[116,97,107,101]⟩:Str),970),((⟨#[110,101,101,100]⟩:Str),1005),((⟨#[105,115,95,119,111,114,100]⟩:Str),991),((⟨#[103,111,95,105,110]⟩:Str),1040),((⟨#[103,111,95,111,117,116]⟩:Str),1047),((⟨#[102,97,105,108,95,102,111,114]⟩:Str),1026),((⟨#[119,105,116,104,95,109,101,109,98,101,114,115]⟩:Str),1186),((⟨#[117,110,97,114,121]⟩:Str),1158),((⟨#[112,114,105,111,114,105,116,121]⟩:Str),1144),((⟨#[98,105,110,97,114,121]⟩:Str),1151),((⟨#[112,111,115,116,102,105,120]⟩:Str),1172),((⟨#[108,101,102,116,95,104,97,110,100]⟩:Str),1179),((⟨#[112,114,105,109,97,114,121]⟩:Str),1207),((⟨#[97,115,115,105,103,110,109,101,110,116]⟩:Str),1123),((⟨#[99,111,110,100,105,116,105,111,110,97,108]⟩:Str),1137),((⟨#[101,120,112,114,101,115,115,105,111,110]⟩:Str),1116),((⟨#[97,116,95,101,110,100]⟩:Str),1252),((⟨#[115,116,97,116,101,109,101,110,116]⟩:Str),1266),((⟨#[98,97,114,101,95,115,116,97,116,101,109,101,110,116]⟩:Str),1273),((⟨#[112,108,97,105,110,95,101,120,112,114,101,115,115,105,111,110]⟩:Str),1280),((⟨#[101,110,100,95,115,116,97,116,101,109,101,110,116]⟩:Str),1082),((⟨#[101,108,101,109,101,110,116]⟩:Str),1259),((⟨#[102,97,105,108]⟩:Str),1019),((⟨#[112,101,101,107]⟩:Str),977),((⟨#[111,98,106,101,99,116]⟩:Str),1348),((⟨#[102,117,110,99,116,105,111,110]⟩:Str),1369),((⟨#[102,117,110,99,116,105,111,110,95,110,97,109,101]⟩:Str),1376),((⟨#[112,97,114,97,109,101,116,101,114,115]⟩:Str),1383),((⟨#[98,111,100,121]⟩:Str),1245),((⟨#[110,101,101,100,95,116,97,114,103,101,116]⟩:Str),1130),((⟨#[111,112,101,114,97,110,100,95,98,101,104,105,110,100]⟩:Str),1165),((⟨#[99,114,101,97,116,105,111,110]⟩:Str),1193),((⟨#[97,114,103,117,109,101,110,116,115]⟩:Str),1200),((⟨#[119,111,114,100,95,111,112,101,114,97,110,100]⟩:Str),1214),((⟨#[97,114,114,97,121]⟩:Str),1221),((⟨#[110,101,101,100,95,110,97,109,101]⟩:Str),1054),((⟨#[110,101,101,100,95,98,105,110,100,105,110,103]⟩:Str),1061),((⟨#[112,114,111,112,101,114,116,121,95,110,97,109,101]⟩:Str),1068)]),
 (843,[((⟨#[110,101,120,116]⟩:Str),721),((⟨#[115,107,105,112,95,98,108,97,110,107,115]⟩:Str),742),((⟨#[114,101,97,100,95,112,117,110,99,116]⟩:Str),840),((⟨#[110,97,109,101,95,115,105,103,110]⟩:Str),756),((⟨#[114,101,97,100,95,110,97,109,101]⟩:Str),763),((⟨#[114,101,97,100,95,116,101,120,116]⟩:Str),826),((⟨#[114,101,97,100,95,110,117,109,98,101,114]⟩:Str),777),((⟨#[115,107,105,112,95,100,105,103,105,116,115]⟩:Str),770),((⟨#[114,101,97,100,95,100,101,99,105,109,97,108]⟩:Str),798),((⟨#[114,101,97,100,95,101,120,112,111,110,101,110,116]⟩:Str),805),((⟨#[101,115,99,97,112,101,100]⟩:Str),833)])]
noncomputable def IW:List (Nat × List Str):=[(662,[(⟨#[107,105,110,100]⟩:Str),(⟨#[118,97,108,117,101]⟩:Str),(⟨#[108,105,110,101]⟩:Str),(⟨#[105,115,95,112,108,97,105,110]⟩:Str),(⟨#[101,110,100]⟩:Str),(⟨#[105,115,95,98,101,104,105,110,100,95,108,105,110,101]⟩:Str),(⟨#[105,115,95,111,99,116,97,108]⟩:Str),(⟨#[115,116,97,114,116]⟩:Str)]),(1469,[(⟨#[116,111,107,101,110]⟩:Str),(⟨#[108,101,120,101,114]⟩:Str),(⟨#[108,97,116,101,114]⟩:Str),(⟨#[105,115,95,115,116,114,105,99,116]⟩:Str),(⟨#[110,101,115,116,101,100]⟩:Str),(⟨#[100,101,112,116,104]⟩:Str),(⟨#[106,117,109,112,115]⟩:Str),(⟨#[112,101,110,100,105,110,103]⟩:Str)]),(843,[(⟨#[116,101,120,116]⟩:Str),(⟨#[97,116]⟩:Str),(⟨#[108,105,110,101]⟩:Str)]),(31,[(⟨#[107,105,110,100]⟩:Str),(⟨#[112,97,114,116,115]⟩:Str),(⟨#[108,105,110,101]⟩:Str),(⟨#[115,99,111,112,101]⟩:Str)]),(945,[(⟨#[108,97,98,101,108,115]⟩:Str),(⟨#[108,111,111,112,115]⟩:Str),(⟨#[115,119,105,116,99,104,101,115]⟩:Str)])]
noncomputable def N4:List (Nat × Bool × Nat):=[(31,true,28),(945,true,927),(662,false,659),(843,false,714),(1469,false,963)]
noncomputable def Jo:List Nat:=[28,927,659,714,963]
noncomputable def TT:bP:=⟨No,Ps,Jj,IW,N4,Jo,[10,33,181,240,350,435,614,717,925,1021,1070,1087,1219,1274],[10,378],[1428],[31],697⟩
end Mine
end
section
namespace Mine
structure FP where
 T:bP
 m:Nat
 pz:List Nat
 cz:List Nat
 mz:List Nat
 nx:Nat
 sp:Nat
 lx:Nat
 nn:Nat
 pu:List Nat
 pn:Nat
abbrev LF:=List (Str × PV)
inductive An where
 | inl | val (o:O (PV × List MO))
abbrev PU:=Nat × List PV × PV
inductive PA where
 | auto | b (v:Bool) | v (v:PV) | s (v:PV × St) | w (v:PV)
inductive Lg where
 | call (n f:Nat) (ws:List PV) (g:List MO) (o:O (PV × List MO))
 | pb (x:Option Bool) (v:Bool)
 | pv (x:St→Option PV) (v:PV)
 | ps (x:Option (PV × St)) (v:PV × St)
 | pw (x:St→Option PV) (st:St) (v:PV)
 | ct (a b:List Nat)
 | jn (s:List Nat) (vs:List FV) (t:List Nat)
structure FC where
 q:List (FV × LF)
 cuts:List (Nat × List An)
 ps:List PA
 pu:List PU
 nl:List (LF × FV × LF)
 ul:List PU
 cl:List Lg
noncomputable def Kc (p:Str × PV):Bool:=oe (cQ p.2) (fun _=>true) false
noncomputable def C8 (p:Str × PV):Bool:=oe (sM p.2) (fun k=>Nat.beq k 1) false
noncomputable def mB (n:Nat):LF→Bool:=@Nat.rec (fun _=>LF→Bool) bV (fun _ k l=>@List.rec (Str × PV) (fun _=>Bool) false (fun p r _=>Kc p&&k r) l) n
noncomputable def z7 (l:LF):Bool:=@List.rec (Str × PV) (fun _=>Bool) false (fun p r _=>C8 p&&mB 7 r) l
noncomputable def FX (l:LF):Bool:=@List.rec (Str × PV) (fun _=>Bool) false (fun p r _=>C8 p&&mB 0 r) l
noncomputable def EE (l:LF):Bool:=mB 3 l
noncomputable def Le (l:LF):Bool:=mB 8 l
noncomputable def mF (m:MO) (p:LF→Bool):Bool:=oe (pG m) (fun q=>p q.2) false
noncomputable def Eh (g:List MO):Bool:=oe (mM g) (fun p=>mF p.1 (fun a=>z7 a||FX a)&&mF p.2 EE) (oe (Bh g) (fun p=>mF p.1 (fun a=>z7 a||FX a)&&(mF p.2.1 EE&&mF p.2.2 Le)) false)
noncomputable def FP.NX (P:FP) (e:LF × FV × LF):Prop:=∀ fs,z7 fs=true→∀ k,run P.T P.m (k + P.nn) P.nx [.ref 1] [.inst P.sp fs,.inst P.lx e.1]=.ok (.f e.2.1,[.inst P.sp fs,.inst P.lx e.2.2])
noncomputable def FP.Holds (P:FP) (k:Nat) (l:Lg):Prop:=match l with
 | .call n f ws g o=>run P.T P.m (k + n) f ws g=o
 | .pb x v=>x=some v
 | .pv x v=>∀ st,x st=some v
 | .ps x v=>x=some v
 | .pw x st v=>x st=some v
 | .ct a b=>fits (a.length + b.length)=true
 | .jn s vs t=>oO s vs=some (.f (.str t))
noncomputable def FP.PR (P:FP) (e:PU):Prop:=∀ g,Eh g=true→∀ k,run P.T P.m (k + P.pn) e.1 e.2.1 g=.ok (e.2.2,g)
structure FP.All (P:FP) (k:Nat) (c:FC):Prop where
 n:∀ e ∈ c.nl,P.NX e
 u:∀ e ∈ c.ul,P.PR e
 l:∀ l ∈ c.cl,P.Holds k l
structure qM (c c':FC):Prop where
 n:∀ e ∈ c.nl,e ∈ c'.nl
 u:∀ e ∈ c.ul,e ∈ c'.ul
 l:∀ l ∈ c.cl,l ∈ c'.cl
theorem qM.refl (c:FC):qM c c:=⟨fun _ h=>h,fun _ h=>h,fun _ h=>h⟩
theorem qM.trans {a b c:FC} (h:qM a b) (h':qM b c):qM a c:=⟨fun _ x=>h'.n _ (h.n _ x),fun _ x=>h'.u _ (h.u _ x),fun _ x=>h'.l _ (h.l _ x)⟩
theorem FP.All.back {P:FP}{k:Nat}{c c':FC} (h:qM c c') (H:P.All k c'):P.All k c:=⟨fun _ x=>H.n _ (h.n _ x),fun _ x=>H.u _ (h.u _ x),fun _ x=>H.l _ (h.l _ x)⟩
abbrev Hd:=Nat→List PV→List MO→FC→Option (O (PV × List MO) × FC)
noncomputable def FP.pause (P:FP) (m:Nat):Bool:=d5 m P.pz||d5 m P.mz
noncomputable def FP.logs (P:FP) (m:Nat):Bool:=!d5 m P.pz&&(d5 m P.cz||d5 m P.mz)
noncomputable def mK {β:Type} (x:Option β) (c:FC):Option (O β × FC):=x.bind fun v=>some (.ok v,c)
noncomputable def FC.log (c:FC) (r:List PA) (l:Lg):FC:={ c with ps:=r,cl:=l::c.cl }
noncomputable def GF {γ:Type} (ps:List PA) (nil:γ) (auto:List PA→γ) (b:Bool→List PA→γ) (v:PV→List PA→γ) (s:PV × St→List PA→γ) (w:PV→List PA→γ):γ:=@List.rec PA (fun _=>γ) nil (fun p r _=>@PA.rec (fun _=>γ) (auto r) (fun x=>b x r) (fun x=>v x r) (fun x=>s x r) (fun x=>w x r) p) ps
noncomputable def K7 (z:Bool) (x:Option Bool) (c:FC):Option (O Bool × FC):=bif z then GF c.ps (mK x c) (fun r=>mK x { c with ps:=r }) (fun v r=>some (.ok v,c.log r (.pb x v))) (fun _ _=>none) (fun _ _=>none) (fun _ _=>none) else mK x c
noncomputable def Aw (z:Bool) (x:St→Option PV) (st:St) (c:FC):Option (O PV × FC):=bif z then GF c.ps (mK (x st) c) (fun r=>mK (x st) { c with ps:=r }) (fun _ _=>none) (fun v r=>some (.ok v,c.log r (.pv x v))) (fun _ _=>none) (fun v r=>some (.ok v,c.log r (.pw x st v))) else mK (x st) c
noncomputable def LT (z:Bool) (x:Option (PV × St)) (c:FC):Option (O (PV × St) × FC):=bif z then GF c.ps (mK x c) (fun r=>mK x { c with ps:=r }) (fun _ _=>none) (fun _ _=>none) (fun v r=>some (.ok v,c.log r (.ps x v))) (fun _ _=>none) else mK x c
noncomputable def oP:St:=⟨[],[],[],[]⟩
noncomputable def HQ (P:FP) (h:Hd) (m:Nat) (q:Qn):FC→Option (O q.A × FC):=@Qn.rec (fun q=>FC→Option (O q.A × FC)) (fun f ws g c=>h f ws g c) (fun x c=>K7 (P.pause m) x c) (fun x st c=>Aw (P.pause m) x st c) (fun x c=>LT (P.pause m) x c)
 (fun a b c=>bif P.logs m then some (.ok (.f (.str (a++b))),{ c with cl:=.ct a b::c.cl }) else Aw (P.pause m) (fun _=>rV a b) oP c)
 (fun s vs c=>bif P.logs m then (n0 s vs).bind fun t=>some (.ok (.f (.str t)),{ c with cl:=.jn s vs t::c.cl }) else Aw (P.pause m) (fun _=>oO s vs) oP c) q
noncomputable def GT {α:Type} (P:FP) (h:Hd) (x:Pg α):FC→Option (O α × FC):=@Pg.rec α (fun _=>FC→Option (O α × FC)) (fun _=>none) (fun c=>some (.raise,c)) (fun a c=>some (.ok a,c)) (fun b m q _ ih c=>(HQ P h m q c).bind fun r=>@O.rec q.A (fun _=>Option (O α × FC)) none (bif b then none else some (.raise,r.2)) (fun v=>ih v r.2) r.1) x
noncomputable def dY {β:Type} (P:FP) (k:Nat) (c:FC) (x:O β) (r:Option (O β × FC)):Prop:=∀ o c',r=some (o,c')→qM c c'∧(P.All k c'→x=o)
section
variable {P:FP}{k:Nat}{c:FC}
theorem dY.none {β:Type}{x:O β}:dY P k c x none:=fun _ _=>nk3
theorem dY.ev {β:Type}{x:Option β}{c₁:FC} (e:qM c c₁):dY P k c (eJ x) (mK x c₁):=fun o c' h=>ob h fun v hv h=>dK (Option.some.inj h) fun h1 h2=>⟨h2 ▸ e,fun _=>by rw[hv];exact h1⟩
theorem dY.log {β:Type}{x:O β}{v:β}{r:List PA}{l:Lg} (h:P.Holds k l→x=.ok v):dY P k c x (some (.ok v,c.log r l)):=fun o c' e=>dK (Option.some.inj e) fun h1 h2=>⟨h2 ▸ ⟨fun _ h=>h,fun _ h=>h,fun _ h=>.tail _ h⟩,fun a=>h1 ▸ h (a.l _ (h2 ▸ .head _))⟩
theorem Ai {γ:Type}{M:γ→Prop}{ps:List PA}{nil:γ}{auto:List PA→γ}{b:Bool→List PA→γ}{v:PV→List PA→γ}{s:PV × St→List PA→γ}{w:PV→List PA→γ} (h1:M nil) (h2:∀ r,M (auto r)) (h3:∀ x r,M (b x r)) (h4:∀ x r,M (v x r)) (h5:∀ x r,M (s x r)) (h6:∀ x r,M (w x r)):M (GF ps nil auto b v s w):=by
 cases ps with
 | nil=>exact h1
 | cons p r=>cases p with
  | auto=>exact h2 r
  | b x=>exact h3 x r
  | v x=>exact h4 x r
  | s x=>exact h5 x r
  | w x=>exact h6 x r
theorem xZ (r:List PA):qM c { c with ps:=r }:=⟨fun _ h=>h,fun _ h=>h,fun _ h=>h⟩
theorem Hp {z:Bool}{x:Option Bool}:dY P k c (eJ x) (K7 z x c):=by
 cases z with
 | false=>exact .ev (.refl c)
 | true=>exact Ai (M:=dY P k c (eJ x)) (.ev (.refl c)) (fun r=>.ev (xZ r)) (fun v r=>.log fun h=>congrArg eJ h) (fun _ _=>.none) (fun _ _=>.none) fun _ _=>.none
theorem JK {z:Bool}{x:Option (PV × St)}:dY P k c (eJ x) (LT z x c):=by
 cases z with
 | false=>exact .ev (.refl c)
 | true=>exact Ai (M:=dY P k c (eJ x)) (.ev (.refl c)) (fun r=>.ev (xZ r)) (fun _ _=>.none) (fun _ _=>.none) (fun v r=>.log fun h=>congrArg eJ h) fun _ _=>.none
theorem uF {z:Bool}{x:St→Option PV}{st:St}:dY P k c (eJ (x st)) (Aw z x st c):=by
 cases z with
 | false=>exact .ev (.refl c)
 | true=>exact Ai (M:=dY P k c (eJ (x st))) (.ev (.refl c)) (fun r=>.ev (xZ r)) (fun _ _=>.none) (fun v r=>.log fun h=>congrArg eJ (h st)) (fun _ _=>.none) fun v r=>.log fun h=>congrArg eJ h
noncomputable def Cd (P:FP) (k:Nat) (C:bW) (h:Hd):Prop:=∀ f ws g c,dY P k c (C f ws g) (h f ws g c)
theorem JA {a b:List Nat} (h:fits (a.length + b.length)=true):eJ (rV a b)=.ok (.f (.str (a++b))):=by
 show eJ ((gd (fits (a.length + b.length)) _).bind _)=_
 rw[h];rfl
theorem LS {C:bW}{h:Hd} (hh:Cd P k C h) (m:Nat) (q:Qn):dY P k c (q.run C) (HQ P h m q c):=by
 cases q with
 | call f ws g=>exact hh f ws g c
 | pb x=>exact Hp
 | pv x st=>exact uF
 | ps x=>exact JK
 | cat a b=>exact Bm (P:=dY P k c (eJ (rV a b))) (fun _=>dY.log (r:=c.ps) (l:=.ct a b) JA) fun _=>uF (x:=fun _=>rV a b)
 | jo s vs=>exact Bm (P:=dY P k c (eJ (oO s vs))) (fun _=>fun o c' e=>ob e fun t _ e=>dY.log (r:=c.ps) (l:=.jn s vs t) (fun h=>congrArg eJ h) o c' e) fun _=>uF (x:=fun _=>oO s vs)
theorem DR {α:Type}{C:bW}{h:Hd} (hh:Cd P k C h) (x:Pg α):∀ c,dY P k c (aN C x) (GT P h x c):=by
 induction x with
 | stuck=>exact fun c=>.none
 | raise=>exact fun c o c' e=>dK (Option.some.inj e) fun h1 h2=>⟨h2 ▸ .refl c,fun _=>h1⟩
 | ok a=>exact fun c o c' e=>dK (Option.some.inj e) fun h1 h2=>⟨h2 ▸ .refl c,fun _=>h1⟩
 | ask b m q kk ih =>
  intro c o c' e
  refine ob (x:=HQ P h m q c) e fun r h1 e=>?_
  obtain⟨o1,c1⟩:=r
  obtain⟨x1,h1⟩:=LS hh m q o1 c1 h1
  show _∧(_→(kI b (q.run C)).bind (fun r=>aN C (kk r))=o)
  cases o1 with
  | stuck=>exact nk3 e
  | raise =>
   cases b with
   | true=>exact nk3 e
   | false=>exact dK (a:=O.raise) (b:=c1) (Option.some.inj e) fun e1 e2=>⟨e2 ▸ x1,fun ha=>by rw[h1 (e2 ▸ ha)];exact e1⟩
  | ok v =>
   obtain⟨x2,h2⟩:=ih v c1 o c' e
   refine⟨x1.trans x2,fun ha=>?_⟩
   rw[h1 (ha.back x2)]
   cases b<;>exact h2 ha
theorem Kz {α:Type}{h:Hd} (x:Pg α):∀ {c c':FC},GT P h x c=some (.stuck,c')→False:=by
 induction x with
 | stuck=>exact fun e=>nk3 e
 | raise=>exact fun e=>dK (Option.some.inj e) fun e _=>by cases e
 | ok a=>exact fun e=>dK (Option.some.inj e) fun e _=>nk1 e.symm
 | ask b m q kk ih =>
  intro c c' e
  refine ob (x:=HQ P h m q c) e fun r _ e=>?_
  obtain⟨o1,c1⟩:=r
  cases o1 with
  | stuck=>exact nk3 e
  | raise=>cases b with
   | true=>exact nk3 e
   | false=>exact dK (a:=O.raise) (b:=c1) (Option.some.inj e) fun e _=>by cases e
  | ok v=>exact ih v e
end
noncomputable def hd? {α:Type} (l:List α):Option (α × List α):=@List.rec α (fun _=>Option (α × List α)) none (fun x r _=>some (x,r)) l
noncomputable def HX (P:FP) (n:Nat) (ws:List PV) (g:List MO) (c:FC):Option (O (PV × List MO) × FC):=(one ws).bind fun w=>(sM w).bind fun k=>gd (Nat.beq k 1) ((mM g).bind fun p=>(pG p.1).bind fun a=>(pG p.2).bind fun b=>(hd? c.q).bind fun t=>gd (Nat.beq a.1 P.sp) (gd (Nat.beq b.1 P.lx) (gd (z7 a.2) (gd (Nat.ble P.nn n)
 (some (.ok (.f t.1.1,[.inst a.1 a.2,.inst b.1 t.1.2]),{ c with q:=t.2,nl:=(b.2,t.1.1,t.1.2)::c.nl }))))))
noncomputable def QC (f:Nat) (l:List (Nat × List An)):Option (An × List (Nat × List An)):=@List.rec (Nat × List An) (fun _=>Option (An × List (Nat × List An))) none (fun p r ih=>bif Nat.beq f p.1 then (hd? p.2).bind fun x=>some (x.1,(p.1,x.2)::r) else ih.bind fun x=>some (x.1,p::x.2)) l
noncomputable def Nb (P:FP) (n f:Nat) (ws:List PV) (g:List MO) (c:FC):Option (O (PV × List MO) × FC):=(hd? c.pu).bind fun p=>gd (Eh g) (gd (Nat.ble P.pn n) (some (.ok (p.1.2.2,g),{ c with pu:=p.2,ul:=(f,ws,p.1.2.2)::c.ul })))
noncomputable def QB (g:List MO):Bool:=oe (mM g) (fun p=>mF p.1 z7&&mF p.2 fun _=>true) false
noncomputable def P2 (rec:Hd) (n f:Nat) (ws:List PV) (g:List MO) (c:FC) (a:An) (r:List (Nat × List An)):Option (O (PV × List MO) × FC):=@An.rec (fun _=>Option (O (PV × List MO) × FC)) (rec f ws g { c with cuts:=r }) (fun o=>some (o,{ c with cuts:=r,cl:=.call n f ws g o::c.cl })) a
noncomputable def K0 (P:FP) (rec:Hd) (n:Nat):Hd:=fun f ws g c=>bif Nat.beq f P.nx&&QB g then HX P n ws g c else bif d5 f P.pu then Nb P n f ws g c else oe (QC f c.cuts) (fun x=>P2 rec n f ws g c x.1 x.2) (rec f ws g c)
noncomputable def BK (P:FP) (n:Nat):Hd:=@Nat.rec (fun _=>Hd) (fun _ _ _ _=>none) (fun n rec f ws g c=>GT P (K0 P rec n) (Gn P.T P.m f ws g) c) n
theorem EU {T:bP}{C:bW}{m f:Nat}{ws:List PV}{g:List MO}{o:O (PV × List MO)} (h:aN C (Gn T m f ws g)=o) (n:o ≠ .stuck):cG T C m f ws g=o:=by
 show(eJ (i0 T f ws g)).bind _=o
 replace h:aN C (opt (i0 T f ws g) fun q=>oe (cW q.1.body) (fun _=>.stuck) (iC T m f g q))=o:=h
 cases h0:i0 T f ws g with
 | none=>rw[h0]at h;exact absurd h.symm n
 | some q =>
  rw[h0]at h
  replace h:aN C (oe (cW q.1.body) (fun _=>.stuck) (iC T m f g q))=o:=h
  show oe (cW q.1.body) _ _=o
  cases h1:cW q.1.body with
  | some p=>rw[h1]at h;exact absurd h.symm n
  | none=>rw[h1]at h;exact h
theorem HW {a n:Nat} (k:Nat) (h:Nat.ble a n=true):k + (n - a) + a=k + n:=by rw[Nat.add_assoc,Nat.sub_add_cancel (Nat.le_of_ble_eq_true h)]
section
variable {P:FP}{k n:Nat}
theorem Ea {ws:List PV}{g:List MO}{c:FC}:dY P k c (run P.T P.m (k + n) P.nx ws g) (HX P n ws g c):=fun o c' e =>
 ob e fun w hw e=>ob e fun j hj e=>aD e fun h1 e=>ob e fun p hp e=>ob e fun a ha e=>ob e fun b hb e=>ob e fun t ht e=>aD e fun h2 e=>aD e fun h3 e=>aD e fun h4 e=>aD e fun h5 e=>dK (Option.some.inj e) fun e1 e2=>⟨e2 ▸ ⟨fun _ x=>.tail _ x,fun _ x=>x,fun _ x=>x⟩,fun hA=>by
  have q:=(hA.n (b.2,t.1.1,t.1.2) (e2 ▸ .head _)) a.2 h4 (k + (n - P.nn))
  rw[HW k h5]at q
  rw[eA hw,pK hj,Nat.eq_of_beq_eq_true h1,kB hp,oH ha,oH hb,Nat.eq_of_beq_eq_true h2,Nat.eq_of_beq_eq_true h3,← e1,Nat.eq_of_beq_eq_true h2,Nat.eq_of_beq_eq_true h3]
  exact q⟩
theorem Dp {rec:Hd} (hr:Cd P k (run P.T P.m (k + n)) rec):Cd P k (run P.T P.m (k + n)) (K0 P rec n):=by
 intro f ws g c
 refine Bm (P:=dY P k c _) (fun h=>?_) fun _=>Bm (P:=dY P k c _) (fun _=>?_) fun _=>qP (P:=dY P k c _) (fun x _=>?_) fun _=>hr f ws g c
 ·rw[Nat.eq_of_beq_eq_true (Bool.and_eq_true_iff.1 h).1];exact Ea
 ·exact fun o c' e=>ob e fun p hp e=>aD e fun h1 e=>aD e fun h2 e=>dK (Option.some.inj e) fun e1 e2=>⟨e2 ▸ ⟨fun _ x=>x,fun _ x=>.tail _ x,fun _ x=>x⟩,fun hA=>by
   have q:=(hA.u (f,ws,p.1.2.2) (e2 ▸ .head _)) g h1 (k + (n - P.pn))
   rw[HW k h2]at q
   rw[← e1];exact q⟩
 ·obtain⟨a,r⟩:=x
  cases a with
  | inl=>exact fun o c' e=>have q:=hr f ws g _ o c' e;⟨⟨q.1.n,q.1.u,q.1.l⟩,q.2⟩
  | val o₁=>exact fun o c' e=>dK (Option.some.inj e) fun e1 e2=>⟨e2 ▸ ⟨fun _ x=>x,fun _ x=>x,fun _ x=>.tail _ x⟩,fun hA=>e1 ▸ (hA.l (.call n f ws g o₁) (e2 ▸ .head _):P.Holds k (.call n f ws g o₁))⟩
theorem x9 (P:FP) (k n:Nat):Cd P k (run P.T P.m (k + n)) (BK P n):=by
 induction n with
 | zero=>exact fun _ _ _ _ _ _=>nk3
 | succ n ih=>exact fun f ws g c o c' e=>have q:=DR (Dp ih) _ c o c' e;⟨q.1,fun hA=>EU (q.2 hA) fun z=>Kz _ (z ▸ e)⟩
end
noncomputable def FC.fin (c:FC):List (LF × FV × LF) × List PU × List Lg:=(c.nl.reverse,c.ul.reverse,c.cl.reverse)
noncomputable def dE (P:FP) (n f:Nat) (ws:List PV) (g:List MO) (q:List (FV × LF)) (pu:List PU) (cuts:List (Nat × List An)) (ps:List PA):Option (O (PV × List MO) × List (LF × FV × LF) × List PU × List Lg):=(BK P n f ws g ⟨q,cuts,ps,pu,[],[],[]⟩).bind fun r=>some (r.1,r.2.fin)
noncomputable def Ma {α:Type} (P:FP) (n:Nat) (x:Pg α) (pu:List PU) (cuts:List (Nat × List An)) (ps:List PA):Option (O α × List PU × List Lg):=(GT P (K0 P (BK P n) n) x ⟨[],cuts,ps,pu,[],[],[]⟩).bind fun r=>gd (bV r.2.nl) (some (r.1,r.2.fin.2))
theorem zK {P:FP}{k:Nat}{c:FC}{r:List (LF × FV × LF) × List PU × List Lg} (h:c.fin=r) (h1:∀ e ∈ r.1,P.NX e) (h2:∀ e ∈ r.2.1,P.PR e) (h3:∀ l ∈ r.2.2,P.Holds k l):P.All k c :=
 ⟨fun e he=>h1 e (h ▸ List.mem_reverse.2 he),fun e he=>h2 e (h ▸ List.mem_reverse.2 he),fun l hl=>h3 l (h ▸ List.mem_reverse.2 hl)⟩
theorem dZ {α:Type}{P:FP}{n:Nat}{x:Pg α}{pu:List PU}{cuts:List (Nat × List An)}{ps:List PA}{o:O α}{ul:List PU}{cl:List Lg}
  (h:Ma P n x pu cuts ps=some (o,ul,cl)) (k:Nat) (h2:∀ e ∈ ul,P.PR e) (h3:∀ l ∈ cl,P.Holds k l):aN (run P.T P.m (k + n)) x=o :=
 ob h fun r hr h=>aD h fun hn h=>dK (Option.some.inj h) fun e1 e2=>e1 ▸ (DR (Dp (x9 P k n)) x _ r.1 r.2 hr).2 (zK (r:=([],ul,cl)) (by show(r.2.nl.reverse,r.2.fin.2)=_;rw[bN hn,e2];rfl) iJ h2 h3)
theorem aI {P:FP}{n f:Nat}{ws:List PV}{g:List MO}{q:List (FV × LF)}{pu:List PU}{cuts:List (Nat × List An)}{ps:List PA}{o:O (PV × List MO)}{nl:List (LF × FV × LF)}{ul:List PU}{cl:List Lg}
  (h:dE P n f ws g q pu cuts ps=some (o,nl,ul,cl)) (k:Nat) (h1:∀ e ∈ nl,P.NX e) (h2:∀ e ∈ ul,P.PR e) (h3:∀ l ∈ cl,P.Holds k l):run P.T P.m (k + n) f ws g=o :=
 ob h fun r hr h=>dK (Option.some.inj h) fun e1 e2=>e1 ▸ (x9 P k n f ws g _ r.1 r.2 hr).2 (zK e2 h1 h2 h3)
end Mine
end
section
namespace Mine
structure K8 where
 (k1 k2 k3 k4 k5 k6 k7 k8:Str)
 (x1 x2 x3 x4 x5 x6 x7 x8:FV)
noncomputable def K8.p (s:K8):LF:=[(s.k1,.ref 1),(s.k2,.f s.x2),(s.k3,.f s.x3),(s.k4,.f s.x4),(s.k5,.f s.x5),(s.k6,.f s.x6),(s.k7,.f s.x7),(s.k8,.f s.x8)]
noncomputable def K8.t (s:K8):LF:=[(s.k1,.f s.x1),(s.k2,.f s.x2),(s.k3,.f s.x3),(s.k4,.f s.x4),(s.k5,.f s.x5),(s.k6,.f s.x6),(s.k7,.f s.x7),(s.k8,.f s.x8)]
structure K3 where
 (k1 k2 k3:Str)
 (x1 x2 x3:FV)
noncomputable def K3.l (s:K3):LF:=[(s.k1,.f s.x1),(s.k2,.f s.x2),(s.k3,.f s.x3)]
structure KD where
 (a b c:Nat)
 s:K8
 k:Str
 l:K3
 t:K8
noncomputable def KD.g1 (d:KD):List MO:=[.inst d.a d.s.p,.inst d.b d.l.l]
noncomputable def KD.g2 (d:KD):List MO:=[.inst d.a [(d.k,.ref 1)],.inst d.b d.l.l]
noncomputable def KD.g3 (d:KD):List MO:=[.inst d.a d.s.p,.inst d.b d.l.l,.inst d.c d.t.t]
noncomputable def KD.g4 (d:KD):List MO:=[.inst d.a [(d.k,.ref 1)],.inst d.b d.l.l,.inst d.c d.t.t]
theorem JG {p:Str × PV} (h:Kc p=true):∃ k x,p=(k,.f x):=by
 obtain⟨x,hx,_⟩:=mD (p:=fun _=>true) h
 exact⟨p.1,x,by rw[← mT hx]⟩
theorem AL {p:Str × PV} (h:C8 p=true):∃ k,p=(k,.ref 1):=by
 obtain⟨j,hj,h⟩:=mD h
 exact⟨p.1,by rw[← Nat.eq_of_beq_eq_true h,← pK hj]⟩
theorem fU {n:Nat}{l:LF} (h:mB (n + 1) l=true):∃ k x r,l=(k,.f x)::r∧mB n r=true:=by
 cases l with
 | nil=>exact nk6 h
 | cons p r =>
  obtain⟨h1,h2⟩:=Bool.and_eq_true_iff.1 (h:(Kc p&&mB n r)=true)
  obtain⟨k,x,rfl⟩:=JG h1
  exact⟨k,x,r,rfl,h2⟩
theorem D1 {l:LF} (h:mB 7 l=true):∃ k2 k3 k4 k5 k6 k7 k8 x2 x3 x4 x5 x6 x7 x8,l=[(k2,.f x2),(k3,.f x3),(k4,.f x4),(k5,.f x5),(k6,.f x6),(k7,.f x7),(k8,.f x8)]:=by
 obtain⟨k2,x2,r2,rfl,q2⟩:=fU h
 obtain⟨k3,x3,r3,rfl,q3⟩:=fU q2
 obtain⟨k4,x4,r4,rfl,q4⟩:=fU q3
 obtain⟨k5,x5,r5,rfl,q5⟩:=fU q4
 obtain⟨k6,x6,r6,rfl,q6⟩:=fU q5
 obtain⟨k7,x7,r7,rfl,q7⟩:=fU q6
 obtain⟨k8,x8,r8,rfl,q8⟩:=fU q7
 exact⟨k2,k3,k4,k5,k6,k7,k8,x2,x3,x4,x5,x6,x7,x8,by rw[bN (l:=r8) q8]⟩
theorem tU {fs:LF} (e:z7 fs=true):∃ s:K8,fs=s.p:=by
 cases fs with
 | nil=>exact nk6 e
 | cons p r =>
  obtain⟨h1,h2⟩:=Bool.and_eq_true_iff.1 (e:(C8 p&&mB 7 r)=true)
  obtain⟨k1,rfl⟩:=AL h1
  obtain⟨k2,k3,k4,k5,k6,k7,k8,x2,x3,x4,x5,x6,x7,x8,rfl⟩:=D1 h2
  exact⟨⟨k1,k2,k3,k4,k5,k6,k7,k8,.none,x2,x3,x4,x5,x6,x7,x8⟩,rfl⟩
theorem xR {fs:LF} (e:FX fs=true):∃ k,fs=[(k,.ref 1)]:=by
 cases fs with
 | nil=>exact nk6 e
 | cons p r =>
  obtain⟨h1,h2⟩:=Bool.and_eq_true_iff.1 (e:(C8 p&&mB 0 r)=true)
  obtain⟨k1,rfl⟩:=AL h1
  exact⟨k1,by rw[bN (l:=r) h2]⟩
theorem yQ {fs:LF} (e:EE fs=true):∃ s:K3,fs=s.l:=by
 obtain⟨k1,x1,r1,rfl,q1⟩:=fU e
 obtain⟨k2,x2,r2,rfl,q2⟩:=fU q1
 obtain⟨k3,x3,r3,rfl,q3⟩:=fU q2
 exact⟨⟨k1,k2,k3,x1,x2,x3⟩,by rw[bN (l:=r3) q3];rfl⟩
theorem Fx {fs:LF} (e:Le fs=true):∃ s:K8,fs=s.t:=by
 obtain⟨k1,x1,r1,rfl,q⟩:=fU e
 obtain⟨k2,k3,k4,k5,k6,k7,k8,x2,x3,x4,x5,x6,x7,x8,rfl⟩:=D1 q
 exact⟨⟨k1,k2,k3,k4,k5,k6,k7,k8,x1,x2,x3,x4,x5,x6,x7,x8⟩,rfl⟩
theorem pC {m:MO}{p:LF→Bool} (h:mF m p=true):∃ C fs,m=.inst C fs∧p fs=true:=by
 obtain⟨q,hq,h⟩:=mD (o:=pG m) (p:=fun q=>p q.2) h
 exact⟨q.1,q.2,oH hq,h⟩
noncomputable def z8:K8:=⟨⟨#[]⟩,⟨#[]⟩,⟨#[]⟩,⟨#[]⟩,⟨#[]⟩,⟨#[]⟩,⟨#[]⟩,⟨#[]⟩,.none,.none,.none,.none,.none,.none,.none,.none⟩
theorem F6 {g:List MO} (e:Eh g=true) {M:List MO→Prop} (m1:∀ d:KD,M d.g1) (m2:∀ d:KD,M d.g2) (m3:∀ d:KD,M d.g3) (m4:∀ d:KD,M d.g4):M g:=by
 revert e
 refine qP (P:=fun b=>b=true→M g) (fun p hp e=>?_) fun _=>qP (P:=fun b=>b=true→M g) (fun p hp e=>?_) fun _=>nk6
 ·obtain⟨h1,h2⟩:=Bool.and_eq_true_iff.1 e
  obtain⟨C,fs,e1,h1⟩:=pC h1
  obtain⟨D,l,e2,h2⟩:=pC h2
  obtain⟨l,rfl⟩:=yQ h2
  rw[kB hp,e1,e2]
  rcases Bool.or_eq_true_iff.1 h1 with h | h
  ·obtain⟨s,rfl⟩:=tU h;exact m1 ⟨C,D,0,s,⟨#[]⟩,l,z8⟩
  ·obtain⟨k,rfl⟩:=xR h;exact m2 ⟨C,D,0,z8,k,l,z8⟩
 ·obtain⟨h1,h2⟩:=Bool.and_eq_true_iff.1 e
  obtain⟨h2,h3⟩:=Bool.and_eq_true_iff.1 h2
  obtain⟨C,fs,e1,h1⟩:=pC h1
  obtain⟨D,l,e2,h2⟩:=pC h2
  obtain⟨B,t,e3,h3⟩:=pC h3
  obtain⟨l,rfl⟩:=yQ h2
  obtain⟨t,rfl⟩:=Fx h3
  rw[vH hp,e1,e2,e3]
  rcases Bool.or_eq_true_iff.1 h1 with h | h
  ·obtain⟨s,rfl⟩:=tU h;exact m3 ⟨C,D,B,s,⟨#[]⟩,l,t⟩
  ·obtain⟨k,rfl⟩:=xR h;exact m4 ⟨C,D,B,z8,k,l,t⟩
noncomputable def P0:FP:=⟨TT,5000,[],[],[],721,1469,843,25,[535,680],6⟩
theorem dU (pz:List Nat) (f:Nat) (ws:List PV) (v:PV) (ps:List PA) (cl:List Lg)
  (h1:∀ d:KD,dE { P0 with pz:=pz,pu:=[] } 6 f ws d.g1 [] [] [] ps=some (.ok (v,d.g1),[],[],cl))
  (h2:∀ d:KD,dE { P0 with pz:=pz,pu:=[] } 6 f ws d.g2 [] [] [] ps=some (.ok (v,d.g2),[],[],cl))
  (h3:∀ d:KD,dE { P0 with pz:=pz,pu:=[] } 6 f ws d.g3 [] [] [] ps=some (.ok (v,d.g3),[],[],cl))
  (h4:∀ d:KD,dE { P0 with pz:=pz,pu:=[] } 6 f ws d.g4 [] [] [] ps=some (.ok (v,d.g4),[],[],cl))
  (hc:∀ k,∀ l ∈ cl,P0.Holds k l):P0.PR (f,ws,v):=by
 intro g hg k
 refine F6 (M:=fun g=>run TT 5000 (k + 6) f ws g=.ok (v,g)) hg (fun d=>?_) (fun d=>?_) (fun d=>?_) fun d=>?_
 ·exact aI (h1 d) k iJ iJ (hc k)
 ·exact aI (h2 d) k iJ iJ (hc k)
 ·exact aI (h3 d) k iJ iJ (hc k)
 ·exact aI (h4 d) k iJ iJ (hc k)
noncomputable def At (t:List Nat) (a:Int) (rem:List Nat):Prop:=∃ pre:List Nat,t=pre++rem∧a=Int.ofNat pre.length∧fits t.length=true
theorem At.step {t:List Nat}{a:Int}{c:Nat}{r:List Nat} (h:At t a (c::r)):At t (a + 1) r:=by
 obtain⟨pre,h1,h2,h3⟩:=h
 refine⟨pre++[c],by simp[h1],?_,h3⟩
 rw[h2];simp
theorem At.fits {t:List Nat}{a:Int}{r:List Nat} (h:At t a r):fits t.length=true:=h.choose_spec.2.2
theorem I2 (pre:List Nat) (c:Nat) (r:List Nat):nth (pre++c::r) pre.length=some c:=by
 induction pre with
 | nil=>rfl
 | cons x p ih=>exact ih
theorem DG {a b:Nat} (h:a ≤ b) (hb:Mine.fits b=true):Mine.fits a=true:=Nat.ble_eq_true_of_le (Nat.le_trans h (Nat.le_of_ble_eq_true hb))
theorem At.nth {t:List Nat}{a:Int}{c:Nat}{r:List Nat} (h:At t a (c::r)):∀ st,bJ (.f (.str t)) (.f (.int a)) st=some (.f (.str [c])):=by
 obtain⟨pre,h1,h2,h3⟩:=h
 have hl:pre.length < t.length:=by rw[h1,List.length_append];exact Nat.lt_add_of_pos_right (Nat.succ_pos _)
 have hb:Nat.blt pre.length t.length=true:=Nat.ble_eq_true_of_le hl
 intro st
 rw[h2]
 show(gd (Nat.blt pre.length t.length) (gd (Mine.fits pre.length) (some pre.length))).bind _=_
 rw[hb,DG (Nat.le_of_lt hl) h3]
 show(Mine.nth t pre.length).bind _=_
 rw[h1,I2];rfl
noncomputable def Ey (t:List Nat):St→Option PV:=fun st=>oZ TT .len [.f (.str t)] st
theorem AG {t:List Nat} (h:Mine.fits t.length=true):∀ st,Ey t st=some (.f (.int t.length)):=by
 intro st
 show gd (Mine.fits t.length) _=_
 rw[h];rfl
theorem IM {t:List Nat}{a:Int}{c:Nat}{r:List Nat} (h:At t a (c::r)):P0.PR (535,[.f (.str t),.f (.int a)],.f (.int c)):=by
 refine dU [535] _ _ _ [.v (.f (.int t.length)),.b true,.v (.f (.str [c]))] [.pv (Ey t) (.f (.int t.length)),.pb (cM .Lt (.f (.int a)) (.f (.int t.length))) true,.pv (bJ (.f (.str t)) (.f (.int a))) (.f (.str [c]))] ?_ ?_ ?_ ?_ ?_
 ·intro d;kernel_rfl
 ·intro d;kernel_rfl
 ·intro d;kernel_rfl
 ·intro d;kernel_rfl
 ·intro k l hl
  simp only[List.mem_cons,List.not_mem_nil,or_false]at hl
  rcases hl with rfl | rfl | rfl
  ·exact AG h.fits
  ·obtain⟨pre,h1,h2,h3⟩:=h
   have:a < (t.length:Int):=by rw[h2,h1];simp;omega
   show some (decide (a < (t.length:Int)))=_
   rw[decide_eq_true this]
  ·exact h.nth
theorem zJ {t:List Nat}{a:Int} (h:At t a []):P0.PR (535,[.f (.str t),.f (.int a)],.f (.int (-1))):=by
 refine dU [535] _ _ _ [.v (.f (.int t.length)),.b false] [.pv (Ey t) (.f (.int t.length)),.pb (cM .Lt (.f (.int a)) (.f (.int t.length))) false] ?_ ?_ ?_ ?_ ?_
 ·intro d;kernel_rfl
 ·intro d;kernel_rfl
 ·intro d;kernel_rfl
 ·intro d;kernel_rfl
 ·intro k l hl
  simp only[List.mem_cons,List.not_mem_nil,or_false]at hl
  rcases hl with rfl | rfl
  ·exact AG h.fits
  ·obtain⟨pre,h1,h2,h3⟩:=h
   have:¬ a < (t.length:Int):=by rw[h2,h1];simp
   show some (decide (a < (t.length:Int)))=_
   rw[decide_eq_false this]
end Mine
end
section
namespace Mine
noncomputable def PT:FV:=oe (lk (Str.ofString "PUNCT_TABLE") TT.glob) (fun x=>x) .none
noncomputable def pO (t:List Nat) (a b:Int):St→Option PV:=fun _=>yB t (some a) (some b)
theorem rM (n k:Nat):clipAt n (Int.ofNat k)=min k n:=by
 unfold clipAt
 rw[if_neg (show ¬ Int.ofNat k < 0 from Int.not_lt.mpr (Int.natCast_nonneg k))]
 show(max 0 (min (k:Int) (n:Int))).toNat=_
 omega
theorem At.sl {t:List Nat}{a:Int}{r:List Nat} (h:At t a r) (i:Nat):∀ st,pO t a (a + Int.ofNat i) st=some (.f (.str (r.take i))):=by
 intro st
 have hf:=h.fits
 obtain⟨pre,h1,h2,h3⟩:=h
 show gd (Mine.fits t.length) _=_
 rw[hf]
 show some (PV.f (.str _))=_
 congr 3
 unfold cut
 simp only[Option.elim]
 have e1:clipAt t.length a=pre.length:=by
  subst h2
  rw[rM,h1,List.length_append]
  exact Nat.min_eq_left (Nat.le_add_right _ _)
 have e2:clipAt t.length (a + Int.ofNat i)=min (pre.length + i) t.length:=by
  subst h2
  exact rM _ _
 rw[e1,e2,h1,List.drop_left,List.length_append,Nat.add_min_add_left,Nat.add_sub_cancel_left,List.take_eq_take_iff,Nat.min_assoc,Nat.min_self]
noncomputable def fF (p:List Nat):Option Bool:=cM .In (.f (.str p)) (.f PT)
theorem QT {t:List Nat}{a:Int}{r p:List Nat} (h:At t a r) (h4:fF (r.take 4)=some true):P0.PR (680,[.f (.str t),.f (.int a)],.f (.str (r.take 4))):=by
 refine dU [680] _ _ _ [.auto,.v (.f (.str (r.take 4))),.b true] [.pv (pO t a (a + Int.ofNat 4)) (.f (.str (r.take 4))),.pb (fF (r.take 4)) true] ?_ ?_ ?_ ?_ ?_
 ·intro d;kernel_rfl
 ·intro d;kernel_rfl
 ·intro d;kernel_rfl
 ·intro d;kernel_rfl
 ·intro k l hl
  simp only[List.mem_cons,List.not_mem_nil,or_false]at hl
  rcases hl with rfl | rfl
  ·exact h.sl 4
  ·exact h4
theorem Gp {t:List Nat}{a:Int}{r:List Nat} (h:At t a r) (h4:fF (r.take 4)=some false) (h3:fF (r.take 3)=some false) (h2:fF (r.take 2)=some true):P0.PR (680,[.f (.str t),.f (.int a)],.f (.str (r.take 2))):=by
 refine dU [680] _ _ _ [.auto,.v (.f (.str (r.take 4))),.b false,.auto,.v (.f (.str (r.take 3))),.b false,.auto,.v (.f (.str (r.take 2))),.b true] [.pv (pO t a (a + Int.ofNat 4)) (.f (.str (r.take 4))),.pb (fF (r.take 4)) false,.pv (pO t a (a + Int.ofNat 3)) (.f (.str (r.take 3))),.pb (fF (r.take 3)) false,.pv (pO t a (a + Int.ofNat 2)) (.f (.str (r.take 2))),.pb (fF (r.take 2)) true] ?_ ?_ ?_ ?_ ?_
 ·intro d;kernel_rfl
 ·intro d;kernel_rfl
 ·intro d;kernel_rfl
 ·intro d;kernel_rfl
 ·intro k l hl
  simp only[List.mem_cons,List.not_mem_nil,or_false]at hl
  rcases hl with rfl | rfl | rfl | rfl | rfl | rfl
  ·exact h.sl 4
  ·exact h4
  ·exact h.sl 3
  ·exact h3
  ·exact h.sl 2
  ·exact h2
theorem AO {t:List Nat}{a:Int}{r:List Nat} (h:At t a r) (h4:fF (r.take 4)=some false) (h3:fF (r.take 3)=some false) (h2:fF (r.take 2)=some false) (h1:fF (r.take 1)=some true):P0.PR (680,[.f (.str t),.f (.int a)],.f (.str (r.take 1))):=by
 refine dU [680] _ _ _ [.auto,.v (.f (.str (r.take 4))),.b false,.auto,.v (.f (.str (r.take 3))),.b false,.auto,.v (.f (.str (r.take 2))),.b false,.auto,.v (.f (.str (r.take 1))),.b true] [.pv (pO t a (a + Int.ofNat 4)) (.f (.str (r.take 4))),.pb (fF (r.take 4)) false,.pv (pO t a (a + Int.ofNat 3)) (.f (.str (r.take 3))),.pb (fF (r.take 3)) false,.pv (pO t a (a + Int.ofNat 2)) (.f (.str (r.take 2))),.pb (fF (r.take 2)) false,.pv (pO t a (a + Int.ofNat 1)) (.f (.str (r.take 1))),.pb (fF (r.take 1)) true] ?_ ?_ ?_ ?_ ?_
 ·intro d;kernel_rfl
 ·intro d;kernel_rfl
 ·intro d;kernel_rfl
 ·intro d;kernel_rfl
 ·intro k l hl
  simp only[List.mem_cons,List.not_mem_nil,or_false]at hl
  rcases hl with rfl | rfl | rfl | rfl | rfl | rfl | rfl | rfl
  ·exact h.sl 4
  ·exact h4
  ·exact h.sl 3
  ·exact h3
  ·exact h.sl 2
  ·exact h2
  ·exact h.sl 1
  ·exact h1
noncomputable def fT (r:List Nat) (p:List Nat):Prop:=∀ t a,At t a r→P0.PR (680,[.f (.str t),.f (.int a)],.f (.str p))
theorem pB {c:Nat} (h1:fF [c]=some true) (h2:∀ x,fF [c,x]=some false) (h3:∀ x y,fF [c,x,y]=some false) (h4:∀ x y z,fF [c,x,y,z]=some false):∀ r,fT (c::r) [c]
 | []=>fun t a h=>QT (p:=[]) h h1
 | [x]=>fun t a h=>AO h (h2 x) (h2 x) (h2 x) h1
 | [x,y]=>fun t a h=>AO h (h3 x y) (h3 x y) (h2 x) h1
 | x::y::z::r=>fun t a h=>AO h (h4 x y z) (h3 x y) (h2 x) h1
theorem AE {c x:Nat} (h1:fF [c]=some true) (h2:fF [c,x]=some false) (h3:∀ y,fF [c,x,y]=some false) (h4:∀ y z,fF [c,x,y,z]=some false):∀ r,fT (c::x::r) [c]
 | []=>fun t a h=>AO h h2 h2 h2 h1
 | [y]=>fun t a h=>AO h (h3 y) (h3 y) h2 h1
 | y::z::r=>fun t a h=>AO h (h4 y z) (h3 y) h2 h1
theorem A9:∀ r,fT (40::r) [40]:=pB (by kernel_rfl) (fun x=>by kernel_rfl) (fun x y=>by kernel_rfl) (fun x y z=>by kernel_rfl)
theorem M9:∀ r,fT (41::r) [41]:=pB (by kernel_rfl) (fun x=>by kernel_rfl) (fun x y=>by kernel_rfl) (fun x y z=>by kernel_rfl)
theorem NJ:∀ r,fT (91::r) [91]:=pB (by kernel_rfl) (fun x=>by kernel_rfl) (fun x y=>by kernel_rfl) (fun x y z=>by kernel_rfl)
theorem N0:∀ r,fT (93::r) [93]:=pB (by kernel_rfl) (fun x=>by kernel_rfl) (fun x y=>by kernel_rfl) (fun x y z=>by kernel_rfl)
theorem HR:∀ r,fT (123::r) [123]:=pB (by kernel_rfl) (fun x=>by kernel_rfl) (fun x y=>by kernel_rfl) (fun x y z=>by kernel_rfl)
theorem Mv:∀ r,fT (125::r) [125]:=pB (by kernel_rfl) (fun x=>by kernel_rfl) (fun x y=>by kernel_rfl) (fun x y z=>by kernel_rfl)
theorem LX:∀ r,fT (46::r) [46]:=pB (by kernel_rfl) (fun x=>by kernel_rfl) (fun x y=>by kernel_rfl) (fun x y z=>by kernel_rfl)
theorem Jc:∀ r,fT (44::r) [44]:=pB (by kernel_rfl) (fun x=>by kernel_rfl) (fun x y=>by kernel_rfl) (fun x y z=>by kernel_rfl)
theorem AA:∀ r,fT (59::r) [59]:=pB (by kernel_rfl) (fun x=>by kernel_rfl) (fun x y=>by kernel_rfl) (fun x y z=>by kernel_rfl)
theorem LU:∀ r,fT (63::r) [63]:=pB (by kernel_rfl) (fun x=>by kernel_rfl) (fun x y=>by kernel_rfl) (fun x y z=>by kernel_rfl)
theorem KT:∀ r,fT (58::r) [58]:=pB (by kernel_rfl) (fun x=>by kernel_rfl) (fun x y=>by kernel_rfl) (fun x y z=>by kernel_rfl)
theorem w4:∀ r,fT (33::33::r) [33]:=AE (by kernel_rfl) (by kernel_rfl) (fun y=>by kernel_rfl) (fun y z=>by kernel_rfl)
theorem zL:∀ r,fT (33::48::r) [33]:=AE (by kernel_rfl) (by kernel_rfl) (fun y=>by kernel_rfl) (fun y z=>by kernel_rfl)
theorem AM:∀ r,fT (33::102::r) [33]:=AE (by kernel_rfl) (by kernel_rfl) (fun y=>by kernel_rfl) (fun y z=>by kernel_rfl)
theorem zN:∀ r,fT (33::110::r) [33]:=AE (by kernel_rfl) (by kernel_rfl) (fun y=>by kernel_rfl) (fun y z=>by kernel_rfl)
theorem Ir:∀ r,fT (43::32::r) [43]:=AE (by kernel_rfl) (by kernel_rfl) (fun y=>by kernel_rfl) (fun y z=>by kernel_rfl)
theorem Mb:∀ r,fT (61::32::r) [61]:=AE (by kernel_rfl) (by kernel_rfl) (fun y=>by kernel_rfl) (fun y z=>by kernel_rfl)
theorem NR:∀ r,fT (124::124::32::r) [124,124]
 | []=>fun t a h=>Gp h (by kernel_rfl) (by kernel_rfl) (by kernel_rfl)
 | x::r=>fun t a h=>Gp h (by kernel_rfl) (by kernel_rfl) (by kernel_rfl)
theorem Nq:∀ r,fT (43::43::44::r) [43,43]
 | []=>fun t a h=>Gp h (by kernel_rfl) (by kernel_rfl) (by kernel_rfl)
 | x::r=>fun t a h=>Gp h (by kernel_rfl) (by kernel_rfl) (by kernel_rfl)
end Mine
end
section
namespace Mine
noncomputable def jU (t p:List Nat) (a:Int):St→Option PV:=fun _=>tV (.f (.str t)) [.f (.str p),.f (.int a)]
theorem Ad {t:List Nat}{a:Int}{r:List Nat} (h:At t a r) (x:Nat) (hr:r.head? ≠ some 47):∀ st,jU t [47,x] a st=some (.f (.bool false)):=by
 intro st
 show some (PV.f (.bool (decide (fromIndex t.length a + 2 ≤ t.length)&&Builtin.Str.subAt ⟨t.toArray⟩ ⟨[47,x].toArray⟩ (fromIndex t.length a))))=_
 congr 3
 obtain⟨pre,h1,h2,h3⟩:=h
 have e1:fromIndex t.length a=pre.length:=by
  subst h2;unfold fromIndex;simp only[Int.ofNat_eq_natCast];split<;>omega
 rw[e1]
 cases r with
 | nil =>
  have:¬ (pre.length + 2 ≤ t.length):=by rw[h1];simp
  rw[decide_eq_false this];rfl
 | cons c r =>
  have:Builtin.Str.subAt ⟨t.toArray⟩ ⟨[47,x].toArray⟩ pre.length=false:=by
   unfold Builtin.Str.subAt
   refine Bool.eq_false_iff.2 fun hh=>?_
   have:=congrArg Array.toList (eq_of_beq hh)
   simp only[Array.toList_extract,List.extract_eq_take_drop]at this
   rw[h1]at this
   simp only[List.drop_left,Str.length]at this
   simp at this
   exact hr (by rw[this.1];rfl)
  rw[this,Bool.and_false]
noncomputable def lf (t:List Nat) (a:Int):LF:=[(Str.ofString "text",.f (.str t)),(Str.ofString "at",.f (.int a)),(Str.ofString "line",.f (.int 1))]
noncomputable def aK (kind:List Nat) (v:FV) (plain:Bool) (s e:Int):FV:=.obj 662 [(Str.ofString "kind",.str kind),(Str.ofString "value",v),(Str.ofString "line",.int 1),(Str.ofString "is_behind_line",.bool false),(Str.ofString "start",.int s),(Str.ofString "end",.int e),(Str.ofString "is_octal",.bool false),(Str.ofString "is_plain",.bool plain)]
structure TD where
 tok:Int→Int→FV
 b:Nat
 n:Nat
noncomputable def J9 (t:List Nat) (a:Int) (tok:Int→Int→FV) (s e:Int):LF × FV × LF:=(lf t a,tok s e,lf t e)
noncomputable def bB (r:List Nat) (d:TD):Prop:=∀ t a,At t a r→P0.NX (J9 t a d.tok (a + (d.b:Nat)) (a + (d.n:Nat)))
theorem At.drop {t:List Nat}{a:Int}:∀ (n:Nat) {r:List Nat},At t a r→n ≤ r.length→At t (a + (n:Nat)) (r.drop n)
 | 0,r,h,_=>by simpa using h
 | n + 1,[],h,hn=>by simp at hn
 | n + 1,c::r,h,hn=>by
  have:=At.drop n h.step (by simpa using hn)
  rw[show a + ((n + 1:Nat):Int)=a + 1 + (n:Nat) by omega]
  exact this
theorem jV {r r':List Nat}{n c:Nat} (h:r.drop n=c::r'):n ≤ r.length:=by
 rcases Nat.lt_or_ge r.length n with h' | h'
 ·rw[List.drop_eq_nil_of_le (Nat.le_of_lt h')]at h;cases h
 ·exact h'
theorem aR {t:List Nat}{a:Int}{r:List Nat} (h:At t a r) (n:Nat) {e:Int}{c:Nat}{r':List Nat} (hr:r.drop n=c::r') (he:e=a + (n:Nat)):P0.PR (535,[.f (.str t),.f (.int e)],.f (.int c)):=by
 subst he
 have:=h.drop n (jV hr)
 rw[hr]at this
 exact IM this
theorem DS {t:List Nat}{a:Int}{r p:List Nat} (h:At t a r) (n:Nat) {e:Int}{c:Nat}{r':List Nat} (hp:fT (c::r') p) (hr:r.drop n=c::r') (he:e=a + (n:Nat)):P0.PR (680,[.f (.str t),.f (.int e)],.f (.str p)):=by
 subst he
 have:=h.drop n (jV hr)
 rw[hr]at this
 exact hp _ _ this
theorem st' {t:List Nat}{a:Int}{r:List Nat} (h:At t a r) (n:Nat) {e:Int} (x:Nat) {c:Nat}{r':List Nat} (hr:r.drop n=c::r') (hc:c ≠ 47) (he:e=a + (n:Nat)):∀ st,jU t [47,x] e st=some (.f (.bool false)):=by
 subst he
 have:=h.drop n (jV hr)
 rw[hr]at this
 exact Ad this x (by simpa using hc)
theorem eO {t:List Nat}{a:Int}{r:List Nat} (h:At t a r) (n:Nat) {e:Int}{c:Nat}{r':List Nat} (hr:r.drop n=c::r') (he:e=a + (n:Nat)):∀ st,bJ (.f (.str t)) (.f (.int e)) st=some (.f (.str [c])):=by
 subst he
 have:=h.drop n (jV hr)
 rw[hr]at this
 exact this.nth
theorem C6 {t:List Nat}{a:Int}{r:List Nat} (h:At t a r) (n i:Nat) {e e':Int}{p:List Nat} (he:e=a + (n:Nat)) (he':e'=a + (n:Nat) + Int.ofNat i) (hn:n ≤ r.length∧(r.drop n).take i=p):∀ st,pO t e e' st=some (.f (.str p)):=by
 subst he;subst he'
 have:=(h.drop n hn.1).sl i
 rw[hn.2]at this
 exact this
theorem Mu (e:Int):cM .Gt (.f (.int e)) (.f (.int e))=some false:=congrArg some (decide_eq_false (Int.lt_irrefl e))
theorem mc {α:Type}{p:α→Prop}{x:α}{l:List α} (h:p x) (t:∀ e ∈ l,p e):∀ e ∈ x::l,p e:=by
 intro e he
 cases he with
 | head=>exact h
 | tail _ h'=>exact t _ h'
theorem mn {α:Type}{p:α→Prop}:∀ e ∈ ([]:List α),p e:=fun _ h=>nomatch h
noncomputable def Pn:FP:={ P0 with pz:=[742,826,770,763] }
theorem tO {r:List Nat}{d:TD} (H:∀ t a,At t a r→∃ s e,s=a + (d.b:Nat)∧e=a + (d.n:Nat)∧P0.NX (J9 t a d.tok s e)):bB r d:=by
 intro t a h
 obtain⟨s,e,h1,h2,h3⟩:=H t a h
 rw[← h1,← h2];exact h3
theorem zT {t:List Nat}{a s e:Int}{tok:Int→Int→FV}{ul:List PU}{cl:List Lg} (ps:List PA) (h:∀ x:K8,dE Pn 25 721 [.ref 1] [.inst 1469 x.p,.inst 843 (lf t a)] [] ul [] ps=some (.ok (.f (tok s e),[.inst 1469 x.p,.inst 843 (lf t e)]),[],ul,cl))
  (h1:∀ e ∈ ul,P0.PR e) (h2:∀ k,∀ l ∈ cl,P0.Holds k l):P0.NX (J9 t a tok s e):=by
 intro fs hs k
 obtain⟨x,rfl⟩:=tU hs
 exact aI (h x) k iJ h1 (h2 k)
noncomputable def pl (a:Int):Nat→Int
 | 0=>a
 | n + 1=>pl a n + 1
theorem b6 (a:Int):∀ n,pl a n=a + (n:Nat)
 | 0=>by simp[pl]
 | n + 1=>by rw[pl,b6 a n];omega
abbrev U (t:List Nat) (e c:Int):PU:=(535,[.f (.str t),.f (.int e)],.f (.int c))
abbrev V (t:List Nat) (e:Int) (p:List Nat):PU:=(680,[.f (.str t),.f (.int e)],.f (.str p))
abbrev w0:PA:=.v (.f (.bool false))
abbrev au:PA:=.auto
abbrev wc (c:Nat):PA:=.v (.f (.str [c]))
abbrev J (t:List Nat) (e:Int) (c:Nat):Lg:=.pv (bJ (.f (.str t)) (.f (.int e))) (.f (.str [c]))
abbrev Y (e:Int):Lg:=.pb (cM .Gt (.f (.int e)) (.f (.int e))) false
noncomputable def Z2 (t:List Nat) (p:Int):List Lg:=[.pv (jU t [47,47] p) (.f (.bool false)),.pv (jU t [47,42] p) (.f (.bool false))]
noncomputable def gE:Nat→List Nat
 | 0=>[]
 | _ + 1=>[32]
noncomputable def u0 (t:List Nat) (a:Int) (b:Nat) (c:Nat):List PU:=match b with
 | 0=>[U t a c,U t a c]
 | _ + 1=>[U t a 32,U t (pl a 1) c,U t (pl a 1) c]
noncomputable def p0 (b:Nat):List PA:=match b with
 | 0=>[w0,w0,au]
 | _ + 1=>[au,w0,w0,au]
noncomputable def uN (t:List Nat) (a:Int):Nat→List Nat→List PU
 | _,[]=>[]
 | i,c::r=>U t (pl a i) c::uN t a (i + 1) r
noncomputable def cN (a:Int):Nat→List Nat→List Lg
 | _,[]=>[]
 | i,_::r=>Y (pl a (i + 1))::cN a (i + 1) r
noncomputable def nP:List Nat→List PA
 | []=>[au,au]
 | _::r=>au::au::au::.b false::au::au::au::nP r
noncomputable def uT (t:List Nat) (a:Int):Nat→List Nat→List PU
 | _,[]=>[]
 | i,c::r=>U t (pl a i) c::U t (pl a i) c::uT t a (i + 1) r
noncomputable def cT (t:List Nat) (a:Int):Nat→List Nat→List Lg
 | _,[]=>[]
 | i,c::r=>J t (pl a i) c::cT t a (i + 1) r
noncomputable def tP:List Nat→List PA
 | []=>[au,au,au]
 | c::r=>au::au::au::wc c::au::au::tP r
theorem Fe {r w R:List Nat}{c i:Nat} (h:r.drop i=c::(w++R)):r.drop (i + 1)=w++R:=by
 have:r.drop (i + 1)=(r.drop i).drop 1:=by rw[List.drop_drop]
 rw[this,h];rfl
section
variable {t:List Nat}{a:Int}{r:List Nat} (h:At t a r)
include h
theorem Gh (R:List Nat):∀ (w:List Nat) (i:Nat),r.drop i=w++R→∀ e ∈ uN t a i w,P0.PR e
 | [],_,_=>mn
 | _::w,i,e=>mc (aR h i e (b6 a i)) (Gh R w (i + 1) (Fe e))
theorem Bb (R:List Nat):∀ (w:List Nat) (i:Nat),r.drop i=w++R→∀ e ∈ uT t a i w,P0.PR e
 | [],_,_=>mn
 | _::w,i,e=>mc (aR h i e (b6 a i)) (mc (aR h i e (b6 a i)) (Bb R w (i + 1) (Fe e)))
theorem Bf (k:Nat) (R:List Nat):∀ (w:List Nat) (i:Nat),r.drop i=w++R→∀ e ∈ cT t a i w,P0.Holds k e
 | [],_,_=>mn
 | _::w,i,e=>mc (eO h i e (b6 a i)) (Bf k R w (i + 1) (Fe e))
end
theorem GK (k:Nat) (a:Int):∀ (w:List Nat) (i:Nat),∀ e ∈ cN a i w,P0.Holds k e
 | [],_=>mn
 | _::w,i=>mc (Mu _) (GK k a w (i + 1))
theorem aa {α:Type}{p:α→Prop}{l l':List α} (h:∀ x ∈ l,p x) (h':∀ x ∈ l',p x):∀ x ∈ l++l',p x:=fun x hx=>(List.mem_append.1 hx).elim (h x) (h' x)
theorem Bn {t:List Nat}{a:Int}{r:List Nat}{b c:Nat} (hb:b ≤ 1) (h:At t a (gE b++(c::r))):∀ e ∈ u0 t a b c,P0.PR e:=by
 match b,hb with
 | 0,_=>exact mc (aR h 0 rfl (by omega)) (mc (aR h 0 rfl (by omega)) mn)
 | 1,_=>exact mc (aR h 0 rfl (by omega)) (mc (aR h 1 rfl (b6 a 1)) (mc (aR h 1 rfl (b6 a 1)) mn))
theorem A8 {t:List Nat}{a:Int}{r:List Nat}{b c:Nat} (hb:b ≤ 1) (hc:c ≠ 47) (h:At t a (gE b++(c::r))) (k:Nat):∀ e ∈ Z2 t (pl a b),P0.Holds k e:=by
 match b,hb with
 | 0,_=>exact mc (st' h 0 47 rfl hc (b6 a 0)) (mc (st' h 0 42 rfl hc (b6 a 0)) mn)
 | 1,_=>exact mc (st' h 1 47 rfl hc (b6 a 1)) (mc (st' h 1 42 rfl hc (b6 a 1)) mn)
theorem kJ {b:Nat} (hb:b ≤ 1) (R:List Nat):(gE b++R).drop b=R:=by
 match b,hb with
 | 0,_=>rfl
 | 1,_=>rfl
abbrev JW (t:List Nat) (a:Int) (g:List MO) (g':List MO) (tok:FV) (ul:List PU) (cl:List Lg) (ps:List PA):Prop:=dE Pn 25 721 [.ref 1] g [] ul [] ps=some (.ok (.f tok,g'),[],ul,cl)
noncomputable def GX (x:K8) (t:List Nat) (a:Int):List MO:=[.inst 1469 x.p,.inst 843 (lf t a)]
theorem OC {r:List Nat}{d:TD} (ul:List Nat→Int→List PU) (cl:List Nat→Int→List Lg) (ps:List PA) (h:∀ x t a,JW t a (GX x t a) (GX x t (pl a d.n)) (d.tok (pl a d.b) (pl a d.n)) (ul t a) (cl t a) ps)
  (h1:∀ t a,At t a r→∀ e ∈ ul t a,P0.PR e) (h2:∀ t a,At t a r→∀ k,∀ l ∈ cl t a,P0.Holds k l):bB r d:=tO fun t a hA=>⟨pl a d.b,pl a d.n,b6 a _,b6 a _,zT ps (fun x=>h x t a) (h1 t a hA) (h2 t a hA)⟩
end Mine
end
section
namespace Mine
abbrev aW:List Nat:=[112,117,110,99,116]
abbrev kP:List Nat:=[110,97,109,101]
abbrev aL:List Nat:=[107,101,121,119,111,114,100]
abbrev cD:List Nat:=[110,117,109,98,101,114]
abbrev gM:List Nat:=[116,101,120,116]
abbrev Nm:List Nat:=[101,110,100]
abbrev GN (b c0:Nat) (w:List Nat) (c:Nat) (kd:List Nat) (g:List Nat→Int→List MO):Prop:=∀ t a,JW t a (g t a) (g t (pl a (b + (w.length + 1)))) (aK kd (.str (c0::w)) true (pl a b) (pl a (b + (w.length + 1)))) (u0 t a b c0++uN t a b ((c0::w)++[c])) (Z2 t (pl a b)++cN a b (c0::w)) (p0 b++nP (c0::w))
section
variable {b c0:Nat}{w:List Nat}{c:Nat}{kd:List Nat}
theorem nu (hb:b ≤ 1) (t:List Nat) (a:Int) (r:List Nat) (h:At t a (gE b++(c0::(w++(c::r))))):∀ e ∈ u0 t a b c0++uN t a b ((c0::w)++[c]),P0.PR e :=
 aa (Bn hb h) (Gh h r _ b (by rw[kJ hb];simp))
theorem nc (hb:b ≤ 1) (hc:c0 ≠ 47) (t:List Nat) (a:Int) (r:List Nat) (h:At t a (gE b++(c0::r))) (k:Nat):∀ e ∈ Z2 t (pl a b)++cN a b (c0::w),P0.Holds k e :=
 aa (A8 hb hc h k) (GK k a _ b)
theorem jH (hb:b ≤ 1) (hc:c0 ≠ 47) (h:∀ x,GN b c0 w c kd (GX x)) (r:List Nat):bB (gE b++(c0::(w++(c::r)))) ⟨aK kd (.str (c0::w)) true,b,b + (w.length + 1)⟩ :=
 OC _ _ _ (fun x t a=>h x t a) (fun t a hA=>nu hb t a r hA) (fun t a hA=>nc hb hc t a _ hA)
end
abbrev GP (b:Nat) (c0:Nat) (us:List Nat→Int→List PU) (v:FV) (kd:List Nat) (cs:List Nat→Int→List Lg) (ps:List PA) (n:Nat) (g:List Nat→Int→List MO):Prop:=∀ t a,JW t a (g t a) (g t (pl a (b + n))) (aK kd v true (pl a b) (pl a (b + n))) (u0 t a b c0++us t a) (Z2 t (pl a b)++cs t a) (p0 b++ps)
theorem Cc {b c0:Nat}{us:List Nat→Int→List PU}{v:FV}{kd:List Nat}{cs:List Nat→Int→List Lg}{ps:List PA}{n:Nat}{r:List Nat} (hb:b ≤ 1) (hc:c0 ≠ 47) (h:∀ x,GP b c0 us v kd cs ps n (GX x))
  (h1:∀ t a,At t a (gE b++(c0::r))→∀ e ∈ us t a,P0.PR e) (h2:∀ t a,At t a (gE b++(c0::r))→∀ k,∀ e ∈ cs t a,P0.Holds k e):bB (gE b++(c0::r)) ⟨aK kd v true,b,b + n⟩ :=
 OC _ _ _ (fun x t a=>h x t a) (fun t a hA=>aa (Bn hb hA) (h1 t a hA)) (fun t a hA k=>aa (A8 hb hc hA k) (h2 t a hA k))
theorem fP {b:Nat} (hb:b ≤ 1) {c0:Nat} (hc:c0 ≠ 47) {r:List Nat} (hp:fT (c0::r) [c0]) (h:∀ x,GP b c0 (fun t a=>[V t (pl a b) [c0]]) (.str [c0]) aW (fun _ _=>[]) [] 1 (GX x)):bB (gE b++(c0::r)) ⟨aK aW (.str [c0]) true,b,b + 1⟩ :=
 Cc hb hc h (fun t a hA=>mc (DS hA b hp (kJ hb _) (b6 a b)) mn) (fun _ _ _ _=>mn)
theorem rE {b:Nat} (hb:b ≤ 1) (x:Nat) (R:List Nat):(gE b++(x::R)).drop (b + 1)=R:=by
 match b,hb with
 | 0,_=>rfl
 | 1,_=>rfl
theorem EJ {c:Nat}{r:List Nat} (h:∀ x,GP 0 46 (fun t a=>[U t (pl a 1) c,V t a [46]]) (.str [46]) aW (fun _ _=>[]) [] 1 (GX x)):bB (46::c::r) ⟨aK aW (.str [46]) true,0,1⟩ :=
 Cc (b:=0) (by decide) (by decide) h (fun t a hA=>mc (aR hA 1 rfl (b6 a 1)) (mc (DS hA 0 (LX _) rfl (b6 a 0)) mn)) (fun _ _ _ _=>mn)
theorem rU {b:Nat} (hb:b ≤ 1) {c:Nat}{r:List Nat} (h:∀ x,GP b 48 (fun t a=>let p:=pl a b;let q:=pl a (b + 1);[U t p 48,U t q c,U t p 48,U t q c,U t q c,U t q c]) (.int 0) cD (fun _ _=>[]) [] 1 (GX x)):bB (gE b++(48::c::r)) ⟨aK cD (.int 0) true,b,b + 1⟩ :=
 Cc hb (by decide) h (fun t a hA=>by
  have z:=aR hA b (kJ hb _) (b6 a b)
  have o:=aR hA (b + 1) (rE hb _ _) (b6 a (b + 1))
  exact mc z (mc o (mc z (mc o (mc o (mc o mn)))))) (fun _ _ _ _=>mn)
theorem PN (a:Int) (b:Nat):pl a (b + 1)=a + (b:Nat) + Int.ofNat 1:=by
 show pl a b + 1=a + ((b:Nat):Int) + ((1:Nat):Int)
 rw[b6];omega
theorem Js {b:Nat} (hb:b ≤ 1) (x:Nat) (R:List Nat):b ≤ (gE b++(x::R)).length∧((gE b++(x::R)).drop b).take 1=[x]:=by
 match b,hb with
 | 0,_=>exact⟨Nat.zero_le _,rfl⟩
 | 1,_=>exact⟨Nat.le_add_left _ _,rfl⟩
theorem L2 {b:Nat} (hb:b ≤ 1) {c:Nat}{r:List Nat} (h:∀ x,GP b 49 (fun t a=>let p:=pl a b;let q:=pl a (b + 1);[U t p 49,U t q c,U t p 49,U t p 49,U t q c,U t q c,U t q c,U t q c]) (.int 4607182418800017408) cD (fun t a=>[.pv (pO t (pl a b) (pl a (b + 1))) (.f (.str [49]))]) [au,.v (.f (.str [49]))] 1 (GX x)):bB (gE b++(49::c::r)) ⟨aK cD (.int 4607182418800017408) true,b,b + 1⟩ :=
 Cc hb (by decide) h (fun t a hA=>by
  have z:=aR hA b (kJ hb _) (b6 a b)
  have o:=aR hA (b + 1) (rE hb _ _) (b6 a (b + 1))
  exact mc z (mc o (mc z (mc z (mc o (mc o (mc o (mc o mn)))))))) (fun t a hA k=>mc (C6 hA b 1 (b6 a b) (PN a b) (Js hb _ _)) mn)
theorem Lm {b:Nat} (hb:b ≤ 1) (x:Nat) (w R:List Nat):(gE b++(x::(w++R))).drop (b + 1 + w.length)=R:=by
 rw[← List.drop_drop,rE hb,List.drop_left]
theorem HE {b:Nat} (hb:b ≤ 1) {w:List Nat}{r:List Nat} (h:∀ x,GP b 34 (fun t a=>uT t a (b + 1) w++[U t (pl a (b + 1 + w.length)) 34]) (.str w) gM (fun t a=>cT t a (b + 1) w) (au::tP w) (w.length + 2) (GX x)):bB (gE b++(34::(w++(34::r)))) ⟨aK gM (.str w) true,b,b + (w.length + 2)⟩ :=
 Cc hb (by decide) h (fun t a hA=>aa (Bb hA (34::r) w (b + 1) (rE hb _ _)) (mc (aR hA (b + 1 + w.length) (Lm hb _ _ _) (b6 a _)) mn)) (fun t a hA k=>Bf hA k (34::r) w (b + 1) (rE hb _ _))
noncomputable def bX:TD:=⟨aK aW (.str [40]) true,0,1⟩
theorem bD (r:List Nat):bB (40::r) bX:=fP (b:=0) (by decide) (by decide) (A9 _) (fun x t a=>by kernel_rfl)
noncomputable def cK:TD:=⟨aK aW (.str [40]) true,1,2⟩
theorem bL (r:List Nat):bB (32::40::r) cK:=fP (b:=1) (by decide) (by decide) (A9 _) (fun x t a=>by kernel_rfl)
noncomputable def aU:TD:=⟨aK aW (.str [41]) true,0,1⟩
theorem aM (r:List Nat):bB (41::r) aU:=fP (b:=0) (by decide) (by decide) (M9 _) (fun x t a=>by kernel_rfl)
noncomputable def pT:TD:=⟨aK aW (.str [91]) true,0,1⟩
theorem pE (r:List Nat):bB (91::r) pT:=fP (b:=0) (by decide) (by decide) (NJ _) (fun x t a=>by kernel_rfl)
noncomputable def rY:TD:=⟨aK aW (.str [93]) true,0,1⟩
theorem pA (r:List Nat):bB (93::r) rY:=fP (b:=0) (by decide) (by decide) (N0 _) (fun x t a=>by kernel_rfl)
noncomputable def jZ:TD:=⟨aK aW (.str [123]) true,0,1⟩
theorem jQ (r:List Nat):bB (123::r) jZ:=fP (b:=0) (by decide) (by decide) (HR _) (fun x t a=>by kernel_rfl)
noncomputable def eQ:TD:=⟨aK aW (.str [123]) true,1,2⟩
theorem cX (r:List Nat):bB (32::123::r) eQ:=fP (b:=1) (by decide) (by decide) (HR _) (fun x t a=>by kernel_rfl)
noncomputable def dP:TD:=⟨aK aW (.str [125]) true,0,1⟩
theorem bQ (r:List Nat):bB (125::r) dP:=fP (b:=0) (by decide) (by decide) (Mv _) (fun x t a=>by kernel_rfl)
noncomputable def sL:TD:=⟨aK aW (.str [44]) true,0,1⟩
theorem tQ (r:List Nat):bB (44::r) sL:=fP (b:=0) (by decide) (by decide) (Jc _) (fun x t a=>by kernel_rfl)
noncomputable def bR:TD:=⟨aK aW (.str [59]) true,0,1⟩
theorem aT (r:List Nat):bB (59::r) bR:=fP (b:=0) (by decide) (by decide) (AA _) (fun x t a=>by kernel_rfl)
noncomputable def I4:TD:=⟨aK aW (.str [59]) true,1,2⟩
theorem P5 (r:List Nat):bB (32::59::r) I4:=fP (b:=1) (by decide) (by decide) (AA _) (fun x t a=>by kernel_rfl)
noncomputable def DC:TD:=⟨aK aW (.str [63]) true,1,2⟩
theorem H9 (r:List Nat):bB (32::63::r) DC:=fP (b:=1) (by decide) (by decide) (LU _) (fun x t a=>by kernel_rfl)
noncomputable def xS:TD:=⟨aK aW (.str [58]) true,1,2⟩
theorem Hy (r:List Nat):bB (32::58::r) xS:=fP (b:=1) (by decide) (by decide) (KT _) (fun x t a=>by kernel_rfl)
noncomputable def eE:TD:=⟨aK aW (.str [46]) true,0,1⟩
theorem cL (r:List Nat):bB (46::97::r) eE:=EJ (fun x t a=>by kernel_rfl)
theorem lN (r:List Nat):bB (46::98::r) eE:=EJ (fun x t a=>by kernel_rfl)
theorem DZ (r:List Nat):bB (46::99::r) eE:=EJ (fun x t a=>by kernel_rfl)
noncomputable def t4:TD:=⟨aK aW (.str [43]) true,1,2⟩
theorem mE (r:List Nat):bB (32::43::32::r) t4:=fP (b:=1) (by decide) (by decide) (Ir _) (fun x t a=>by kernel_rfl)
noncomputable def Gc:TD:=⟨aK aW (.str [43,43]) true,0,2⟩
theorem BD (r:List Nat):bB (43::43::44::r) Gc:=tO fun t a h=>⟨a,a + 2,by show _=a + ((0:Nat):Int);omega,by show _=a + ((2:Nat):Int);omega,
 zT [w0,w0,au] (ul:=[U t (a) (43),U t (a) (43),V t a [43,43]]) (cl:=[.pv (jU t [47,47] a) (.f (.bool false)),.pv (jU t [47,42] a) (.f (.bool false))]) (fun x=>by kernel_rfl)
  (mc (aR h 0 rfl (by omega)) (mc (aR h 0 rfl (by omega)) (mc (DS h 0 (Nq r) rfl (by omega)) (mn))))
  (fun k=>mc (st' h 0 47 rfl (by decide) (by omega)) (mc (st' h 0 42 rfl (by decide) (by omega)) (mn)))⟩
noncomputable def Gb:TD:=⟨aK aW (.str [61]) true,1,2⟩
theorem Dn (r:List Nat):bB (32::61::32::r) Gb:=fP (b:=1) (by decide) (by decide) (Mb _) (fun x t a=>by kernel_rfl)
noncomputable def GI:TD:=⟨aK aW (.str [124,124]) true,1,3⟩
theorem DW (r:List Nat):bB (32::124::124::32::r) GI:=tO fun t a h=>⟨(a + 1),(a + 1) + 2,by show _=a + ((1:Nat):Int);omega,by show _=a + ((3:Nat):Int);omega,
 zT [au,w0,w0,au] (ul:=[U t a 32,U t ((a + 1)) (124),U t ((a + 1)) (124),V t (a + 1) [124,124]]) (cl:=[.pv (jU t [47,47] (a + 1)) (.f (.bool false)),.pv (jU t [47,42] (a + 1)) (.f (.bool false))]) (fun x=>by kernel_rfl)
  (mc (aR h 0 rfl (by omega)) (mc (aR h 1 rfl (by omega)) (mc (aR h 1 rfl (by omega)) (mc (DS h 1 (NR r) rfl (by omega)) (mn)))))
  (fun k=>mc (st' h 1 47 rfl (by decide) (by omega)) (mc (st' h 1 42 rfl (by decide) (by omega)) (mn)))⟩
noncomputable def pY:TD:=⟨aK aW (.str [33]) true,0,1⟩
theorem Cv (r:List Nat):bB (33::33::r) pY:=fP (b:=0) (by decide) (by decide) (w4 _) (fun x t a=>by kernel_rfl)
theorem Ej (r:List Nat):bB (33::48::r) pY:=fP (b:=0) (by decide) (by decide) (zL _) (fun x t a=>by kernel_rfl)
theorem gW (r:List Nat):bB (33::102::r) pY:=fP (b:=0) (by decide) (by decide) (AM _) (fun x t a=>by kernel_rfl)
theorem lA (r:List Nat):bB (33::110::r) pY:=fP (b:=0) (by decide) (by decide) (zN _) (fun x t a=>by kernel_rfl)
noncomputable def sR:TD:=⟨aK aW (.str [33]) true,1,2⟩
theorem By (r:List Nat):bB (32::33::33::r) sR:=fP (b:=1) (by decide) (by decide) (w4 _) (fun x t a=>by kernel_rfl)
theorem E6 (r:List Nat):bB (32::33::48::r) sR:=fP (b:=1) (by decide) (by decide) (zL _) (fun x t a=>by kernel_rfl)
theorem gU (r:List Nat):bB (32::33::102::r) sR:=fP (b:=1) (by decide) (by decide) (AM _) (fun x t a=>by kernel_rfl)
theorem kW (r:List Nat):bB (32::33::110::r) sR:=fP (b:=1) (by decide) (by decide) (zN _) (fun x t a=>by kernel_rfl)
noncomputable def gB:TD:=⟨aK cD (.int 0) true,0,1⟩
theorem DU (r:List Nat):bB (48::32::r) gB:=rU (b:=0) (by decide) (c:=32) (fun x t a=>by kernel_rfl)
theorem Co (r:List Nat):bB (48::41::r) gB:=rU (b:=0) (by decide) (c:=41) (fun x t a=>by kernel_rfl)
theorem y4 (r:List Nat):bB (48::59::r) gB:=rU (b:=0) (by decide) (c:=59) (fun x t a=>by kernel_rfl)
theorem oV (r:List Nat):bB (48::93::r) gB:=rU (b:=0) (by decide) (c:=93) (fun x t a=>by kernel_rfl)
noncomputable def v8:TD:=⟨aK cD (.int 0) true,1,2⟩
theorem CT (r:List Nat):bB (32::48::32::r) v8:=rU (b:=1) (by decide) (c:=32) (fun x t a=>by kernel_rfl)
theorem D8 (r:List Nat):bB (32::48::41::r) v8:=rU (b:=1) (by decide) (c:=41) (fun x t a=>by kernel_rfl)
theorem qW (r:List Nat):bB (32::48::59::r) v8:=rU (b:=1) (by decide) (c:=59) (fun x t a=>by kernel_rfl)
noncomputable def vX:TD:=⟨aK cD (.int 4607182418800017408) true,0,1⟩
theorem jG (r:List Nat):bB (49::41::r) vX:=L2 (b:=0) (by decide) (c:=41) (fun x t a=>by kernel_rfl)
noncomputable def G4:TD:=⟨aK cD (.int 4607182418800017408) true,1,2⟩
theorem qU (r:List Nat):bB (32::49::59::r) G4:=L2 (b:=1) (by decide) (c:=59) (fun x t a=>by kernel_rfl)
noncomputable def gX:TD:=⟨aK kP (.str [97]) true,0,1⟩
theorem EQ (r:List Nat):bB (97::32::r) gX:=jH (b:=0) (c0:=97) (w:=[]) (c:=32) (by decide) (by decide) (fun x t a=>by kernel_rfl) r
theorem kO (r:List Nat):bB (97::40::r) gX:=jH (b:=0) (c0:=97) (w:=[]) (c:=40) (by decide) (by decide) (fun x t a=>by kernel_rfl) r
theorem nX (r:List Nat):bB (97::41::r) gX:=jH (b:=0) (c0:=97) (w:=[]) (c:=41) (by decide) (by decide) (fun x t a=>by kernel_rfl) r
theorem BE (r:List Nat):bB (97::43::r) gX:=jH (b:=0) (c0:=97) (w:=[]) (c:=43) (by decide) (by decide) (fun x t a=>by kernel_rfl) r
theorem sI (r:List Nat):bB (97::59::r) gX:=jH (b:=0) (c0:=97) (w:=[]) (c:=59) (by decide) (by decide) (fun x t a=>by kernel_rfl) r
noncomputable def PW:TD:=⟨aK kP (.str [97]) true,1,2⟩
theorem A6 (r:List Nat):bB (32::97::59::r) PW:=jH (b:=1) (c0:=97) (w:=[]) (c:=59) (by decide) (by decide) (fun x t a=>by kernel_rfl) r
noncomputable def Bk:TD:=⟨aK kP (.str [98]) true,0,1⟩
theorem wO (r:List Nat):bB (98::40::r) Bk:=jH (b:=0) (c0:=98) (w:=[]) (c:=40) (by decide) (by decide) (fun x t a=>by kernel_rfl) r
theorem w9 (r:List Nat):bB (98::41::r) Bk:=jH (b:=0) (c0:=98) (w:=[]) (c:=41) (by decide) (by decide) (fun x t a=>by kernel_rfl) r
noncomputable def z3:TD:=⟨aK kP (.str [99,97,108,108]) true,0,4⟩
theorem y0 (r:List Nat):bB (99::97::108::108::40::r) z3:=jH (b:=0) (c0:=99) (w:=[97,108,108]) (c:=40) (by decide) (by decide) (fun x t a=>by kernel_rfl) r
noncomputable def n8:TD:=⟨aK kP (.str [102]) true,0,1⟩
theorem eM (r:List Nat):bB (102::40::r) n8:=jH (b:=0) (c0:=102) (w:=[]) (c:=40) (by decide) (by decide) (fun x t a=>by kernel_rfl) r
noncomputable def Ko:TD:=⟨aK kP (.str [102]) true,1,2⟩
theorem Eo (r:List Nat):bB (32::102::40::r) Ko:=jH (b:=1) (c0:=102) (w:=[]) (c:=40) (by decide) (by decide) (fun x t a=>by kernel_rfl) r
noncomputable def e7:TD:=⟨aK aL (.str [102,117,110,99,116,105,111,110]) true,0,8⟩
theorem bH (r:List Nat):bB (102::117::110::99::116::105::111::110::32::r) e7:=jH (b:=0) (c0:=102) (w:=[117,110,99,116,105,111,110]) (c:=32) (by decide) (by decide) (fun x t a=>by kernel_rfl) r
noncomputable def yX:TD:=⟨aK aL (.str [102,117,110,99,116,105,111,110]) true,1,9⟩
theorem cV (r:List Nat):bB (32::102::117::110::99::116::105::111::110::32::r) yX:=jH (b:=1) (c0:=102) (w:=[117,110,99,116,105,111,110]) (c:=32) (by decide) (by decide) (fun x t a=>by kernel_rfl) r
noncomputable def Fv:TD:=⟨aK kP (.str [103]) true,1,2⟩
theorem yK (r:List Nat):bB (32::103::40::r) Fv:=jH (b:=1) (c0:=103) (w:=[]) (c:=40) (by decide) (by decide) (fun x t a=>by kernel_rfl) r
noncomputable def yI:TD:=⟨aK aL (.str [110,101,119]) true,0,3⟩
theorem eZ (r:List Nat):bB (110::101::119::32::r) yI:=jH (b:=0) (c0:=110) (w:=[101,119]) (c:=32) (by decide) (by decide) (fun x t a=>by kernel_rfl) r
noncomputable def C4:TD:=⟨aK aL (.str [110,101,119]) true,1,4⟩
theorem eY (r:List Nat):bB (32::110::101::119::32::r) C4:=jH (b:=1) (c0:=110) (w:=[101,119]) (c:=32) (by decide) (by decide) (fun x t a=>by kernel_rfl) r
noncomputable def zV:TD:=⟨aK aL (.str [116,104,105,115]) true,0,4⟩
theorem xB (r:List Nat):bB (116::104::105::115::44::r) zV:=jH (b:=0) (c0:=116) (w:=[104,105,115]) (c:=44) (by decide) (by decide) (fun x t a=>by kernel_rfl) r
noncomputable def Au:TD:=⟨aK gM (.str [97]) true,0,3⟩
theorem Rq (r:List Nat):bB (34::97::34::r) Au:=HE (b:=0) (by decide) (w:=[97]) (fun x t a=>by kernel_rfl)
noncomputable def OA:TD:=⟨aK gM (.str [97]) true,1,4⟩
theorem KY (r:List Nat):bB (32::34::97::34::r) OA:=HE (b:=1) (by decide) (w:=[97]) (fun x t a=>by kernel_rfl)
noncomputable def lQ:TD:=⟨aK gM (.str [117,115,101,32,115,116,114,105,99,116]) true,0,12⟩
theorem kN (r:List Nat):bB (34::117::115::101::32::115::116::114::105::99::116::34::r) lQ:=HE (b:=0) (by decide) (w:=[117,115,101,32,115,116,114,105,99,116]) (fun x t a=>by kernel_rfl)
noncomputable def BM:TD:=⟨aK gM (.str [117,115,101,32,115,116,114,105,99,116]) true,1,13⟩
theorem pL (r:List Nat):bB (32::34::117::115::101::32::115::116::114::105::99::116::34::r) BM:=HE (b:=1) (by decide) (w:=[117,115,101,32,115,116,114,105,99,116]) (fun x t a=>by kernel_rfl)
noncomputable def nR:TD:=⟨aK gM (.str [117,115,101,32,115,116,114,105,99,116]) false,0,15⟩
theorem sQ (r:List Nat):bB (34::117::115::101::92::120::50::48::115::116::114::105::99::116::34::r) nR:=tO fun t a h=>⟨a,a + 1 + 1 + 1 + 1 + 1 + 1 + 2 + 1 + 1 + 1 + 1 + 1 + 1 + 1,by show _=a + ((0:Nat):Int);omega,by show _=a + ((15:Nat):Int);omega,
 zT [w0,w0,au,au,au,au,au,wc 117,au,au,au,au,au,wc 115,au,au,au,au,au,wc 101,au,au,au,au,au,au,au,au,au,wc 115,au,au,au,au,au,wc 116,au,au,au,au,au,wc 114,au,au,au,au,au,wc 105,au,au,au,au,au,wc 99,au,au,au,au,au,wc 116,au,au,au,au,au] (ul:=[U t (a) (34),U t (a) (34),U t (a + 1) (117),U t (a + 1) (117),U t (a + 1 + 1) (115),U t (a + 1 + 1) (115),U t (a + 1 + 1 + 1) (101),U t (a + 1 + 1 + 1) (101),U t (a + 1 + 1 + 1 + 1) (92),U t (a + 1 + 1 + 1 + 1) (92),U t (a + 1 + 1 + 1 + 1 + 1) (120),U t (a + 1 + 1 + 1 + 1 + 1 + 1 + 0) (50),U t (a + 1 + 1 + 1 + 1 + 1 + 1 + 1) (48),U t (a + 1 + 1 + 1 + 1 + 1) (120),U t (a + 1 + 1 + 1 + 1 + 1 + 1 + 2) (115),U t (a + 1 + 1 + 1 + 1 + 1 + 1 + 2) (115),U t (a + 1 + 1 + 1 + 1 + 1 + 1 + 2 + 1) (116),U t (a + 1 + 1 + 1 + 1 + 1 + 1 + 2 + 1) (116),U t (a + 1 + 1 + 1 + 1 + 1 + 1 + 2 + 1 + 1) (114),U t (a + 1 + 1 + 1 + 1 + 1 + 1 + 2 + 1 + 1) (114),U t (a + 1 + 1 + 1 + 1 + 1 + 1 + 2 + 1 + 1 + 1) (105),U t (a + 1 + 1 + 1 + 1 + 1 + 1 + 2 + 1 + 1 + 1) (105),U t (a + 1 + 1 + 1 + 1 + 1 + 1 + 2 + 1 + 1 + 1 + 1) (99),U t (a + 1 + 1 + 1 + 1 + 1 + 1 + 2 + 1 + 1 + 1 + 1) (99),U t (a + 1 + 1 + 1 + 1 + 1 + 1 + 2 + 1 + 1 + 1 + 1 + 1) (116),U t (a + 1 + 1 + 1 + 1 + 1 + 1 + 2 + 1 + 1 + 1 + 1 + 1) (116),U t (a + 1 + 1 + 1 + 1 + 1 + 1 + 2 + 1 + 1 + 1 + 1 + 1 + 1) (34)]) (cl:=[.pv (jU t [47,47] a) (.f (.bool false)),.pv (jU t [47,42] a) (.f (.bool false)),J t (a + 1) 117,J t (a + 1 + 1) 115,J t (a + 1 + 1 + 1) 101,J t (a + 1 + 1 + 1 + 1 + 1 + 1 + 2) 115,J t (a + 1 + 1 + 1 + 1 + 1 + 1 + 2 + 1) 116,J t (a + 1 + 1 + 1 + 1 + 1 + 1 + 2 + 1 + 1) 114,J t (a + 1 + 1 + 1 + 1 + 1 + 1 + 2 + 1 + 1 + 1) 105,J t (a + 1 + 1 + 1 + 1 + 1 + 1 + 2 + 1 + 1 + 1 + 1) 99,J t (a + 1 + 1 + 1 + 1 + 1 + 1 + 2 + 1 + 1 + 1 + 1 + 1) 116]) (fun x=>by kernel_rfl)
  (mc (aR h 0 rfl (by omega)) (mc (aR h 0 rfl (by omega)) (mc (aR h 1 rfl (by omega)) (mc (aR h 1 rfl (by omega)) (mc (aR h 2 rfl (by omega)) (mc (aR h 2 rfl (by omega)) (mc (aR h 3 rfl (by omega)) (mc (aR h 3 rfl (by omega)) (mc (aR h 4 rfl (by omega)) (mc (aR h 4 rfl (by omega)) (mc (aR h 5 rfl (by omega)) (mc (aR h 6 rfl (by omega)) (mc (aR h 7 rfl (by omega)) (mc (aR h 5 rfl (by omega)) (mc (aR h 8 rfl (by omega)) (mc (aR h 8 rfl (by omega)) (mc (aR h 9 rfl (by omega)) (mc (aR h 9 rfl (by omega)) (mc (aR h 10 rfl (by omega)) (mc (aR h 10 rfl (by omega)) (mc (aR h 11 rfl (by omega)) (mc (aR h 11 rfl (by omega)) (mc (aR h 12 rfl (by omega)) (mc (aR h 12 rfl (by omega)) (mc (aR h 13 rfl (by omega)) (mc (aR h 13 rfl (by omega)) (mc (aR h 14 rfl (by omega)) (mn))))))))))))))))))))))))))))
  (fun k=>mc (st' h 0 47 rfl (by decide) (by omega)) (mc (st' h 0 42 rfl (by decide) (by omega)) (mc (eO h 1 rfl (by omega)) (mc (eO h 2 rfl (by omega)) (mc (eO h 3 rfl (by omega)) (mc (eO h 8 rfl (by omega)) (mc (eO h 9 rfl (by omega)) (mc (eO h 10 rfl (by omega)) (mc (eO h 11 rfl (by omega)) (mc (eO h 12 rfl (by omega)) (mc (eO h 13 rfl (by omega)) (mn))))))))))))⟩
noncomputable def GG:TD:=⟨aK gM (.str [117,115,101,32,115,116,114,105,99,116]) false,1,16⟩
theorem xC (r:List Nat):bB (32::34::117::115::101::92::120::50::48::115::116::114::105::99::116::34::r) GG:=tO fun t a h=>⟨(a + 1),(a + 1) + 1 + 1 + 1 + 1 + 1 + 1 + 2 + 1 + 1 + 1 + 1 + 1 + 1 + 1,by show _=a + ((1:Nat):Int);omega,by show _=a + ((16:Nat):Int);omega,
 zT [au,w0,w0,au,au,au,au,au,wc 117,au,au,au,au,au,wc 115,au,au,au,au,au,wc 101,au,au,au,au,au,au,au,au,au,wc 115,au,au,au,au,au,wc 116,au,au,au,au,au,wc 114,au,au,au,au,au,wc 105,au,au,au,au,au,wc 99,au,au,au,au,au,wc 116,au,au,au,au,au] (ul:=[U t a 32,U t ((a + 1)) (34),U t ((a + 1)) (34),U t ((a + 1) + 1) (117),U t ((a + 1) + 1) (117),U t ((a + 1) + 1 + 1) (115),U t ((a + 1) + 1 + 1) (115),U t ((a + 1) + 1 + 1 + 1) (101),U t ((a + 1) + 1 + 1 + 1) (101),U t ((a + 1) + 1 + 1 + 1 + 1) (92),U t ((a + 1) + 1 + 1 + 1 + 1) (92),U t ((a + 1) + 1 + 1 + 1 + 1 + 1) (120),U t ((a + 1) + 1 + 1 + 1 + 1 + 1 + 1 + 0) (50),U t ((a + 1) + 1 + 1 + 1 + 1 + 1 + 1 + 1) (48),U t ((a + 1) + 1 + 1 + 1 + 1 + 1) (120),U t ((a + 1) + 1 + 1 + 1 + 1 + 1 + 1 + 2) (115),U t ((a + 1) + 1 + 1 + 1 + 1 + 1 + 1 + 2) (115),U t ((a + 1) + 1 + 1 + 1 + 1 + 1 + 1 + 2 + 1) (116),U t ((a + 1) + 1 + 1 + 1 + 1 + 1 + 1 + 2 + 1) (116),U t ((a + 1) + 1 + 1 + 1 + 1 + 1 + 1 + 2 + 1 + 1) (114),U t ((a + 1) + 1 + 1 + 1 + 1 + 1 + 1 + 2 + 1 + 1) (114),U t ((a + 1) + 1 + 1 + 1 + 1 + 1 + 1 + 2 + 1 + 1 + 1) (105),U t ((a + 1) + 1 + 1 + 1 + 1 + 1 + 1 + 2 + 1 + 1 + 1) (105),U t ((a + 1) + 1 + 1 + 1 + 1 + 1 + 1 + 2 + 1 + 1 + 1 + 1) (99),U t ((a + 1) + 1 + 1 + 1 + 1 + 1 + 1 + 2 + 1 + 1 + 1 + 1) (99),U t ((a + 1) + 1 + 1 + 1 + 1 + 1 + 1 + 2 + 1 + 1 + 1 + 1 + 1) (116),U t ((a + 1) + 1 + 1 + 1 + 1 + 1 + 1 + 2 + 1 + 1 + 1 + 1 + 1) (116),U t ((a + 1) + 1 + 1 + 1 + 1 + 1 + 1 + 2 + 1 + 1 + 1 + 1 + 1 + 1) (34)]) (cl:=[.pv (jU t [47,47] (a + 1)) (.f (.bool false)),.pv (jU t [47,42] (a + 1)) (.f (.bool false)),J t ((a + 1) + 1) 117,J t ((a + 1) + 1 + 1) 115,J t ((a + 1) + 1 + 1 + 1) 101,J t ((a + 1) + 1 + 1 + 1 + 1 + 1 + 1 + 2) 115,J t ((a + 1) + 1 + 1 + 1 + 1 + 1 + 1 + 2 + 1) 116,J t ((a + 1) + 1 + 1 + 1 + 1 + 1 + 1 + 2 + 1 + 1) 114,J t ((a + 1) + 1 + 1 + 1 + 1 + 1 + 1 + 2 + 1 + 1 + 1) 105,J t ((a + 1) + 1 + 1 + 1 + 1 + 1 + 1 + 2 + 1 + 1 + 1 + 1) 99,J t ((a + 1) + 1 + 1 + 1 + 1 + 1 + 1 + 2 + 1 + 1 + 1 + 1 + 1) 116]) (fun x=>by kernel_rfl)
  (mc (aR h 0 rfl (by omega)) (mc (aR h 1 rfl (by omega)) (mc (aR h 1 rfl (by omega)) (mc (aR h 2 rfl (by omega)) (mc (aR h 2 rfl (by omega)) (mc (aR h 3 rfl (by omega)) (mc (aR h 3 rfl (by omega)) (mc (aR h 4 rfl (by omega)) (mc (aR h 4 rfl (by omega)) (mc (aR h 5 rfl (by omega)) (mc (aR h 5 rfl (by omega)) (mc (aR h 6 rfl (by omega)) (mc (aR h 7 rfl (by omega)) (mc (aR h 8 rfl (by omega)) (mc (aR h 6 rfl (by omega)) (mc (aR h 9 rfl (by omega)) (mc (aR h 9 rfl (by omega)) (mc (aR h 10 rfl (by omega)) (mc (aR h 10 rfl (by omega)) (mc (aR h 11 rfl (by omega)) (mc (aR h 11 rfl (by omega)) (mc (aR h 12 rfl (by omega)) (mc (aR h 12 rfl (by omega)) (mc (aR h 13 rfl (by omega)) (mc (aR h 13 rfl (by omega)) (mc (aR h 14 rfl (by omega)) (mc (aR h 14 rfl (by omega)) (mc (aR h 15 rfl (by omega)) (mn)))))))))))))))))))))))))))))
  (fun k=>mc (st' h 1 47 rfl (by decide) (by omega)) (mc (st' h 1 42 rfl (by decide) (by omega)) (mc (eO h 2 rfl (by omega)) (mc (eO h 3 rfl (by omega)) (mc (eO h 4 rfl (by omega)) (mc (eO h 9 rfl (by omega)) (mc (eO h 10 rfl (by omega)) (mc (eO h 11 rfl (by omega)) (mc (eO h 12 rfl (by omega)) (mc (eO h 13 rfl (by omega)) (mc (eO h 14 rfl (by omega)) (mn))))))))))))⟩
noncomputable def a9:TD:=⟨aK Nm (.str []) true,0,0⟩
theorem f0:bB ([]) a9:=tO fun t a h=>⟨a,a,by show _=a + ((0:Nat):Int);omega,by show _=a + ((0:Nat):Int);omega,
 zT [w0,w0,au] (ul:=[U t (a) (-1),U t (a) (-1)]) (cl:=[.pv (jU t [47,47] a) (.f (.bool false)),.pv (jU t [47,42] a) (.f (.bool false))]) (fun x=>by kernel_rfl)
  (mc (zJ h) (mc (zJ h) (mn)))
  (fun k=>mc (Ad h 47 (by decide)) (mc (Ad h 42 (by decide)) (mn)))⟩
end Mine
end
section
namespace Mine
noncomputable def j0:FV:=.obj 945 [(Str.ofString "labels",.lst []),(Str.ofString "loops",.int 0),(Str.ofString "switches",.int 0)]
noncomputable def pf (tok later:FV) (s:Bool) (d x:Int):LF:=[(Str.ofString "lexer",.ref 1),(Str.ofString "token",.f tok),(Str.ofString "later",.f later),(Str.ofString "is_strict",.f (.bool s)),(Str.ofString "depth",.f (.int d)),(Str.ofString "nested",.f (.int x)),(Str.ofString "jumps",.f j0),(Str.ofString "pending",.f (.lst []))]
noncomputable def gP (tok later:FV) (s:Bool) (d x:Int) (t:List Nat) (a:Int):List MO:=[.inst 1469 (pf tok later s d x),.inst 843 (lf t a)]
noncomputable def nd (kind:List Nat) (ps:List FV):FV:=.obj 31 [(Str.ofString "kind",.str kind),(Str.ofString "line",.int 1),(Str.ofString "parts",.lst ps),(Str.ofString "scope",.none)]
noncomputable def cC (d:TD) (a:Int):FV:=d.tok (a + (d.b:Nat)) (a + (d.n:Nat))
noncomputable def bI (a:Int):List TD→Int
 | []=>a
 | d::ds=>bI (a + (d.n:Nat)) ds
noncomputable def fC (t:List Nat) (a:Int):List TD→List (LF × FV × LF)
 | []=>[]
 | d::ds=>(lf t a,cC d a,lf t (a + (d.n:Nat)))::fC t (a + (d.n:Nat)) ds
noncomputable def qT (t:List Nat) (a:Int):List TD→List (FV × LF)
 | []=>[]
 | d::ds=>(cC d a,lf t (a + (d.n:Nat)))::qT t (a + (d.n:Nat)) ds
noncomputable def lv (x:Int):Nat→Int
 | 0=>x
 | n + 1=>lv x n + 1
noncomputable def Bq (x:Int):Nat→List Bool→List PA
 | _,[]=>[]
 | j,true::r=>.auto::.b false::Bq x (j + 1) r
 | j,false::r=>.v (.f (.int (lv x (j - 1))))::Bq x (j - 1) r
noncomputable def K6 (y:Int):St→Option PV:=fun _=>((A4 .Sub (.int y) (.int 1))).bind fun z=>some (.f z)
noncomputable def mS (y:Int):Option Bool:=(cM .Gt (.f (.int y)) (.f (.int 40)))
noncomputable def wJ (x:Int):Nat→List Bool→List Lg
 | _,[]=>[]
 | j,true::r=>.pb (mS (lv x (j + 1))) false::wJ x (j + 1) r
 | j,false::r=>.pv (K6 (lv x j)) (.f (.int (lv x (j - 1))))::wJ x (j - 1) r
noncomputable def wU (M:Nat):Nat→List Bool→Bool
 | _,[]=>true
 | j,true::r=>Nat.blt j M&&wU M (j + 1) r
 | j,false::r=>Nat.blt 0 j&&wU M (j - 1) r
theorem Bc (x:Int):∀ n,lv x n=x + (n:Nat)
 | 0=>by simp[lv]
 | n + 1=>by rw[lv,Bc x n];omega
theorem wI {y:Int} (h:y ≤ 40):mS y=some false:=by
 show(some (decide ((40:Int) < y)))=_
 rw[decide_eq_false (by omega)]
theorem z5 {y:Int} (h:40 < y):mS y=some true:=by
 show(some (decide ((40:Int) < y)))=_
 rw[decide_eq_true h]
theorem CS {y z:Int} (h:y=z + 1):∀ st,K6 y st=some (.f (.int z)):=by
 intro st
 show some (PV.f (.int (y - 1)))=_
 rw[show y - 1=z by omega]
theorem qG (P:FP) (k:Nat) (x:Int) (M:Nat) (h:x + (M:Nat) ≤ 40):∀ j l,wU M j l=true→∀ e ∈ wJ x j l,P.Holds k e
 | _,[],_=>mn
 | j,true::r,e=>by
  obtain⟨e1,e2⟩:=Bool.and_eq_true_iff.1 e
  have:j < M:=Nat.le_of_ble_eq_true e1
  exact mc (wI (by rw[Bc];omega)) (qG P k x M h (j + 1) r e2)
 | 0,false::r,e=>by cases e
 | j + 1,false::r,e=>by
  obtain⟨e1,e2⟩:=Bool.and_eq_true_iff.1 e
  exact mc (CS rfl) (qG P k x M h j r e2)
noncomputable def Pp:FP:={ P0 with pz:=[1040,1047],pu:=[899,857,864,878] }
noncomputable def hJ (f n:Nat) (bY:FV) (ds:List TD) (X:FV) (s:Bool) (x:Int):Prop:=∀ t a E,(∀ e ∈ fC t a (ds++[E]),P0.NX e)→∀ k,run TT 5000 (k + n) f [.ref 0] (gP bY .none s 0 x t a)=.ok (.f X,gP (cC E (bI a ds)) .none s 0 x t (bI a (ds++[E])))
noncomputable def b9 (f n:Nat) (bY:FV) (ds:List TD) (E:TD) (X:FV) (s:Bool) (x:Int):Prop:=∀ t a,(∀ e ∈ fC t a (ds++[E]),P0.NX e)→∀ k,run TT 5000 (k + n) f [.ref 0] (gP bY .none s 0 x t a)=.ok (.f X,gP (cC E (bI a ds)) .none s 0 x t (bI a (ds++[E])))
noncomputable def bK (f n:Nat) (bY:FV) (ds:List TD) (s:Bool) (x:Int):Prop:=∀ t a,(∀ e ∈ fC t a ds,P0.NX e)→∀ k,run TT 5000 (k + n) f [.ref 0] (gP bY .none s 0 x t a)=.raise
theorem eS {f:Nat}{bY:FV}{ds:List TD}{X:FV}{s:Bool}{x:Int} (M:Nat) (hM:x + (M:Nat) ≤ 40) (io:List Bool) (ul:List PU) (h1:wU M 0 io=true) (hu:∀ e ∈ ul,P0.PR e)
  (h:∀ t a E,dE Pp 70 f [.ref 0] (gP bY .none s 0 x t a) (qT t a (ds++[E])) ul [] (Bq x 0 io)=some (.ok (.f X,gP (cC E (bI a ds)) .none s 0 x t (bI a (ds++[E]))),fC t a (ds++[E]),ul,wJ x 0 io)):hJ f 70 bY ds X s x :=
 fun t a E hq k=>aI (h t a E) k hq hu (qG Pp k x M hM 0 io h1)
theorem kT {f:Nat}{bY:FV}{ds:List TD}{s:Bool}{x:Int} (M:Nat) (hM:x + ((M + 1:Nat):Nat)=41) (io:List Bool) (ul:List PU) (h1:wU M 0 io=true) (hu:∀ e ∈ ul,P0.PR e)
  (h:∀ t a,dE Pp 70 f [.ref 0] (gP bY .none s 0 x t a) (qT t a ds) ul [] (Bq x 0 io++[.auto,.b true])=some (.raise,fC t a ds,ul,wJ x 0 io++[.pb (mS (lv x (M + 1))) true])):bK f 70 bY ds s x :=
 fun t a hq k=>aI (h t a) k hq hu (fun e he=>by
  rcases List.mem_append.1 he with he | he
  ·exact qG Pp k x M (by omega) 0 io h1 e he
  ·cases he with
   | head=>exact z5 (by rw[Bc];omega)
   | tail _ h=>cases h)
theorem bF (s:Bool):P0.PR (899,[.f (.bool false),.f (.bool s)],.f .none):=by
 cases s<;>exact dU [] _ _ _ [] [] (fun d=>by kernel_rfl) (fun d=>by kernel_rfl) (fun d=>by kernel_rfl) (fun d=>by kernel_rfl) (fun k=>mn)
theorem hU (s:Bool):P0.PR (857,[.f (.str [102]),.f (.bool s)],.f .none):=by
 cases s<;>exact dU [] _ _ _ [] [] (fun d=>by kernel_rfl) (fun d=>by kernel_rfl) (fun d=>by kernel_rfl) (fun d=>by kernel_rfl) (fun k=>mn)
theorem Br (s:Bool):P0.PR (857,[.f (.str [97]),.f (.bool s)],.f .none):=by
 cases s<;>exact dU [] _ _ _ [] [] (fun d=>by kernel_rfl) (fun d=>by kernel_rfl) (fun d=>by kernel_rfl) (fun d=>by kernel_rfl) (fun k=>mn)
theorem u1 (s:Bool):P0.PR (864,[.f (.str [102]),.f (.bool s)],.f .none):=by
 cases s<;>exact dU [] _ _ _ [] [] (fun d=>by kernel_rfl) (fun d=>by kernel_rfl) (fun d=>by kernel_rfl) (fun d=>by kernel_rfl) (fun k=>mn)
theorem uP (s:Bool):P0.PR (864,[.f (.str [103]),.f (.bool s)],.f .none):=by
 cases s<;>exact dU [] _ _ _ [] [] (fun d=>by kernel_rfl) (fun d=>by kernel_rfl) (fun d=>by kernel_rfl) (fun d=>by kernel_rfl) (fun k=>mn)
theorem dG (s:Bool):P0.PR (878,[.f .none,.f (.lst []),.f (.bool s)],.f .none):=by
 cases s<;>exact dU [] _ _ _ [] [] (fun d=>by kernel_rfl) (fun d=>by kernel_rfl) (fun d=>by kernel_rfl) (fun d=>by kernel_rfl) (fun k=>mn)
theorem w7 (s:Bool):P0.PR (878,[.f (.str [102]),.f (.lst []),.f (.bool s)],.f .none):=by
 cases s<;>exact dU [] _ _ _ [] [] (fun d=>by kernel_rfl) (fun d=>by kernel_rfl) (fun d=>by kernel_rfl) (fun d=>by kernel_rfl) (fun k=>mn)
theorem EX (s:Bool):P0.PR (878,[.f (.str [103]),.f (.lst []),.f (.bool s)],.f .none):=by
 cases s<;>exact dU [] _ _ _ [] [] (fun d=>by kernel_rfl) (fun d=>by kernel_rfl) (fun d=>by kernel_rfl) (fun d=>by kernel_rfl) (fun k=>mn)
end Mine
end
section
namespace Mine
noncomputable def X0 (s:Bool):FV:=nd [78,117,109] [.int 0]
noncomputable def Oi:List TD:=[]
theorem Ql (s:Bool) (s0 e0 x:Int) (hx:x + ((0:Nat):Int) ≤ 40):hJ 1207 70 (aK cD (.int 0) true s0 e0) Oi (X0 s) s x :=
 eS 0 hx [] [(899,[.f (.bool false),.f (.bool s)],.f .none)] rfl (mc (bF s) (mn)) fun t a E=>by kernel_rfl
noncomputable def X1 (s:Bool):FV:=nd [70,117,110,99,116,105,111,110] [.none,.lst [],.lst [nd [69,120,112,114] [nd [83,116,114] [.str [117,115,101,32,115,116,114,105,99,116]]]],.bool s,.str [101,120,112,114]]
noncomputable def HN:List TD:=[cK,aU,eQ,nR,bR,dP]
theorem Rd (s:Bool) (s0 e0 x:Int) (hx:x + ((3:Nat):Int) ≤ 40):hJ 1207 70 (aK aL (.str [102,117,110,99,116,105,111,110]) true s0 e0) HN (X1 s) s x :=
 eS 3 hx [true,true,true,false,false,false] [(899,[.f (.bool false),.f (.bool s)],.f .none),(878,[.f .none,.f (.lst []),.f (.bool s)],.f .none)] rfl (mc (bF s) (mc (dG s) (mn))) fun t a E=>by kernel_rfl
noncomputable def O4:List TD:=[cK,aU,eQ,nR]
theorem QP (s:Bool) (s0 e0 x:Int) (hx:x + ((3:Nat):Int)=41):bK 1207 70 (aK aL (.str [102,117,110,99,116,105,111,110]) true s0 e0) O4 s x :=
 kT 2 hx [true,true] [] rfl (mn) fun t a=>by kernel_rfl
noncomputable def X2 (s:Bool):FV:=nd [70,117,110,99,116,105,111,110] [.none,.lst [],.lst [nd [69,120,112,114] [nd [83,116,114] [.str [117,115,101,32,115,116,114,105,99,116]]],nd [69,120,112,114] [nd [83,116,114] [.str [117,115,101,32,115,116,114,105,99,116]]]],.bool s,.str [101,120,112,114]]
noncomputable def GE:List TD:=[cK,aU,eQ,bX,lQ,aU,bR,BM,bR,dP]
theorem Rj (s:Bool) (s0 e0 x:Int) (hx:x + ((4:Nat):Int) ≤ 40):hJ 1207 70 (aK aL (.str [102,117,110,99,116,105,111,110]) true s0 e0) GE (X2 s) s x :=
 eS 4 hx [true,true,true,true,false,false,false,true,true,false,false,false] [(899,[.f (.bool false),.f (.bool s)],.f .none),(899,[.f (.bool false),.f (.bool s)],.f .none),(878,[.f .none,.f (.lst []),.f (.bool s)],.f .none)] rfl (mc (bF s) (mc (bF s) (mc (dG s) (mn)))) fun t a E=>by kernel_rfl
noncomputable def OT:List TD:=[cK,aU,eQ,bX,lQ]
theorem Q9 (s:Bool) (s0 e0 x:Int) (hx:x + ((4:Nat):Int)=41):bK 1207 70 (aK aL (.str [102,117,110,99,116,105,111,110]) true s0 e0) OT s x :=
 kT 3 hx [true,true,true] [] rfl (mn) fun t a=>by kernel_rfl
noncomputable def X3 (s:Bool):FV:=nd [70,117,110,99,116,105,111,110] [.str [103],.lst [],.lst [nd [69,120,112,114] [nd [66,105,110,97,114,121] [.str [43],nd [79,98,106,101,99,116] [.lst []],nd [78,117,109] [.int 4607182418800017408]]]],.bool s,.str [101,120,112,114]]
noncomputable def G0:List TD:=[Fv,bX,aU,eQ,bX,jZ,dP,aU,t4,G4,bR,dP]
theorem Rz (s:Bool) (s0 e0 x:Int) (hx:x + ((4:Nat):Int) ≤ 40):hJ 1207 70 (aK aL (.str [102,117,110,99,116,105,111,110]) true s0 e0) G0 (X3 s) s x :=
 eS 4 hx [true,true,true,true,false,false,false,false] [(864,[.f (.str [103]),.f (.bool s)],.f .none),(899,[.f (.bool false),.f (.bool s)],.f .none),(878,[.f (.str [103]),.f (.lst []),.f (.bool s)],.f .none)] rfl (mc (uP s) (mc (bF s) (mc (EX s) (mn)))) fun t a E=>by kernel_rfl
noncomputable def Of:List TD:=[Fv,bX,aU,eQ,bX,jZ]
theorem Qs (s:Bool) (s0 e0 x:Int) (hx:x + ((4:Nat):Int)=41):bK 1207 70 (aK aL (.str [102,117,110,99,116,105,111,110]) true s0 e0) Of s x :=
 kT 3 hx [true,true,true] [(864,[.f (.str [103]),.f (.bool s)],.f .none)] rfl (mc (uP s) (mn)) fun t a=>by kernel_rfl
noncomputable def X4 (s:Bool):FV:=nd [78,101,119] [nd [77,101,109,98,101,114] [nd [67,97,108,108] [nd [78,97,109,101] [.str [102]],.lst []],.str [97]],.lst [nd [78,117,109] [.int 4607182418800017408]]]
noncomputable def H4:List TD:=[cK,n8,bX,aU,eE,gX,aU,bX,vX,aU]
theorem R8 (s:Bool) (s0 e0 x:Int) (hx:x + ((2:Nat):Int) ≤ 40):hJ 1193 70 (aK aL (.str [110,101,119]) true s0 e0) H4 (X4 s) s x :=
 eS 2 hx [true,true,false,false,true,false] [(857,[.f (.str [102]),.f (.bool s)],.f .none),(899,[.f (.bool false),.f (.bool s)],.f .none)] rfl (mc (hU s) (mc (bF s) (mn))) fun t a E=>by kernel_rfl
noncomputable def OH:List TD:=[cK,n8]
theorem Q0 (s:Bool) (s0 e0 x:Int) (hx:x + ((2:Nat):Int)=41):bK 1193 70 (aK aL (.str [110,101,119]) true s0 e0) OH s x :=
 kT 1 hx [true] [] rfl (mn) fun t a=>by kernel_rfl
noncomputable def X5 (s:Bool):FV:=nd [78,101,119] [nd [77,101,109,98,101,114] [nd [78,101,119] [nd [77,101,109,98,101,114] [nd [67,97,108,108] [nd [78,97,109,101] [.str [102]],.lst []],.str [97]],.lst []],.str [98]],.lst []]
noncomputable def HF:List TD:=[cK,yI,cK,n8,bX,aU,eE,gX,aU,bX,aU,eE,Bk,aU,bX,aU]
theorem RO (s:Bool) (s0 e0 x:Int) (hx:x + ((4:Nat):Int) ≤ 40):hJ 1193 70 (aK aL (.str [110,101,119]) true s0 e0) HF (X5 s) s x :=
 eS 4 hx [true,true,true,true,false,false,false,false] [(857,[.f (.str [102]),.f (.bool s)],.f .none)] rfl (mc (hU s) (mn)) fun t a E=>by kernel_rfl
noncomputable def OP:List TD:=[cK,yI,cK,n8]
theorem RP (s:Bool) (s0 e0 x:Int) (hx:x + ((4:Nat):Int)=41):bK 1193 70 (aK aL (.str [110,101,119]) true s0 e0) OP s x :=
 kT 3 hx [true,true,true] [] rfl (mn) fun t a=>by kernel_rfl
noncomputable def X6 (s:Bool):FV:=nd [70,117,110,99,116,105,111,110] [.none,.lst [],.lst [nd [69,120,112,114] [nd [77,101,109,98,101,114] [nd [70,117,110,99,116,105,111,110] [.none,.lst [],.lst [],.bool s,.str [101,120,112,114]],.str [97]]]],.bool s,.str [101,120,112,114]]
noncomputable def HZ:List TD:=[cK,aU,eQ,bX,e7,cK,aU,eQ,dP,aU,eE,gX,bR,dP]
theorem QQ (s:Bool) (s0 e0 x:Int) (hx:x + ((5:Nat):Int) ≤ 40):hJ 1207 70 (aK aL (.str [102,117,110,99,116,105,111,110]) true s0 e0) HZ (X6 s) s x :=
 eS 5 hx [true,true,true,true,true,false,false,false,false,false] [(878,[.f .none,.f (.lst []),.f (.bool s)],.f .none),(878,[.f .none,.f (.lst []),.f (.bool s)],.f .none)] rfl (mc (dG s) (mc (dG s) (mn))) fun t a E=>by kernel_rfl
noncomputable def OY:List TD:=[cK,aU,eQ,bX,e7,cK]
theorem Rb (s:Bool) (s0 e0 x:Int) (hx:x + ((5:Nat):Int)=41):bK 1207 70 (aK aL (.str [102,117,110,99,116,105,111,110]) true s0 e0) OY s x :=
 kT 4 hx [true,true,true,true] [] rfl (mn) fun t a=>by kernel_rfl
noncomputable def X7 (s:Bool):FV:=nd [78,101,119] [nd [73,110,100,101,120] [nd [67,97,108,108] [nd [78,97,109,101] [.str [102]],.lst []],nd [65,114,114,97,121] [.lst [nd [78,117,109] [.int 0]]]],.lst []]
noncomputable def HV:List TD:=[cK,n8,bX,aU,aU,pT,pT,gB,rY,rY,bX,aU]
theorem Qu (s:Bool) (s0 e0 x:Int) (hx:x + ((3:Nat):Int) ≤ 40):hJ 1193 70 (aK aL (.str [110,101,119]) true s0 e0) HV (X7 s) s x :=
 eS 3 hx [true,true,false,true,true,false,false,false] [(857,[.f (.str [102]),.f (.bool s)],.f .none),(899,[.f (.bool false),.f (.bool s)],.f .none)] rfl (mc (hU s) (mc (bF s) (mn))) fun t a E=>by kernel_rfl
noncomputable def O2:List TD:=[cK,n8,bX,aU,aU,pT,pT,gB]
theorem QM (s:Bool) (s0 e0 x:Int) (hx:x + ((3:Nat):Int)=41):bK 1193 70 (aK aL (.str [110,101,119]) true s0 e0) O2 s x :=
 kT 2 hx [true,true,false,true] [(857,[.f (.str [102]),.f (.bool s)],.f .none)] rfl (mc (hU s) (mn)) fun t a=>by kernel_rfl
noncomputable def X8 (s:Bool):FV:=nd [70,117,110,99,116,105,111,110] [.none,.lst [],.lst [nd [69,120,112,114] [nd [83,116,114] [.str [117,115,101,32,115,116,114,105,99,116]]]],.bool true,.str [101,120,112,114]]
noncomputable def HT:List TD:=[cK,aU,eQ,lQ,bR,dP]
theorem QO (s:Bool) (s0 e0 x:Int) (hx:x + ((3:Nat):Int) ≤ 40):hJ 1207 70 (aK aL (.str [102,117,110,99,116,105,111,110]) true s0 e0) HT (X8 s) s x :=
 eS 3 hx [true,true,true,false,false,false] [(899,[.f (.bool false),.f (.bool s)],.f .none),(899,[.f (.bool false),.f (.bool true)],.f .none),(878,[.f .none,.f (.lst []),.f (.bool true)],.f .none)] rfl (mc (bF s) (mc (bF true) (mc (dG true) (mn)))) fun t a E=>by kernel_rfl
noncomputable def X9 (s:Bool):FV:=nd [70,117,110,99,116,105,111,110] [.none,.lst [],.lst [nd [69,120,112,114] [nd [83,116,114] [.str [117,115,101,32,115,116,114,105,99,116]]],nd [69,120,112,114] [nd [83,116,114] [.str [117,115,101,32,115,116,114,105,99,116]]]],.bool s,.str [101,120,112,114]]
noncomputable def Gd:List TD:=[cK,aU,eQ,nR,bR,GG,bR,dP]
theorem R3 (s:Bool) (s0 e0 x:Int) (hx:x + ((3:Nat):Int) ≤ 40):hJ 1207 70 (aK aL (.str [102,117,110,99,116,105,111,110]) true s0 e0) Gd (X9 s) s x :=
 eS 3 hx [true,true,true,false,false,true,true,false,false,false] [(899,[.f (.bool false),.f (.bool s)],.f .none),(899,[.f (.bool false),.f (.bool s)],.f .none),(878,[.f .none,.f (.lst []),.f (.bool s)],.f .none)] rfl (mc (bF s) (mc (bF s) (mc (dG s) (mn)))) fun t a E=>by kernel_rfl
noncomputable def OQ (s:Bool):FV:=nd [70,117,110,99,116,105,111,110] [.none,.lst [],.lst [nd [69,120,112,114] [nd [83,116,114] [.str [117,115,101,32,115,116,114,105,99,116]]],nd [69,120,112,114] [nd [83,116,114] [.str [117,115,101,32,115,116,114,105,99,116]]]],.bool true,.str [101,120,112,114]]
noncomputable def BF:List TD:=[cK,aU,eQ,lQ,bR,BM,bR,dP]
theorem PG (s:Bool) (s0 e0 x:Int) (hx:x + ((3:Nat):Int) ≤ 40):hJ 1207 70 (aK aL (.str [102,117,110,99,116,105,111,110]) true s0 e0) BF (OQ s) s x :=
 eS 3 hx [true,true,true,false,false,true,true,false,false,false] [(899,[.f (.bool false),.f (.bool s)],.f .none),(899,[.f (.bool false),.f (.bool true)],.f .none),(899,[.f (.bool false),.f (.bool true)],.f .none),(899,[.f (.bool false),.f (.bool true)],.f .none),(878,[.f .none,.f (.lst []),.f (.bool true)],.f .none)] rfl (mc (bF s) (mc (bF true) (mc (bF true) (mc (bF true) (mc (dG true) (mn)))))) fun t a E=>by kernel_rfl
noncomputable def O5 (s:Bool):FV:=nd [78,101,119] [nd [77,101,109,98,101,114] [nd [67,97,108,108] [nd [78,97,109,101] [.str [102]],.lst []],.str [97]],.lst [nd [78,117,109] [.int 4607182418800017408]]]
noncomputable def AU:List TD:=[cK,n8,bX,aU,aU,eE,gX,bX,vX,aU]
theorem Os (s:Bool) (s0 e0 x:Int) (hx:x + ((2:Nat):Int) ≤ 40):hJ 1193 70 (aK aL (.str [110,101,119]) true s0 e0) AU (O5 s) s x :=
 eS 2 hx [true,true,false,false,true,false] [(857,[.f (.str [102]),.f (.bool s)],.f .none),(899,[.f (.bool false),.f (.bool s)],.f .none)] rfl (mc (hU s) (mc (bF s) (mn))) fun t a E=>by kernel_rfl
noncomputable def OJ (s:Bool):FV:=nd [78,101,119] [nd [77,101,109,98,101,114] [nd [78,101,119] [nd [77,101,109,98,101,114] [nd [67,97,108,108] [nd [78,97,109,101] [.str [102]],.lst []],.str [97]],.lst []],.str [98]],.lst []]
noncomputable def Bi:List TD:=[C4,cK,n8,bX,aU,aU,eE,gX,bX,aU,eE,Bk,bX,aU]
theorem PZ (s:Bool) (s0 e0 x:Int) (hx:x + ((3:Nat):Int) ≤ 40):hJ 1193 70 (aK aL (.str [110,101,119]) true s0 e0) Bi (OJ s) s x :=
 eS 3 hx [true,true,true,false,false,false] [(857,[.f (.str [102]),.f (.bool s)],.f .none)] rfl (mc (hU s) (mn)) fun t a E=>by kernel_rfl
end Mine
end
section
namespace Mine
inductive Et where
 | semi | rp | rb | col
noncomputable def Et.td:Et→TD
 | .semi=>bR
 | .rp=>aU
 | .rb=>rY
 | .col=>xS
theorem Mr (E:Et) {ds:List TD}{X:FV}{s:Bool}{x s0 e0:Int} (h:hJ 1207 70 (aK cD (.int 0) true s0 e0) ds X s x):b9 1158 73 (aK cD (.int 0) true s0 e0) ds E.td X s x:=fun t a hq k =>
 aI (P:=Pp) (n:=73) (q:=[]) (pu:=[]) (nl:=[]) (ul:=[]) (cuts:=[(1207,[.val (.ok (.f X,gP (cC E.td (bI a ds)) .none s 0 x t (bI a (ds++[E.td]))))])]) (ps:=[])
  (cl:=[.call 70 1207 [.ref 0] (gP (aK cD (.int 0) true s0 e0) .none s 0 x t a) (.ok (.f X,gP (cC E.td (bI a ds)) .none s 0 x t (bI a (ds++[E.td]))))]) (by cases E<;>kernel_rfl) k mn mn (mc (h t a E.td hq k) mn)
theorem QY {ds:List TD}{s:Bool}{x s0 e0:Int} (h:bK 1207 70 (aK cD (.int 0) true s0 e0) ds s x):bK 1158 73 (aK cD (.int 0) true s0 e0) ds s x:=fun t a hq k =>
 aI (P:=Pp) (n:=73) (q:=[]) (pu:=[]) (cuts:=[(1207,[.val .raise])]) (ps:=[])
  (cl:=[.call 70 1207 [.ref 0] (gP (aK cD (.int 0) true s0 e0) .none s 0 x t a) .raise]) (by kernel_rfl) k mn mn (mc (h t a hq k) mn)
theorem oA (E:Et) {ds:List TD}{X:FV}{s:Bool}{x s0 e0:Int} (h:hJ 1207 70 (aK aL (.str [102,117,110,99,116,105,111,110]) true s0 e0) ds X s x):b9 1158 73 (aK aL (.str [102,117,110,99,116,105,111,110]) true s0 e0) ds E.td X s x:=fun t a hq k =>
 aI (P:=Pp) (n:=73) (q:=[]) (pu:=[]) (nl:=[]) (ul:=[]) (cuts:=[(1207,[.val (.ok (.f X,gP (cC E.td (bI a ds)) .none s 0 x t (bI a (ds++[E.td]))))])]) (ps:=[])
  (cl:=[.call 70 1207 [.ref 0] (gP (aK aL (.str [102,117,110,99,116,105,111,110]) true s0 e0) .none s 0 x t a) (.ok (.f X,gP (cC E.td (bI a ds)) .none s 0 x t (bI a (ds++[E.td]))))]) (by cases E<;>kernel_rfl) k mn mn (mc (h t a E.td hq k) mn)
theorem sH {ds:List TD}{s:Bool}{x s0 e0:Int} (h:bK 1207 70 (aK aL (.str [102,117,110,99,116,105,111,110]) true s0 e0) ds s x):bK 1158 73 (aK aL (.str [102,117,110,99,116,105,111,110]) true s0 e0) ds s x:=fun t a hq k =>
 aI (P:=Pp) (n:=73) (q:=[]) (pu:=[]) (cuts:=[(1207,[.val .raise])]) (ps:=[])
  (cl:=[.call 70 1207 [.ref 0] (gP (aK aL (.str [102,117,110,99,116,105,111,110]) true s0 e0) .none s 0 x t a) .raise]) (by kernel_rfl) k mn mn (mc (h t a hq k) mn)
theorem s7 (E:Et) {ds:List TD}{X:FV}{s:Bool}{x s0 e0:Int} (h:hJ 1193 70 (aK aL (.str [110,101,119]) true s0 e0) ds X s x):b9 1158 73 (aK aL (.str [110,101,119]) true s0 e0) ds E.td X s x:=fun t a hq k =>
 aI (P:=Pp) (n:=73) (q:=[]) (pu:=[]) (nl:=[]) (ul:=[]) (cuts:=[(1193,[.val (.ok (.f X,gP (cC E.td (bI a ds)) .none s 0 x t (bI a (ds++[E.td]))))])]) (ps:=[])
  (cl:=[.call 70 1193 [.ref 0] (gP (aK aL (.str [110,101,119]) true s0 e0) .none s 0 x t a) (.ok (.f X,gP (cC E.td (bI a ds)) .none s 0 x t (bI a (ds++[E.td]))))]) (by cases E<;>kernel_rfl) k mn mn (mc (h t a E.td hq k) mn)
theorem xY {ds:List TD}{s:Bool}{x s0 e0:Int} (h:bK 1193 70 (aK aL (.str [110,101,119]) true s0 e0) ds s x):bK 1158 73 (aK aL (.str [110,101,119]) true s0 e0) ds s x:=fun t a hq k =>
 aI (P:=Pp) (n:=73) (q:=[]) (pu:=[]) (cuts:=[(1193,[.val .raise])]) (ps:=[])
  (cl:=[.call 70 1193 [.ref 0] (gP (aK aL (.str [110,101,119]) true s0 e0) .none s 0 x t a) .raise]) (by kernel_rfl) k mn mn (mc (h t a hq k) mn)
abbrev LQ (s0 e0:Int):FV:=aK aW (.str [33]) true s0 e0
noncomputable def sN (X:FV):FV:=nd [85,110,97,114,121] [.str [33],X]
theorem iV (t:List Nat):∀ (a:Int) (d1 d2:List TD),fC t a (d1++d2)=fC t a d1++fC t (bI a d1) d2
 | _,[],_=>rfl
 | a,d::d1,d2=>by show _::fC t _ (d1++d2)=_;rw[iV t _ d1 d2];rfl
theorem hY:∀ (a:Int) (d1 d2:List TD),bI a (d1++d2)=bI (bI a d1) d2
 | _,[],_=>rfl
 | a,d::d1,d2=>hY _ d1 d2
theorem ID {j:Nat}{d1:TD}{ds:List TD}{E:TD}{X:FV}{s:Bool}{x:Int} (hx:x + 1 ≤ 40) (H:∀ s0 e0,b9 1158 (j + 60) (d1.tok s0 e0) ds E X s (x + 1)) (s0 e0:Int):b9 1158 (j + 62) (LQ s0 e0) (d1::ds) E (sN X) s x:=fun t a hq k =>
 aI (P:=Pp) (n:=j + 62) (q:=qT t a [d1]) (pu:=[]) (cuts:=[(1158,[.val (.ok (.f X,gP (cC E (bI a (d1::ds))) .none s 0 (x + 1) t (bI a (d1::ds++[E]))))])]) (ps:=[.auto,.b false,.v (.f (.int x))])
  (nl:=fC t a [d1]) (cl:=[.pb (mS (x + 1)) false,.call (j + 60) 1158 [.ref 0] (gP (cC d1 a) .none s 0 (x + 1) t (a + (d1.n:Nat))) (.ok (.f X,gP (cC E (bI a (d1::ds))) .none s 0 (x + 1) t (bI a (d1::ds++[E])))),.pv (K6 (x + 1)) (.f (.int x))]) (by kernel_rfl) k
  (mc (hq _ (.head _)) mn) mn (mc (wI hx) (mc (H _ _ t _ (fun e he=>hq e (.tail _ he)) k) (mc (CS rfl) mn)))
theorem tA {j:Nat}{d1:TD}{ds:List TD}{s:Bool}{x:Int} (hx:x + 1 ≤ 40) (H:∀ s0 e0,bK 1158 (j + 60) (d1.tok s0 e0) ds s (x + 1)) (s0 e0:Int):bK 1158 (j + 62) (LQ s0 e0) (d1::ds) s x:=fun t a hq k =>
 aI (P:=Pp) (n:=j + 62) (q:=qT t a [d1]) (pu:=[]) (cuts:=[(1158,[.val .raise])]) (ps:=[.auto,.b false])
  (nl:=fC t a [d1]) (cl:=[.pb (mS (x + 1)) false,.call (j + 60) 1158 [.ref 0] (gP (cC d1 a) .none s 0 (x + 1) t (a + (d1.n:Nat))) .raise]) (by kernel_rfl) k
  (mc (hq _ (.head _)) mn) mn (mc (wI hx) (mc (H _ _ t _ (fun e he=>hq e (.tail _ he)) k) mn))
theorem Id {j:Nat}{s:Bool}{x:Int} (hx:x=40) (s0 e0:Int):bK 1158 (j + 62) (LQ s0 e0) [gB] s x:=fun t a hq k =>
 aI (P:=Pp) (n:=j + 62) (q:=qT t a [gB]) (pu:=[]) (cuts:=[]) (ps:=[.auto,.b true])
  (nl:=fC t a [gB]) (cl:=[.pb (mS (x + 1)) true]) (by kernel_rfl) k
  hq mn (mc (z5 (by omega)) mn)
noncomputable def gJ (d0:TD) (ds:List TD):Nat→TD × List TD
 | 0=>(d0,ds)
 | k + 1=>(pY,(gJ d0 ds k).1::(gJ d0 ds k).2)
noncomputable def fV (X:FV):Nat→FV
 | 0=>X
 | k + 1=>sN (fV X k)
theorem xE {d0:TD}{ds:List TD}{E:TD}{X:FV}{s:Bool}:∀ (c:Nat) (x:Int),x + (c:Nat) ≤ 40→(∀ s0 e0,b9 1158 73 (d0.tok s0 e0) ds E X s (x + (c:Nat)))→∀ s0 e0,b9 1158 (73 + 2 * c) ((gJ d0 ds c).1.tok s0 e0) (gJ d0 ds c).2 E (fV X c) s x
 | 0,x,_,h,s0,e0=>by have:=h s0 e0;rw[show x + ((0:Nat):Int)=x by omega]at this;exact this
 | c + 1,x,hx,h,s0,e0=>by
  have:=xE (d0:=d0) (ds:=ds) (E:=E) (X:=X) (s:=s) c (x + 1) (by omega) (fun s0 e0=>by rw[show x + 1 + (c:Nat)=x + ((c + 1:Nat):Int) by omega];exact h s0 e0)
  have e:73 + 2 * c=(13 + 2 * c) + 60:=by omega
  rw[e]at this
  have r:=ID (by omega) this s0 e0
  rw[show 73 + 2 * (c + 1)=13 + 2 * c + 62 by omega]
  exact r
theorem wC {d0:TD}{ds:List TD}{s:Bool}:∀ (c:Nat) (x:Int),x + (c:Nat) ≤ 40→(∀ s0 e0,bK 1158 73 (d0.tok s0 e0) ds s (x + (c:Nat)))→∀ s0 e0,bK 1158 (73 + 2 * c) ((gJ d0 ds c).1.tok s0 e0) (gJ d0 ds c).2 s x
 | 0,x,_,h,s0,e0=>by have:=h s0 e0;rw[show x + ((0:Nat):Int)=x by omega]at this;exact this
 | c + 1,x,hx,h,s0,e0=>by
  have:=wC (d0:=d0) (ds:=ds) (s:=s) c (x + 1) (by omega) (fun s0 e0=>by rw[show x + 1 + (c:Nat)=x + ((c + 1:Nat):Int) by omega];exact h s0 e0)
  have e:73 + 2 * c=(13 + 2 * c) + 60:=by omega
  rw[e]at this
  have r:=tA (by omega) this s0 e0
  rw[show 73 + 2 * (c + 1)=13 + 2 * c + 62 by omega]
  exact r
theorem tL {s:Bool}:∀ (c:Nat) (x:Int),x + ((c + 1:Nat):Int)=41→∀ s0 e0,bK 1158 (75 + 2 * c) ((gJ gB [] (c + 1)).1.tok s0 e0) (gJ gB [] (c + 1)).2 s x
 | 0,x,hx,s0,e0=>Id (j:=13) (by omega) s0 e0
 | c + 1,x,hx,s0,e0=>by
  have:=tL (s:=s) c (x + 1) (by omega)
  have e:75 + 2 * c=(15 + 2 * c) + 60:=by omega
  rw[e]at this
  have r:=tA (by omega) this s0 e0
  rw[show 75 + 2 * (c + 1)=15 + 2 * c + 62 by omega]
  exact r
end Mine
end
section
namespace Mine
noncomputable def Pl:FP:={ P0 with pz:=[],pu:=[899,857,864,878] }
theorem b9.weak {f n:Nat}{bY:FV}{ds:List TD}{E:TD}{X:FV}{s:Bool}{x:Int} (h:b9 f n bY ds E X s x) (i:Nat):b9 f (n + i) bY ds E X s x:=fun t a hq k=>by
 rw[show k + (n + i)=(k + i) + n by omega];exact h t a hq (k + i)
theorem bK.weak {f n:Nat}{bY:FV}{ds:List TD}{s:Bool}{x:Int} (h:bK f n bY ds s x) (i:Nat):bK f (n + i) bY ds s x:=fun t a hq k=>by
 rw[show k + (n + i)=(k + i) + n by omega];exact h t a hq (k + i)
theorem Ia {n:Nat}{bY:FV}{pre:List TD}{tc:TD}{ds:List TD}{E:TD}{post:List TD}{M:FV}{s:Bool}
  (h:∀ t a,(∀ e ∈ fC t a (pre++[tc])++fC t (bI (bI a (pre++[tc])) (ds++[E])) (post++[a9]),P0.NX e)→(∀ e ∈ fC t (bI a (pre++[tc])) (ds++[E]),P0.NX e)→∀ k,
   run TT 5000 (k + n) 1259 [.ref 0] (gP bY .none s 0 0 t a)=.ok (.f M,gP (cC a9 (bI (bI (bI a (pre++[tc])) (ds++[E])) post)) .none s 0 0 t (bI (bI (bI a (pre++[tc])) (ds++[E])) (post++[a9])))) :
  b9 1259 n bY ((pre++[tc])++((ds++[E])++post)) a9 M s 0:=fun t a hq k=>by
 have e:((pre++[tc])++((ds++[E])++post))++[a9]=(pre++[tc])++((ds++[E])++(post++[a9])):=by simp
 rw[e]at hq ⊢
 rw[iV t a (pre++[tc]),iV t _ (ds++[E])]at hq
 have:=h t a (fun x hx=>hq x (by
  rcases List.mem_append.1 hx with hx | hx
  ·exact List.mem_append.2 (.inl hx)
  ·exact List.mem_append.2 (.inr (List.mem_append.2 (.inr hx))))) (fun x hx=>hq x (List.mem_append.2 (.inr (List.mem_append.2 (.inl hx))))) k
 rw[this,hY a (pre++[tc]) ((ds++[E])++post),hY _ (ds++[E]) post,hY a (pre++[tc]) ((ds++[E])++(post++[a9])),hY _ (ds++[E]) (post++[a9])]
theorem Ei {n:Nat}{bY:FV}{pre:List TD}{tc:TD}{ds:List TD}{s:Bool}
  (h:∀ t a,(∀ e ∈ fC t a (pre++[tc]),P0.NX e)→(∀ e ∈ fC t (bI a (pre++[tc])) ds,P0.NX e)→∀ k,
   run TT 5000 (k + n) 1259 [.ref 0] (gP bY .none s 0 0 t a)=.raise) :
  bK 1259 n bY ((pre++[tc])++ds) s 0:=fun t a hq k=>by
 rw[iV t a (pre++[tc])]at hq
 exact h t a (fun x hx=>hq x (List.mem_append.2 (.inl hx))) (fun x hx=>hq x (List.mem_append.2 (.inr hx))) k
abbrev A1 (a:Int) (pre:List TD) (tc:TD):Int:=bI a (pre++[tc])
abbrev A2 (a:Int) (pre:List TD) (tc:TD) (ds:List TD) (E:TD):Int:=bI (A1 a pre tc) (ds++[E])
abbrev dL (s0 e0:Int):FV:=aK aW (.str [40]) true s0 e0
abbrev Fa:Nat→List An
 | 0=>[]
 | n + 1=>.inl::Fa n
abbrev Rt (pre:List TD) (tc:TD) (ds:List TD) (E:TD) (post:List TD) (M X:FV) (s:Bool) (j:Nat) (B:Int) (lev k:Nat) (ul:List PU) (s0 e0:Int):Prop:=∀ t a,
 dE Pl (j + 113) 1259 [.ref 0] (gP (dL s0 e0) .none s 0 0 t a) (qT t a (pre++[tc])++qT t (A2 a pre tc ds E) (post++[a9])) ul [(1158,Fa k++[.val (.ok (.f X,gP (cC E (bI (A1 a pre tc) ds)) .none s 0 B t (A2 a pre tc ds E)))])] []
 = some (.ok (.f M,gP (cC a9 (bI (A2 a pre tc ds E) post)) .none s 0 0 t (bI (A2 a pre tc ds E) (post++[a9]))),fC t a (pre++[tc])++fC t (A2 a pre tc ds E) (post++[a9]),ul,[.call (j + 73 + lev) 1158 [.ref 0] (gP (cC tc (bI a pre)) .none s 0 B t (A1 a pre tc)) (.ok (.f X,gP (cC E (bI (A1 a pre tc) ds)) .none s 0 B t (A2 a pre tc ds E)))])
theorem kM {pre:List TD}{tc:TD}{ds:List TD}{E:TD}{post:List TD}{M X:FV}{s:Bool}{j:Nat}{B:Int}{lev k:Nat}{ul:List PU}{s0 e0:Int} (h:Rt pre tc ds E post M X s j B lev k ul s0 e0) (hu:∀ e ∈ ul,P0.PR e) (H:∀ s0 e0,b9 1158 (j + 73) (tc.tok s0 e0) ds E X s B):b9 1259 (j + 113) (dL s0 e0) ((pre++[tc])++((ds++[E])++post)) a9 M s 0:=Ia fun t a h1 h2 k =>
 aI (h t a) k h1 hu (mc (((H _ _).weak lev) t _ h2 k) mn)
abbrev Ro (pre:List TD) (tc:TD) (s:Bool) (j:Nat) (B:Int) (lev k:Nat) (ul:List PU) (s0 e0:Int):Prop:=∀ t a,
 dE Pl (j + 113) 1259 [.ref 0] (gP (dL s0 e0) .none s 0 0 t a) (qT t a (pre++[tc])) ul [(1158,Fa k++[.val .raise])] []=some (.raise,fC t a (pre++[tc]),ul,[.call (j + 73 + lev) 1158 [.ref 0] (gP (cC tc (bI a pre)) .none s 0 B t (A1 a pre tc)) .raise])
theorem kH {pre:List TD}{tc:TD}{ds:List TD}{s:Bool}{j:Nat}{B:Int}{lev k:Nat}{ul:List PU}{s0 e0:Int} (h:Ro pre tc s j B lev k ul s0 e0) (hu:∀ e ∈ ul,P0.PR e) (H:∀ s0 e0,bK 1158 (j + 73) (tc.tok s0 e0) ds s B):bK 1259 (j + 113) (dL s0 e0) ((pre++[tc])++ds) s 0:=Ei fun t a h1 h2 k =>
 aI (h t a) k h1 hu (mc (((H _ _).weak lev) t _ h2 k) mn)
noncomputable def M0 (s:Bool) (X:FV):FV:=nd [69,120,112,114] [nd [66,105,110,97,114,121] [.str [43],nd [79,98,106,101,99,116] [.lst []],X]]
noncomputable def Fw:List TD:=[jZ,dP,aU,t4]
noncomputable def HJ:List TD:=[]
abbrev OS:TD:=bR
theorem RK (s:Bool) (j:Nat) (tc:TD) (ds:List TD) (X:FV) (H:∀ s0 e0,b9 1158 (j + 73) (tc.tok s0 e0) ds OS X s 2) (s0 e0:Int):b9 1259 (j + 113) (dL s0 e0) ((Fw++[tc])++((ds++[OS])++HJ)) a9 (M0 s X) s 0:=kM (lev:=31) (k:=2) (ul:=[]) (fun t a=>by kernel_rfl) (mn) H
theorem Qa (s:Bool) (j:Nat) (tc:TD) (ds:List TD) (H:∀ s0 e0,bK 1158 (j + 73) (tc.tok s0 e0) ds s 2) (s0 e0:Int):bK 1259 (j + 113) (dL s0 e0) ((Fw++[tc])++ds) s 0:=kH (lev:=31) (k:=2) (ul:=[]) (fun t a=>by kernel_rfl) (mn) H
noncomputable def M1 (s:Bool) (X:FV):FV:=nd [69,120,112,114] [nd [65,115,115,105,103,110] [.str [61],nd [77,101,109,98,101,114] [nd [79,98,106,101,99,116] [.lst []],.str [97]],X]]
noncomputable def FQ:List TD:=[jZ,dP,aU,eE,gX,Gb]
noncomputable def HI:List TD:=[]
abbrev OO:TD:=bR
theorem Qp (s:Bool) (j:Nat) (tc:TD) (ds:List TD) (X:FV) (H:∀ s0 e0,b9 1158 (j + 73) (tc.tok s0 e0) ds OO X s 3) (s0 e0:Int):b9 1259 (j + 113) (dL s0 e0) ((FQ++[tc])++((ds++[OO])++HI)) a9 (M1 s X) s 0:=kM (lev:=31) (k:=2) (ul:=[]) (fun t a=>by kernel_rfl) (mn) H
theorem RJ (s:Bool) (j:Nat) (tc:TD) (ds:List TD) (H:∀ s0 e0,bK 1158 (j + 73) (tc.tok s0 e0) ds s 3) (s0 e0:Int):bK 1259 (j + 113) (dL s0 e0) ((FQ++[tc])++ds) s 0:=kH (lev:=31) (k:=2) (ul:=[]) (fun t a=>by kernel_rfl) (mn) H
noncomputable def M2 (s:Bool) (X:FV):FV:=nd [69,120,112,114] [nd [67,97,108,108] [nd [77,101,109,98,101,114] [nd [70,117,110,99,116,105,111,110] [.none,.lst [],.lst [],.bool s,.str [101,120,112,114]],.str [99,97,108,108]],.lst [nd [84,104,105,115] [],X]]]
noncomputable def nO:List TD:=[e7,cK,aU,eQ,dP,aU,eE,z3,bX,zV,sL]
noncomputable def r9:List TD:=[bR]
abbrev u3:TD:=aU
theorem N7 (s:Bool) (j:Nat) (b n:Nat) (ds:List TD) (X:FV) (H:∀ s0 e0,b9 1158 (j + 73) ((⟨aK [112,117,110,99,116] (.str [33]) true,b,n⟩:TD).tok s0 e0) ds u3 X s 3) (s0 e0:Int):b9 1259 (j + 113) (dL s0 e0) ((nO++[(⟨aK [112,117,110,99,116] (.str [33]) true,b,n⟩:TD)])++((ds++[u3])++r9)) a9 (M2 s X) s 0:=kM (lev:=25) (k:=3) (ul:=[(878,[.f .none,.f (.lst []),.f (.bool s)],.f .none)]) (fun t a=>by kernel_rfl) (mc (dG s) (mn)) H
theorem Ly (s:Bool) (j:Nat) (b n:Nat) (ds:List TD) (H:∀ s0 e0,bK 1158 (j + 73) ((⟨aK [112,117,110,99,116] (.str [33]) true,b,n⟩:TD).tok s0 e0) ds s 3) (s0 e0:Int):bK 1259 (j + 113) (dL s0 e0) ((nO++[(⟨aK [112,117,110,99,116] (.str [33]) true,b,n⟩:TD)])++ds) s 0:=kH (lev:=25) (k:=3) (ul:=[(878,[.f .none,.f (.lst []),.f (.bool s)],.f .none)]) (fun t a=>by kernel_rfl) (mc (dG s) (mn)) H
theorem NA (s:Bool) (j:Nat) (b n:Nat) (ds:List TD) (X:FV) (H:∀ s0 e0,b9 1158 (j + 73) ((⟨aK [110,117,109,98,101,114] (.int 0) true,b,n⟩:TD).tok s0 e0) ds u3 X s 3) (s0 e0:Int):b9 1259 (j + 113) (dL s0 e0) ((nO++[(⟨aK [110,117,109,98,101,114] (.int 0) true,b,n⟩:TD)])++((ds++[u3])++r9)) a9 (M2 s X) s 0:=kM (lev:=25) (k:=3) (ul:=[(878,[.f .none,.f (.lst []),.f (.bool s)],.f .none)]) (fun t a=>by kernel_rfl) (mc (dG s) (mn)) H
theorem Ny (s:Bool) (j:Nat) (b n:Nat) (ds:List TD) (H:∀ s0 e0,bK 1158 (j + 73) ((⟨aK [110,117,109,98,101,114] (.int 0) true,b,n⟩:TD).tok s0 e0) ds s 3) (s0 e0:Int):bK 1259 (j + 113) (dL s0 e0) ((nO++[(⟨aK [110,117,109,98,101,114] (.int 0) true,b,n⟩:TD)])++ds) s 0:=kH (lev:=25) (k:=3) (ul:=[(878,[.f .none,.f (.lst []),.f (.bool s)],.f .none)]) (fun t a=>by kernel_rfl) (mc (dG s) (mn)) H
theorem Nt (s:Bool) (j:Nat) (b n:Nat) (ds:List TD) (X:FV) (H:∀ s0 e0,b9 1158 (j + 73) ((⟨aK [107,101,121,119,111,114,100] (.str [102,117,110,99,116,105,111,110]) true,b,n⟩:TD).tok s0 e0) ds u3 X s 3) (s0 e0:Int):b9 1259 (j + 113) (dL s0 e0) ((nO++[(⟨aK [107,101,121,119,111,114,100] (.str [102,117,110,99,116,105,111,110]) true,b,n⟩:TD)])++((ds++[u3])++r9)) a9 (M2 s X) s 0:=kM (lev:=25) (k:=3) (ul:=[(878,[.f .none,.f (.lst []),.f (.bool s)],.f .none)]) (fun t a=>by kernel_rfl) (mc (dG s) (mn)) H
theorem NV (s:Bool) (j:Nat) (b n:Nat) (ds:List TD) (H:∀ s0 e0,bK 1158 (j + 73) ((⟨aK [107,101,121,119,111,114,100] (.str [102,117,110,99,116,105,111,110]) true,b,n⟩:TD).tok s0 e0) ds s 3) (s0 e0:Int):bK 1259 (j + 113) (dL s0 e0) ((nO++[(⟨aK [107,101,121,119,111,114,100] (.str [102,117,110,99,116,105,111,110]) true,b,n⟩:TD)])++ds) s 0:=kH (lev:=25) (k:=3) (ul:=[(878,[.f .none,.f (.lst []),.f (.bool s)],.f .none)]) (fun t a=>by kernel_rfl) (mc (dG s) (mn)) H
theorem Mt (s:Bool) (j:Nat) (b n:Nat) (ds:List TD) (X:FV) (H:∀ s0 e0,b9 1158 (j + 73) ((⟨aK [107,101,121,119,111,114,100] (.str [110,101,119]) true,b,n⟩:TD).tok s0 e0) ds u3 X s 3) (s0 e0:Int):b9 1259 (j + 113) (dL s0 e0) ((nO++[(⟨aK [107,101,121,119,111,114,100] (.str [110,101,119]) true,b,n⟩:TD)])++((ds++[u3])++r9)) a9 (M2 s X) s 0:=kM (lev:=25) (k:=3) (ul:=[(878,[.f .none,.f (.lst []),.f (.bool s)],.f .none)]) (fun t a=>by kernel_rfl) (mc (dG s) (mn)) H
theorem Nj (s:Bool) (j:Nat) (b n:Nat) (ds:List TD) (H:∀ s0 e0,bK 1158 (j + 73) ((⟨aK [107,101,121,119,111,114,100] (.str [110,101,119]) true,b,n⟩:TD).tok s0 e0) ds s 3) (s0 e0:Int):bK 1259 (j + 113) (dL s0 e0) ((nO++[(⟨aK [107,101,121,119,111,114,100] (.str [110,101,119]) true,b,n⟩:TD)])++ds) s 0:=kH (lev:=25) (k:=3) (ul:=[(878,[.f .none,.f (.lst []),.f (.bool s)],.f .none)]) (fun t a=>by kernel_rfl) (mc (dG s) (mn)) H
noncomputable def M3 (s:Bool) (X:FV):FV:=nd [69,120,112,114] [nd [73,110,100,101,120] [nd [79,98,106,101,99,116] [.lst []],X]]
noncomputable def Ee:List TD:=[jZ,dP,aU,pT]
noncomputable def GZ:List TD:=[bR]
abbrev Ol:TD:=rY
theorem Qx (s:Bool) (j:Nat) (tc:TD) (ds:List TD) (X:FV) (H:∀ s0 e0,b9 1158 (j + 73) (tc.tok s0 e0) ds Ol X s 3) (s0 e0:Int):b9 1259 (j + 113) (dL s0 e0) ((Ee++[tc])++((ds++[Ol])++GZ)) a9 (M3 s X) s 0:=kM (lev:=24) (k:=2) (ul:=[]) (fun t a=>by kernel_rfl) (mn) H
theorem RI (s:Bool) (j:Nat) (tc:TD) (ds:List TD) (H:∀ s0 e0,bK 1158 (j + 73) (tc.tok s0 e0) ds s 3) (s0 e0:Int):bK 1259 (j + 113) (dL s0 e0) ((Ee++[tc])++ds) s 0:=kH (lev:=24) (k:=2) (ul:=[]) (fun t a=>by kernel_rfl) (mn) H
noncomputable def M4 (s:Bool) (X:FV):FV:=nd [69,120,112,114] [nd [67,111,109,109,97] [.lst [nd [79,98,106,101,99,116] [.lst []],X]]]
noncomputable def F0:List TD:=[jZ,dP,aU,sL]
noncomputable def Gl:List TD:=[]
abbrev O3:TD:=bR
theorem Qr (s:Bool) (j:Nat) (tc:TD) (ds:List TD) (X:FV) (H:∀ s0 e0,b9 1158 (j + 73) (tc.tok s0 e0) ds O3 X s 2) (s0 e0:Int):b9 1259 (j + 113) (dL s0 e0) ((F0++[tc])++((ds++[O3])++Gl)) a9 (M4 s X) s 0:=kM (lev:=32) (k:=2) (ul:=[]) (fun t a=>by kernel_rfl) (mn) H
theorem Ru (s:Bool) (j:Nat) (tc:TD) (ds:List TD) (H:∀ s0 e0,bK 1158 (j + 73) (tc.tok s0 e0) ds s 2) (s0 e0:Int):bK 1259 (j + 113) (dL s0 e0) ((F0++[tc])++ds) s 0:=kH (lev:=32) (k:=2) (ul:=[]) (fun t a=>by kernel_rfl) (mn) H
noncomputable def M5 (s:Bool) (X:FV):FV:=nd [69,120,112,114] [nd [67,111,110,100] [nd [70,117,110,99,116,105,111,110] [.none,.lst [],.lst [],.bool s,.str [101,120,112,114]],X,nd [78,117,109] [.int 0]]]
noncomputable def EP:List TD:=[e7,cK,aU,eQ,dP,aU,DC]
noncomputable def HY:List TD:=[v8,bR]
abbrev Og:TD:=xS
theorem Qe (s:Bool) (j:Nat) (tc:TD) (ds:List TD) (X:FV) (H:∀ s0 e0,b9 1158 (j + 73) (tc.tok s0 e0) ds Og X s 3) (s0 e0:Int):b9 1259 (j + 113) (dL s0 e0) ((EP++[tc])++((ds++[Og])++HY)) a9 (M5 s X) s 0:=kM (lev:=30) (k:=2) (ul:=[(878,[.f .none,.f (.lst []),.f (.bool s)],.f .none),(899,[.f (.bool false),.f (.bool s)],.f .none)]) (fun t a=>by kernel_rfl) (mc (dG s) (mc (bF s) (mn))) H
theorem Q6 (s:Bool) (j:Nat) (tc:TD) (ds:List TD) (H:∀ s0 e0,bK 1158 (j + 73) (tc.tok s0 e0) ds s 3) (s0 e0:Int):bK 1259 (j + 113) (dL s0 e0) ((EP++[tc])++ds) s 0:=kH (lev:=30) (k:=2) (ul:=[(878,[.f .none,.f (.lst []),.f (.bool s)],.f .none)]) (fun t a=>by kernel_rfl) (mc (dG s) (mn)) H
noncomputable def M6 (s:Bool) (X:FV):FV:=nd [69,120,112,114] [nd [67,97,108,108] [nd [67,97,108,108] [nd [77,101,109,98,101,114] [nd [79,98,106,101,99,116] [.lst []],.str [97]],.lst [nd [78,117,109] [.int 4607182418800017408]]],.lst [X]]]
noncomputable def nK:List TD:=[jZ,dP,aU,eE,gX,bX,vX,aU,bX]
noncomputable def sY:List TD:=[bR]
abbrev uW:TD:=aU
theorem NI (s:Bool) (j:Nat) (b n:Nat) (ds:List TD) (X:FV) (H:∀ s0 e0,b9 1158 (j + 73) ((⟨aK [112,117,110,99,116] (.str [33]) true,b,n⟩:TD).tok s0 e0) ds uW X s 3) (s0 e0:Int):b9 1259 (j + 113) (dL s0 e0) ((nK++[(⟨aK [112,117,110,99,116] (.str [33]) true,b,n⟩:TD)])++((ds++[uW])++sY)) a9 (M6 s X) s 0:=kM (lev:=25) (k:=3) (ul:=[(899,[.f (.bool false),.f (.bool s)],.f .none)]) (fun t a=>by kernel_rfl) (mc (bF s) (mn)) H
theorem My (s:Bool) (j:Nat) (b n:Nat) (ds:List TD) (H:∀ s0 e0,bK 1158 (j + 73) ((⟨aK [112,117,110,99,116] (.str [33]) true,b,n⟩:TD).tok s0 e0) ds s 3) (s0 e0:Int):bK 1259 (j + 113) (dL s0 e0) ((nK++[(⟨aK [112,117,110,99,116] (.str [33]) true,b,n⟩:TD)])++ds) s 0:=kH (lev:=25) (k:=3) (ul:=[(899,[.f (.bool false),.f (.bool s)],.f .none)]) (fun t a=>by kernel_rfl) (mc (bF s) (mn)) H
theorem MH (s:Bool) (j:Nat) (b n:Nat) (ds:List TD) (X:FV) (H:∀ s0 e0,b9 1158 (j + 73) ((⟨aK [110,117,109,98,101,114] (.int 0) true,b,n⟩:TD).tok s0 e0) ds uW X s 3) (s0 e0:Int):b9 1259 (j + 113) (dL s0 e0) ((nK++[(⟨aK [110,117,109,98,101,114] (.int 0) true,b,n⟩:TD)])++((ds++[uW])++sY)) a9 (M6 s X) s 0:=kM (lev:=25) (k:=3) (ul:=[(899,[.f (.bool false),.f (.bool s)],.f .none)]) (fun t a=>by kernel_rfl) (mc (bF s) (mn)) H
theorem Mm (s:Bool) (j:Nat) (b n:Nat) (ds:List TD) (H:∀ s0 e0,bK 1158 (j + 73) ((⟨aK [110,117,109,98,101,114] (.int 0) true,b,n⟩:TD).tok s0 e0) ds s 3) (s0 e0:Int):bK 1259 (j + 113) (dL s0 e0) ((nK++[(⟨aK [110,117,109,98,101,114] (.int 0) true,b,n⟩:TD)])++ds) s 0:=kH (lev:=25) (k:=3) (ul:=[(899,[.f (.bool false),.f (.bool s)],.f .none)]) (fun t a=>by kernel_rfl) (mc (bF s) (mn)) H
theorem NF (s:Bool) (j:Nat) (b n:Nat) (ds:List TD) (X:FV) (H:∀ s0 e0,b9 1158 (j + 73) ((⟨aK [107,101,121,119,111,114,100] (.str [102,117,110,99,116,105,111,110]) true,b,n⟩:TD).tok s0 e0) ds uW X s 3) (s0 e0:Int):b9 1259 (j + 113) (dL s0 e0) ((nK++[(⟨aK [107,101,121,119,111,114,100] (.str [102,117,110,99,116,105,111,110]) true,b,n⟩:TD)])++((ds++[uW])++sY)) a9 (M6 s X) s 0:=kM (lev:=25) (k:=3) (ul:=[(899,[.f (.bool false),.f (.bool s)],.f .none)]) (fun t a=>by kernel_rfl) (mc (bF s) (mn)) H
theorem Mo (s:Bool) (j:Nat) (b n:Nat) (ds:List TD) (H:∀ s0 e0,bK 1158 (j + 73) ((⟨aK [107,101,121,119,111,114,100] (.str [102,117,110,99,116,105,111,110]) true,b,n⟩:TD).tok s0 e0) ds s 3) (s0 e0:Int):bK 1259 (j + 113) (dL s0 e0) ((nK++[(⟨aK [107,101,121,119,111,114,100] (.str [102,117,110,99,116,105,111,110]) true,b,n⟩:TD)])++ds) s 0:=kH (lev:=25) (k:=3) (ul:=[(899,[.f (.bool false),.f (.bool s)],.f .none)]) (fun t a=>by kernel_rfl) (mc (bF s) (mn)) H
theorem Mz (s:Bool) (j:Nat) (b n:Nat) (ds:List TD) (X:FV) (H:∀ s0 e0,b9 1158 (j + 73) ((⟨aK [107,101,121,119,111,114,100] (.str [110,101,119]) true,b,n⟩:TD).tok s0 e0) ds uW X s 3) (s0 e0:Int):b9 1259 (j + 113) (dL s0 e0) ((nK++[(⟨aK [107,101,121,119,111,114,100] (.str [110,101,119]) true,b,n⟩:TD)])++((ds++[uW])++sY)) a9 (M6 s X) s 0:=kM (lev:=25) (k:=3) (ul:=[(899,[.f (.bool false),.f (.bool s)],.f .none)]) (fun t a=>by kernel_rfl) (mc (bF s) (mn)) H
theorem Np (s:Bool) (j:Nat) (b n:Nat) (ds:List TD) (H:∀ s0 e0,bK 1158 (j + 73) ((⟨aK [107,101,121,119,111,114,100] (.str [110,101,119]) true,b,n⟩:TD).tok s0 e0) ds s 3) (s0 e0:Int):bK 1259 (j + 113) (dL s0 e0) ((nK++[(⟨aK [107,101,121,119,111,114,100] (.str [110,101,119]) true,b,n⟩:TD)])++ds) s 0:=kH (lev:=25) (k:=3) (ul:=[(899,[.f (.bool false),.f (.bool s)],.f .none)]) (fun t a=>by kernel_rfl) (mc (bF s) (mn)) H
noncomputable def M7 (s:Bool) (X:FV):FV:=nd [69,120,112,114] [nd [76,111,103,105,99,97,108] [.str [124,124],nd [67,97,108,108] [nd [70,117,110,99,116,105,111,110] [.str [102],.lst [],.lst [],.bool s,.str [101,120,112,114]],.lst []],X]]
noncomputable def F8:List TD:=[e7,Ko,bX,aU,eQ,dP,aU,bX,aU,GI]
noncomputable def Gw:List TD:=[]
abbrev OG:TD:=bR
theorem RD (s:Bool) (j:Nat) (tc:TD) (ds:List TD) (X:FV) (H:∀ s0 e0,b9 1158 (j + 73) (tc.tok s0 e0) ds OG X s 2) (s0 e0:Int):b9 1259 (j + 113) (dL s0 e0) ((F8++[tc])++((ds++[OG])++Gw)) a9 (M7 s X) s 0:=kM (lev:=31) (k:=2) (ul:=[(864,[.f (.str [102]),.f (.bool s)],.f .none),(878,[.f (.str [102]),.f (.lst []),.f (.bool s)],.f .none)]) (fun t a=>by kernel_rfl) (mc (u1 s) (mc (w7 s) (mn))) H
theorem Rk (s:Bool) (j:Nat) (tc:TD) (ds:List TD) (H:∀ s0 e0,bK 1158 (j + 73) (tc.tok s0 e0) ds s 2) (s0 e0:Int):bK 1259 (j + 113) (dL s0 e0) ((F8++[tc])++ds) s 0:=kH (lev:=31) (k:=2) (ul:=[(864,[.f (.str [102]),.f (.bool s)],.f .none),(878,[.f (.str [102]),.f (.lst []),.f (.bool s)],.f .none)]) (fun t a=>by kernel_rfl) (mc (u1 s) (mc (w7 s) (mn))) H
noncomputable def M8 (s:Bool) (X:FV):FV:=nd [69,120,112,114] [nd [67,111,109,109,97] [.lst [nd [85,112,100,97,116,101] [.str [43,43],.bool false,nd [77,101,109,98,101,114] [nd [79,98,106,101,99,116] [.lst []],.str [97]]],X]]]
noncomputable def FH:List TD:=[jZ,dP,aU,eE,gX,Gc,sL]
noncomputable def HS:List TD:=[]
abbrev ON:TD:=bR
theorem QJ (s:Bool) (j:Nat) (tc:TD) (ds:List TD) (X:FV) (H:∀ s0 e0,b9 1158 (j + 73) (tc.tok s0 e0) ds ON X s 2) (s0 e0:Int):b9 1259 (j + 113) (dL s0 e0) ((FH++[tc])++((ds++[ON])++HS)) a9 (M8 s X) s 0:=kM (lev:=32) (k:=2) (ul:=[]) (fun t a=>by kernel_rfl) (mn) H
theorem R4 (s:Bool) (j:Nat) (tc:TD) (ds:List TD) (H:∀ s0 e0,bK 1158 (j + 73) (tc.tok s0 e0) ds s 2) (s0 e0:Int):bK 1259 (j + 113) (dL s0 e0) ((FH++[tc])++ds) s 0:=kH (lev:=32) (k:=2) (ul:=[]) (fun t a=>by kernel_rfl) (mn) H
end Mine
end
section
namespace Mine
inductive aF where
 | e | u | a | n | p
noncomputable def PY:List Nat:=[117,115,101,32,115,116,114,105,99,116]
noncomputable def aF.tok:aF→Int→Int→FV
 | .e=>nR.tok
 | .u=>lQ.tok
 | .a=>Au.tok
 | .n=>gX.tok
 | .p=>bX.tok
noncomputable def aF.len:aF→Nat
 | .e=>15
 | .u=>12
 | .a=>3
 | .n=>1
 | .p=>1
noncomputable def aF.fst (r:aF) (b:Nat):TD:=⟨r.tok,b,b + r.len⟩
noncomputable def aF.ds:aF→List TD
 | .p=>[lQ,aU,bR]
 | _=>[bR]
noncomputable def u4 (X:FV):FV:=nd [69,120,112,114] [X]
noncomputable def aF.tree:aF→FV
 | .a=>u4 (nd [83,116,114] [.str [97]])
 | .n=>u4 (nd [78,97,109,101] [.str [97]])
 | _=>u4 (nd [83,116,114] [.str PY])
noncomputable def aF.isT:aF→Bool
 | .n=>false
 | .p=>false
 | _=>true
noncomputable def aF.isU:aF→Bool
 | .u=>true
 | _=>false
theorem jN {f:Nat}{bY:FV}{ds:List TD}{X:FV}{s:Bool}{x:Int} (ul:List PU) (hu:∀ e ∈ ul,P0.PR e)
  (h:∀ t a E,dE Pl 70 f [.ref 0] (gP bY .none s 0 x t a) (qT t a (ds++[E])) ul [] []=some (.ok (.f X,gP (cC E (bI a ds)) .none s 0 x t (bI a (ds++[E]))),fC t a (ds++[E]),ul,[])):hJ f 70 bY ds X s x :=
 fun t a E hq k=>aI (h t a E) k hq hu mn
theorem LI (s:Bool) (s0 e0:Int):∀ r:aF,r.isT=true→hJ 1266 70 (r.tok s0 e0) r.ds r.tree s 0
 | .e,_=>jN [(899,[.f (.bool false),.f (.bool s)],.f .none)] (mc (bF s) mn) fun t a E=>by kernel_rfl
 | .u,_=>jN [(899,[.f (.bool false),.f (.bool s)],.f .none)] (mc (bF s) mn) fun t a E=>by kernel_rfl
 | .a,_=>jN [(899,[.f (.bool false),.f (.bool s)],.f .none)] (mc (bF s) mn) fun t a E=>by kernel_rfl
theorem LO (s:Bool) (s0 e0:Int):∀ r:aF,hJ 1259 70 (r.tok s0 e0) r.ds r.tree s 0
 | .e=>jN [(899,[.f (.bool false),.f (.bool s)],.f .none)] (mc (bF s) mn) fun t a E=>by kernel_rfl
 | .u=>jN [(899,[.f (.bool false),.f (.bool s)],.f .none)] (mc (bF s) mn) fun t a E=>by kernel_rfl
 | .a=>jN [(899,[.f (.bool false),.f (.bool s)],.f .none)] (mc (bF s) mn) fun t a E=>by kernel_rfl
 | .n=>jN [(857,[.f (.str [97]),.f (.bool s)],.f .none)] (mc (Br s) mn) fun t a E=>by kernel_rfl
 | .p=>jN [(899,[.f (.bool false),.f (.bool s)],.f .none)] (mc (bF s) mn) fun t a E=>by kernel_rfl
noncomputable def d6:List aF→TD
 | []=>cK
 | r::_=>r.fst 1
noncomputable def bC (t:List Nat):List aF→Bool→Bool→FV→Int→List (Nat × List MO × O (PV × List MO))
 | [],_,_,_,_=>[]
 | r::rs,h,s,tok,a=>(if h&&r.isT then 1266 else 1259,gP tok .none s 0 0 t a,.ok (.f r.tree,gP (cC (d6 rs) (bI a r.ds)) .none s 0 0 t (bI a (r.ds++[d6 rs]))))::bC t rs (h&&r.isT) (s||(h&&r.isT&&r.isU)) (cC (d6 rs) (bI a r.ds)) (bI a (r.ds++[d6 rs]))
noncomputable def bS:List aF→Bool→Bool→Bool
 | [],_,s=>s
 | r::rs,h,s=>bS rs (h&&r.isT) (s||(h&&r.isT&&r.isU))
noncomputable def bT:List aF→FV→Int→FV
 | [],tok,_=>tok
 | r::rs,_,a=>bT rs (cC (d6 rs) (bI a r.ds)) (bI a (r.ds++[d6 rs]))
noncomputable def bA:List aF→Int→Int
 | [],a=>a
 | r::rs,a=>bA rs (bI a (r.ds++[d6 rs]))
noncomputable def bU:List aF→Bool→List PU
 | [],_=>[]
 | r::rs,h=>match h&&r.isT&&r.isU with
  | true=>(899,[.f (.bool false),.f (.bool true)],.f .none)::bU rs (h&&r.isT)
  | false=>bU rs (h&&r.isT)
noncomputable def uG (f:Nat):List (Nat × List MO × O (PV × List MO))→List An
 | []=>[]
 | (a,_,o)::r=>match Nat.beq a f with
  | true=>.val o::uG f r
  | false=>uG f r
noncomputable def bY (rs:List aF) (s0 e0:Int):FV:=match rs with
 | []=>bX.tok s0 e0
 | r::_=>r.tok s0 e0
noncomputable def G3 (n:Nat):List (Nat × List MO × O (PV × List MO))→List Lg
 | []=>[]
 | (a,g,o)::r=>.call n a [.ref 0] g o::G3 n r
noncomputable def Fs (n:Nat) (g:List MO):List FV→List Lg
 | []=>[]
 | x::r=>.call n 47 [.f x,.f (.int 120)] g (.ok (.f (.bool false),g))::Fs n g r
noncomputable def Ji (g:List MO):List FV→List An
 | []=>[]
 | _::r=>.val (.ok (.f (.bool false),g))::Ji g r
noncomputable def cF (rs:List aF) (M:FV):List FV:=rs.map aF.tree++[M]
section
variable (j:Nat) (t:List Nat) (s0 e0 a aE:Int) (M:FV)
noncomputable def Gu (rs:List aF):List MO:=gP (bY rs s0 e0) .none false 0 0 t a
noncomputable def zQ (rs:List aF):List MO:=gP (bT rs (bY rs s0 e0) a) .none (bS rs true false) 0 0 t (bA rs a)
noncomputable def vE (rs:List aF):List MO:=gP (cC a9 aE) .none (bS rs true false) 0 0 t (aE + ((0:Nat):Int))
noncomputable def GY (rs:List aF):=dE Pl (j + 114) 1245 [.ref 0,.f (.bool true)] (Gu t s0 e0 a rs) [] (bU rs true)
  [(1266,uG 1266 (bC t rs true false (bY rs s0 e0) a)),(1259,uG 1259 (bC t rs true false (bY rs s0 e0) a)++[.val (.ok (.f M,vE t aE rs))]),(47,Ji (vE t aE rs) (cF rs M))] []
noncomputable def G7 (rs:List aF):Option (O (PV × List MO) × List (LF × FV × LF) × List PU × List Lg):=some (.ok (.f (.lst (cF rs M)),vE t aE rs),[],bU rs true,G3 (j + 113) (bC t rs true false (bY rs s0 e0) a)++(.call (j + 113) 1259 [.ref 0] (zQ t s0 e0 a rs) (.ok (.f M,vE t aE rs))::Fs (j + 113) (vE t aE rs) (cF rs M)))
noncomputable def GO (rs:List aF):=dE Pl (j + 114) 1245 [.ref 0,.f (.bool true)] (Gu t s0 e0 a rs) [] (bU rs true)
  [(1266,uG 1266 (bC t rs true false (bY rs s0 e0) a)),(1259,uG 1259 (bC t rs true false (bY rs s0 e0) a)++[.val .raise])] []
noncomputable def G5 (rs:List aF):Option (O (PV × List MO) × List (LF × FV × LF) × List PU × List Lg):=some (.raise,[],bU rs true,G3 (j + 113) (bC t rs true false (bY rs s0 e0) a)++[.call (j + 113) 1259 [.ref 0] (zQ t s0 e0 a rs) .raise])
noncomputable def Jd (rs:List aF):Prop:=GY j t s0 e0 a aE M rs=G7 j t s0 e0 a aE M rs
noncomputable def KP (rs:List aF):Prop:=GO j t s0 e0 a rs=G5 j t s0 e0 a rs
noncomputable def yM (R:List aF):Nat→List (List aF)
 | 0=>[[]]
 | n + 1=>[]::R.flatMap fun r=>(yM R n).map (r::·)
theorem xM {R:List aF} (n:Nat):∀ rs:List aF,(∀ r ∈ rs,r ∈ R)→rs.length ≤ n→rs ∈ yM R n:=by
 induction n with
 | zero=>intro rs q h;cases rs with | nil=>exact .head _ | cons=>cases h
 | succ n ih =>
  intro rs q h
  cases rs with
  | nil=>exact .head _
  | cons r rs=>exact .tail _ (List.mem_flatMap.mpr ⟨r,q r (.head _),List.mem_map.mpr ⟨rs,ih rs (fun x m=>q x (.tail _ m)) (Nat.le_of_succ_le_succ h),rfl⟩⟩)
noncomputable def fM:List (List aF):=yM [.e,.u,.a,.n,.p] 3
theorem nM (rs:List aF) (h:rs.length ≤ 3):rs ∈ fM:=xM 3 rs (fun r _=>by cases r<;>simp) h
theorem IV:(fM.take 80).map (GY j t s0 e0 a aE M)=(fM.take 80).map (G7 j t s0 e0 a aE M):=by kernel_rfl
theorem JL:(fM.drop 80).map (GY j t s0 e0 a aE M)=(fM.drop 80).map (G7 j t s0 e0 a aE M):=by kernel_rfl
theorem Hc:(fM.take 80).map (GO j t s0 e0 a)=(fM.take 80).map (G5 j t s0 e0 a):=by kernel_rfl
theorem Il:(fM.drop 80).map (GO j t s0 e0 a)=(fM.drop 80).map (G5 j t s0 e0 a):=by kernel_rfl
theorem z6 {α β:Type}{f g:α→β} (n:Nat) {l:List α} (h1:(l.take n).map f=(l.take n).map g) (h2:(l.drop n).map f=(l.drop n).map g):l.map f=l.map g:=by
 rw[← List.take_append_drop n l,List.map_append,List.map_append,h1,h2]
theorem E5:fM.map (GY j t s0 e0 a aE M)=fM.map (G7 j t s0 e0 a aE M):=z6 80 (IV j t s0 e0 a aE M) (JL j t s0 e0 a aE M)
theorem FA:fM.map (GO j t s0 e0 a)=fM.map (G5 j t s0 e0 a):=z6 80 (Hc j t s0 e0 a) (Il j t s0 e0 a)
theorem JF (rs:List aF) (h:rs.length ≤ 3):Jd j t s0 e0 a aE M rs:=List.map_inj_left.mp (E5 j t s0 e0 a aE M) rs (nM rs h)
theorem He (rs:List aF) (h:rs.length ≤ 3):KP j t s0 e0 a rs:=List.map_inj_left.mp (FA j t s0 e0 a) rs (nM rs h)
end
end Mine
end
section
namespace Mine
noncomputable def iG (t:List Nat) (a:Int):List MO:=[.inst 1469 [(Str.ofString "lexer",.ref 1)],.inst 843 (lf t a)]
noncomputable def oL (r:List Nat) (d:TD):Prop:=∀ t a,At t a r→∀ k,run TT 5000 (k + 25) 721 [.ref 1] (iG t a)=.ok (.f (cC d a),iG t (a + (d.n:Nat)))
theorem Al {r:List Nat}{d:TD} (H:∀ t a,At t a r→∃ s e,s=a + (d.b:Nat)∧e=a + (d.n:Nat)∧∀ k,run TT 5000 (k + 25) 721 [.ref 1] (iG t a)=.ok (.f (d.tok s e),iG t e)):oL r d:=by
 intro t a h
 obtain⟨s,e,h1,h2,h3⟩:=H t a h
 unfold cC
 rw[← h1,← h2];exact h3
theorem P1 {t:List Nat}{a s e:Int}{tok:Int→Int→FV}{ul:List PU}{cl:List Lg} (ps:List PA) (h:dE Pn 25 721 [.ref 1] (iG t a) [] ul [] ps=some (.ok (.f (tok s e),iG t e),[],ul,cl))
  (h1:∀ e ∈ ul,P0.PR e) (h2:∀ k,∀ l ∈ cl,P0.Holds k l):∀ k,run TT 5000 (k + 25) 721 [.ref 1] (iG t a)=.ok (.f (tok s e),iG t e):=fun k=>aI h k iJ h1 (h2 k)
theorem PO {b c0:Nat}{w:List Nat}{c:Nat}{kd:List Nat} (hb:b ≤ 1) (hc:c0 ≠ 47) (h:GN b c0 w c kd iG) (r:List Nat):oL (gE b++(c0::(w++(c::r)))) ⟨aK kd (.str (c0::w)) true,b,b + (w.length + 1)⟩:=Al fun t a hA=>⟨pl a b,pl a (b + (w.length + 1)),b6 a _,b6 a _,fun k=>aI (h t a) k iJ (nu hb t a r hA) (nc hb hc t a _ hA k)⟩
theorem KQ {b c0:Nat}{us:List Nat→Int→List PU}{v:FV}{kd:List Nat}{cs:List Nat→Int→List Lg}{ps:List PA}{n:Nat}{r:List Nat} (hb:b ≤ 1) (hc:c0 ≠ 47) (h:GP b c0 us v kd cs ps n iG)
  (h1:∀ t a,At t a (gE b++(c0::r))→∀ e ∈ us t a,P0.PR e) (h2:∀ t a,At t a (gE b++(c0::r))→∀ k,∀ e ∈ cs t a,P0.Holds k e):oL (gE b++(c0::r)) ⟨aK kd v true,b,b + n⟩:=Al fun t a hA=>⟨pl a b,pl a (b + n),b6 a _,b6 a _,fun k=>aI (h t a) k iJ (aa (Bn hb hA) (h1 t a hA)) (aa (A8 hb hc hA k) (h2 t a hA k))⟩
theorem KJ {b:Nat} (hb:b ≤ 1) {w:List Nat}{r:List Nat} (h:GP b 34 (fun t a=>uT t a (b + 1) w++[U t (pl a (b + 1 + w.length)) 34]) (.str w) gM (fun t a=>cT t a (b + 1) w) (au::tP w) (w.length + 2) iG):oL (gE b++(34::(w++(34::r)))) ⟨aK gM (.str w) true,b,b + (w.length + 2)⟩ :=
 KQ hb (by decide) h (fun t a hA=>aa (Bb hA (34::r) w (b + 1) (rE hb _ _)) (mc (aR hA (b + 1 + w.length) (Lm hb _ _ _) (b6 a _)) mn)) (fun t a hA k=>Bf hA k (34::r) w (b + 1) (rE hb _ _))
theorem CF (r:List Nat):oL (40::r) bX:=KQ (b:=0) (c0:=40) (n:=1) (kd:=aW) (v:=.str [40]) (r:=r) (us:=fun t a=>[V t (pl a 0) [40]]) (cs:=fun _ _=>[]) (ps:=[]) (by decide) (by decide) (fun t a=>by kernel_rfl) (fun t a hA=>mc (DS hA 0 (A9 _) (kJ (b:=0) (by decide) _) (b6 a 0)) mn) (fun _ _ _ _=>mn)
theorem Ao (r:List Nat):oL (97::59::r) gX:=PO (b:=0) (c0:=97) (w:=[]) (c:=59) (by decide) (by decide) (fun t a=>by kernel_rfl) r
theorem JV (r:List Nat):oL (34::97::34::r) Au:=KJ (b:=0) (by decide) (w:=[97]) (fun t a=>by kernel_rfl)
theorem J4 (r:List Nat):oL (34::117::115::101::32::115::116::114::105::99::116::34::r) lQ:=KJ (b:=0) (by decide) (w:=[117,115,101,32,115,116,114,105,99,116]) (fun t a=>by kernel_rfl)
theorem KG (r:List Nat):oL (34::117::115::101::92::120::50::48::115::116::114::105::99::116::34::r) nR:=Al fun t a h=>⟨a,a + 1 + 1 + 1 + 1 + 1 + 1 + 2 + 1 + 1 + 1 + 1 + 1 + 1 + 1,by show _=a + ((0:Nat):Int);omega,by show _=a + ((15:Nat):Int);omega,
 P1 (tok:=nR.tok) [w0,w0,au,au,au,au,au,wc 117,au,au,au,au,au,wc 115,au,au,au,au,au,wc 101,au,au,au,au,au,au,au,au,au,wc 115,au,au,au,au,au,wc 116,au,au,au,au,au,wc 114,au,au,au,au,au,wc 105,au,au,au,au,au,wc 99,au,au,au,au,au,wc 116,au,au,au,au,au] (ul:=[U t (a) (34),U t (a) (34),U t (a + 1) (117),U t (a + 1) (117),U t (a + 1 + 1) (115),U t (a + 1 + 1) (115),U t (a + 1 + 1 + 1) (101),U t (a + 1 + 1 + 1) (101),U t (a + 1 + 1 + 1 + 1) (92),U t (a + 1 + 1 + 1 + 1) (92),U t (a + 1 + 1 + 1 + 1 + 1) (120),U t (a + 1 + 1 + 1 + 1 + 1 + 1 + 0) (50),U t (a + 1 + 1 + 1 + 1 + 1 + 1 + 1) (48),U t (a + 1 + 1 + 1 + 1 + 1) (120),U t (a + 1 + 1 + 1 + 1 + 1 + 1 + 2) (115),U t (a + 1 + 1 + 1 + 1 + 1 + 1 + 2) (115),U t (a + 1 + 1 + 1 + 1 + 1 + 1 + 2 + 1) (116),U t (a + 1 + 1 + 1 + 1 + 1 + 1 + 2 + 1) (116),U t (a + 1 + 1 + 1 + 1 + 1 + 1 + 2 + 1 + 1) (114),U t (a + 1 + 1 + 1 + 1 + 1 + 1 + 2 + 1 + 1) (114),U t (a + 1 + 1 + 1 + 1 + 1 + 1 + 2 + 1 + 1 + 1) (105),U t (a + 1 + 1 + 1 + 1 + 1 + 1 + 2 + 1 + 1 + 1) (105),U t (a + 1 + 1 + 1 + 1 + 1 + 1 + 2 + 1 + 1 + 1 + 1) (99),U t (a + 1 + 1 + 1 + 1 + 1 + 1 + 2 + 1 + 1 + 1 + 1) (99),U t (a + 1 + 1 + 1 + 1 + 1 + 1 + 2 + 1 + 1 + 1 + 1 + 1) (116),U t (a + 1 + 1 + 1 + 1 + 1 + 1 + 2 + 1 + 1 + 1 + 1 + 1) (116),U t (a + 1 + 1 + 1 + 1 + 1 + 1 + 2 + 1 + 1 + 1 + 1 + 1 + 1) (34)]) (cl:=[.pv (jU t [47,47] a) (.f (.bool false)),.pv (jU t [47,42] a) (.f (.bool false)),J t (a + 1) 117,J t (a + 1 + 1) 115,J t (a + 1 + 1 + 1) 101,J t (a + 1 + 1 + 1 + 1 + 1 + 1 + 2) 115,J t (a + 1 + 1 + 1 + 1 + 1 + 1 + 2 + 1) 116,J t (a + 1 + 1 + 1 + 1 + 1 + 1 + 2 + 1 + 1) 114,J t (a + 1 + 1 + 1 + 1 + 1 + 1 + 2 + 1 + 1 + 1) 105,J t (a + 1 + 1 + 1 + 1 + 1 + 1 + 2 + 1 + 1 + 1 + 1) 99,J t (a + 1 + 1 + 1 + 1 + 1 + 1 + 2 + 1 + 1 + 1 + 1 + 1) 116]) (by kernel_rfl)
  (mc (aR h 0 rfl (by omega)) (mc (aR h 0 rfl (by omega)) (mc (aR h 1 rfl (by omega)) (mc (aR h 1 rfl (by omega)) (mc (aR h 2 rfl (by omega)) (mc (aR h 2 rfl (by omega)) (mc (aR h 3 rfl (by omega)) (mc (aR h 3 rfl (by omega)) (mc (aR h 4 rfl (by omega)) (mc (aR h 4 rfl (by omega)) (mc (aR h 5 rfl (by omega)) (mc (aR h 6 rfl (by omega)) (mc (aR h 7 rfl (by omega)) (mc (aR h 5 rfl (by omega)) (mc (aR h 8 rfl (by omega)) (mc (aR h 8 rfl (by omega)) (mc (aR h 9 rfl (by omega)) (mc (aR h 9 rfl (by omega)) (mc (aR h 10 rfl (by omega)) (mc (aR h 10 rfl (by omega)) (mc (aR h 11 rfl (by omega)) (mc (aR h 11 rfl (by omega)) (mc (aR h 12 rfl (by omega)) (mc (aR h 12 rfl (by omega)) (mc (aR h 13 rfl (by omega)) (mc (aR h 13 rfl (by omega)) (mc (aR h 14 rfl (by omega)) (mn))))))))))))))))))))))))))))
  (fun k=>mc (st' h 0 47 rfl (by decide) (by omega)) (mc (st' h 0 42 rfl (by decide) (by omega)) (mc (eO h 1 rfl (by omega)) (mc (eO h 2 rfl (by omega)) (mc (eO h 3 rfl (by omega)) (mc (eO h 8 rfl (by omega)) (mc (eO h 9 rfl (by omega)) (mc (eO h 10 rfl (by omega)) (mc (eO h 11 rfl (by omega)) (mc (eO h 12 rfl (by omega)) (mc (eO h 13 rfl (by omega)) (mn))))))))))))⟩
end Mine
end
section
namespace Mine
noncomputable def bG:List Nat→List TD→List Nat→Prop
 | r,[],r'=>r=r'
 | r,d::ds,r'=>∃ w r1,r=w++r1∧w.length=d.n∧bB r d∧bG r1 ds r'
theorem bG.app:∀ {ds:List TD}{r r1 r2:List Nat}{ds':List TD},bG r ds r1→bG r1 ds' r2→bG r (ds++ds') r2
 | [],r,r1,r2,ds',h,h'=>by cases h;exact h'
 | d::ds,r,r1,r2,ds',⟨w,q,e,n,x,h⟩,h'=>⟨w,q,e,n,x,h.app h'⟩
theorem bG.nx:∀ {ds:List TD}{r r':List Nat}{t:List Nat}{a:Int},bG r ds r'→At t a r→(∀ e ∈ fC t a ds,P0.NX e)∧At t (bI a ds) r'
 | [],r,r',t,a,h,h'=>by cases h;exact⟨mn,h'⟩
 | d::ds,r,r',t,a,⟨w,q,e,n,x,h⟩,h'=>by
  have hq:At t (a + (d.n:Nat)) q:=by
   have:=At.drop d.n h' (by rw[e,← n];simp)
   rw[e,← n,List.drop_left]at this
   rw[n]at this;exact this
  obtain⟨h1,h2⟩:=h.nx hq
  exact⟨mc (x t a h') h1,h2⟩
noncomputable def eG:List aF→List TD
 | []=>[]
 | r::rs=>(r.ds++[d6 rs])++eG rs
theorem sZ:∀ (rs:List aF) (a:Int),bA rs a=bI a (eG rs)
 | [],a=>rfl
 | r::rs,a=>by
  show bA rs (bI a (r.ds++[d6 rs]))=bI a ((r.ds++[d6 rs])++eG rs)
  rw[sZ rs,hY a (r.ds++[d6 rs])]
theorem uJ (k j:Nat) (t:List Nat):∀ (rs:List aF) (h s:Bool) (s0 e0 a:Int) (tok:FV),(∀ r rs',rs=r::rs'→tok=r.tok s0 e0)→(∀ e ∈ fC t a (eG rs),P0.NX e)→∀ l ∈ G3 (j + 113) (bC t rs h s tok a),P0.Holds k l
 | [],_,_,_,_,_,_,_,_=>mn
 | r::rs,h,s,s0,e0,a,tok,ht,hq=>by
  have e:=ht r rs rfl
  rw[show eG (r::rs)=(r.ds++[d6 rs])++eG rs from rfl,iV t a (r.ds++[d6 rs])]at hq
  have q1:=fun x hx=>hq x (List.mem_append.2 (.inl hx))
  have q2:=fun x hx=>hq x (List.mem_append.2 (.inr hx))
  refine mc ?_ (uJ k j t rs _ _ (bI a r.ds + ((d6 rs).b:Nat)) (bI a r.ds + ((d6 rs).n:Nat)) _ _ (fun r' rs' e'=>?_) q2)
  ·show run TT 5000 (k + (j + 113)) (if h&&r.isT then 1266 else 1259) [.ref 0] (gP tok .none s 0 0 t a)=_
   subst e
   rw[show k + (j + 113)=(k + (j + 43)) + 70 by omega]
   cases hb:h&&r.isT with
   | true =>
    have hT:r.isT=true:=(Bool.and_eq_true_iff.1 hb).2
    exact LI s s0 e0 r hT t a (d6 rs) q1 (k + (j + 43))
   | false=>exact LO s s0 e0 r t a (d6 rs) q1 (k + (j + 43))
  ·subst e';rfl
theorem xT:∀ (rs:List aF) (tok:FV) (a:Int),(rs=[]→∃ s0 e0,tok=aK aW (.str [40]) true s0 e0)→∃ s0 e0,bT rs tok a=aK aW (.str [40]) true s0 e0
 | [],tok,a,h=>h rfl
 | r::rs,tok,a,_=>xT rs _ _ fun e=>by subst e;exact⟨_,_,rfl⟩
noncomputable def d8:List aF→TD
 | []=>bX
 | r::_=>r.fst 0
theorem yW (rs:List aF):cC (d8 rs) 0=bY rs (0 + ((0:Nat):Int)) (0 + ((d8 rs).n:Nat)):=by
 cases rs<;>rfl
noncomputable def u6 (ts:List FV) (s:Bool):FV:=nd [80,114,111,103,114,97,109] [.lst ts,.bool s]
noncomputable def uD (x:FV):Prop:=∀ (d:KD) (k:Nat),run TT 5000 (k + 60) 47 [.f x,.f (.int 120)] d.g1=.ok (.f (.bool false),d.g1)
theorem Cl (k j:Nat) (d:KD):∀ xs:List FV,(∀ x ∈ xs,uD x)→∀ l ∈ Fs (j + 113) d.g1 xs,P0.Holds k l
 | [],_=>mn
 | x::xs,h=>mc (by
   show run TT 5000 (k + (j + 113)) 47 [.f x,.f (.int 120)] d.g1=_
   rw[show k + (j + 113)=(k + (j + 53)) + 60 by omega]
   exact h x (.head _) d _) (Cl k j d xs fun y hy=>h y (.tail _ hy))
noncomputable def Om (tok later:FV) (s:Bool) (d x:Int) (t:List Nat) (a:Int):KD:=⟨1469,843,0,⟨Str.ofString "lexer",Str.ofString "token",Str.ofString "later",Str.ofString "is_strict",Str.ofString "depth",Str.ofString "nested",Str.ofString "jumps",Str.ofString "pending",.none,tok,later,.bool s,.int d,.int x,j0,.lst []⟩,⟨#[]⟩,⟨Str.ofString "text",Str.ofString "at",Str.ofString "line",.str t,.int a,.int 1⟩,⟨⟨#[]⟩,⟨#[]⟩,⟨#[]⟩,⟨#[]⟩,⟨#[]⟩,⟨#[]⟩,⟨#[]⟩,⟨#[]⟩,.none,.none,.none,.none,.none,.none,.none,.none⟩⟩
theorem R9 (tok later:FV) (s:Bool) (d x:Int) (t:List Nat) (a:Int):gP tok later s d x t a=(Om tok later s d x t a).g1:=rfl
theorem vT:∀ (rs:List aF) (h:Bool),∀ e ∈ bU rs h,P0.PR e
 | [],_=>mn
 | r::rs,h=>by
  unfold bU
  split
  ·exact mc (bF true) (vT rs _)
  ·exact vT rs _
theorem eB {α:Type}{p:α→Prop}{l l':List α} (h:∀ x ∈ l,p x) (h':∀ x ∈ l',p x):∀ x ∈ l++l',p x:=fun x hx=>(List.mem_append.1 hx).elim (h x) (h' x)
theorem E3 {rs:List aF} (hl:rs.length ≤ 3) {t:List Nat}{dsM:List TD}{M:FV}{j:Nat}{r0 r1:List Nat} (hA:At t 0 r0) (h1:oL r0 (d8 rs)) (hn:(d8 rs).n ≤ r0.length) (ht:bG (r0.drop (d8 rs).n) (eG rs++(dsM++[a9])) r1)
  (hM:∀ s0 e0,b9 1259 (j + 113) (aK aW (.str [40]) true s0 e0) dsM a9 M (bS rs true false) 0) (hL:∀ x ∈ cF rs M,uD x) (k:Nat) :
  run TT 5000 (k + (j + 116)) 1478 [.f (.str t)] []=.ok (.f (u6 (cF rs M) (bS rs true false)),[]):=by
 obtain⟨hq,_⟩:=ht.nx (hA.drop _ hn)
 rw[iV]at hq
 have q1:=fun x hx=>hq x (List.mem_append.2 (.inl hx))
 have q2:=fun x hx=>hq x (List.mem_append.2 (.inr hx))
 generalize ha:(0 + ((d8 rs).n:Nat):Int)=a at *
 have hb:run TT 5000 (k + (j + 115)) 1245 [.ref 0,.f (.bool true)] (Gu t (0 + ((0:Nat):Int)) a a rs)=.ok (.f (.lst (cF rs M)),vE t (bI a (eG rs++dsM)) rs):=by
  rw[show k + (j + 115)=(k + 1) + (j + 114) by omega]
  refine aI (JF j t _ _ a (bI a (eG rs++dsM)) M rs hl) (k + 1) mn (vT rs true) (eB ?_ (mc ?_ ?_))
  ·exact uJ (k + 1) j t rs true false _ _ a _ (fun r rs' e=>by subst e;rfl) q1
  ·show run TT 5000 (k + 1 + (j + 113)) 1259 [.ref 0] (zQ t _ a a rs)=_
   obtain⟨s0,e0,e⟩:=xT rs (bY rs (0 + ((0:Nat):Int)) a) a (fun e=>by subst e;exact⟨_,_,rfl⟩)
   have:=hM s0 e0 t (bA rs a) (by rw[sZ];exact q2) (k + 1)
   unfold zQ
   rw[e]
   refine this.trans ?_
   rw[hY _ dsM,sZ,hY _ (eG rs) dsM]
   rfl
  ·exact Cl (k + 1) j (Om _ _ _ _ _ _ _) _ hL
 refine aI (P:=Pl) (n:=j + 116) (q:=[]) (pu:=[]) (nl:=[]) (ul:=[]) (cuts:=[(721,[.val (.ok (.f (cC (d8 rs) 0),iG t a))]),(1245,[.val (.ok (.f (.lst (cF rs M)),vE t (bI a (eG rs++dsM)) rs))])]) (ps:=[])
  (cl:=[.call (j + 114) 721 [.ref 1] (iG t 0) (.ok (.f (cC (d8 rs) 0),iG t a)),.call (j + 115) 1245 [.ref 0,.f (.bool true)] (gP (cC (d8 rs) 0) .none false 0 0 t a) (.ok (.f (.lst (cF rs M)),vE t (bI a (eG rs++dsM)) rs))]) ?_ k mn mn (mc ?_ (mc ?_ mn))
 ·kernel_rfl
 ·show run TT 5000 (k + (j + 114)) 721 [.ref 1] (iG t 0)=_
  rw[show k + (j + 114)=(k + (j + 89)) + 25 by omega,h1 t 0 hA,ha]
 ·rw[yW,ha];exact hb
theorem Fc {rs:List aF} (hl:rs.length ≤ 3) {t:List Nat}{dsM:List TD}{j:Nat}{r0 r1:List Nat} (hA:At t 0 r0) (h1:oL r0 (d8 rs)) (hn:(d8 rs).n ≤ r0.length) (ht:bG (r0.drop (d8 rs).n) (eG rs++dsM) r1)
  (hM:∀ s0 e0,bK 1259 (j + 113) (aK aW (.str [40]) true s0 e0) dsM (bS rs true false) 0) (k:Nat) :
  run TT 5000 (k + (j + 116)) 1478 [.f (.str t)] []=.raise:=by
 obtain⟨hq,_⟩:=ht.nx (hA.drop _ hn)
 rw[iV]at hq
 have q1:=fun x hx=>hq x (List.mem_append.2 (.inl hx))
 have q2:=fun x hx=>hq x (List.mem_append.2 (.inr hx))
 generalize ha:(0 + ((d8 rs).n:Nat):Int)=a at *
 have hb:run TT 5000 (k + (j + 115)) 1245 [.ref 0,.f (.bool true)] (Gu t (0 + ((0:Nat):Int)) a a rs)=.raise:=by
  rw[show k + (j + 115)=(k + 1) + (j + 114) by omega]
  refine aI (He j t _ _ a rs hl) (k + 1) mn (vT rs true) (eB ?_ (mc ?_ mn))
  ·exact uJ (k + 1) j t rs true false _ _ a _ (fun r rs' e=>by subst e;rfl) q1
  ·show run TT 5000 (k + 1 + (j + 113)) 1259 [.ref 0] (zQ t _ a a rs)=_
   obtain⟨s0,e0,e⟩:=xT rs (bY rs (0 + ((0:Nat):Int)) a) a (fun e=>by subst e;exact⟨_,_,rfl⟩)
   have:=hM s0 e0 t (bA rs a) (by rw[sZ];exact q2) (k + 1)
   unfold zQ
   rw[e]
   exact this
 refine aI (P:=Pl) (n:=j + 116) (q:=[]) (pu:=[]) (nl:=[]) (ul:=[]) (cuts:=[(721,[.val (.ok (.f (cC (d8 rs) 0),iG t a))]),(1245,[.val .raise])]) (ps:=[])
  (cl:=[.call (j + 114) 721 [.ref 1] (iG t 0) (.ok (.f (cC (d8 rs) 0),iG t a)),.call (j + 115) 1245 [.ref 0,.f (.bool true)] (gP (cC (d8 rs) 0) .none false 0 0 t a) .raise]) ?_ k mn mn (mc ?_ (mc ?_ mn))
 ·kernel_rfl
 ·show run TT 5000 (k + (j + 114)) 721 [.ref 1] (iG t 0)=_
  rw[show k + (j + 114)=(k + (j + 89)) + 25 by omega,h1 t 0 hA,ha]
 ·rw[yW,ha];exact hb
end Mine
end
section
namespace Mine
noncomputable def wH (f:Nat):FI:=oe ((iU f TT.fns).bind fun p=>t8 p.1 p.2) (fun fi=>fi) ⟨[],[],default⟩
noncomputable def dN (f i:Nat):Stmt:=oe (nth (wH f).body i) (fun s=>s) (.Pass default)
noncomputable def D9 (s:Stmt):Expr:=sF s (.Constant .none 0 default) (fun _ _ _=>.Constant .none 0 default) (fun _=>.Constant .none 0 default) (fun _=>.Constant .none 0 default) (fun _ _=>.Constant .none 0 default) (fun _ _ _=>.Constant .none 0 default) (fun _ _ _ _=>.Constant .none 0 default) (fun t _ _=>t) (fun _ _ _=>.Constant .none 0 default) (fun _ _=>.Constant .none 0 default) (fun _ _ _ _=>.Constant .none 0 default) (fun _=>.Constant .none 0 default) (.Constant .none 0 default) (.Constant .none 0 default)
noncomputable def uZ (s:Stmt):List Stmt:=sF s [] (fun _ _ _=>[]) (fun _=>[]) (fun _=>[]) (fun _ _=>[]) (fun _ _ _=>[]) (fun _ _ _ _=>[]) (fun _ b _=>b) (fun _ _ _=>[]) (fun _ _=>[]) (fun _ _ _ _=>[]) (fun _=>[]) [] []
noncomputable def dC (f:Nat):Cx:=⟨f,(wH f).sc,5000⟩
theorem iZ {C:bW}{ih:Cx→Stmt→St→Pg (Fl × St)}{cx:Cx}{s:Stmt}{r:List Stmt}{st st':St} (h:aN C (ih cx s st)=.ok (.next,st')):aN C (dS ih cx (s::r) st)=aN C (dS ih cx r st'):=by
 refine(aZ C (ih cx s st) _).trans ?_;rw[h];rfl
theorem uK {C:bW}{ih:Cx→Stmt→St→Pg (Fl × St)}{cx:Cx}{s:Stmt}{r:List Stmt}{st st':St}{w:PV} (h:aN C (ih cx s st)=.ok (.ret w,st')):aN C (dS ih cx (s::r) st)=.ok (.ret w,st'):=by
 refine(aZ C (ih cx s st) _).trans ?_;rw[h];rfl
theorem BR {C:bW}{f n:Nat}{ws:List PV}{g:List MO}{l:List Stmt}{v c:List (Str × PV)}{b:Bool} (h:i0 TT f ws g=some (wH f,v,c)) (hl:(wH f).body=l) (ht:cW l=none) (hb:d5 f TT.inits=b) (hn:g.length=n) :
  cG TT C 5000 f ws g=aN C ((dS (ex TT 30) (dC f) l ⟨g,[],v,c⟩).bind fun r=>opt (gK b n r) .ok):=by
 rw[← hl]at ht
 rw[← hl,← hb,← hn]
 unfold cG
 rw[h]
 show oe (cW (wH f).body) _ (aN C (iC TT 5000 f g (wH f,v,c)))=_
 rw[ht]
 rfl
theorem MD {T:bP}{k:Nat}{cx:Cx}{t:Expr}{b:List Stmt}{p:Pos}{st:St}:ex T (k + 1) cx (.While t b [] p) st=jJ (gA T cx t) (dS (ex T k) cx b) cx.m st:=rfl
theorem xV {f i:Nat} (h:dN f i=.While (D9 (dN f i)) (uZ (dN f i)) [] (dN f i).pos) (st:St):ex TT 30 (dC f) (dN f i) st=jJ (gA TT (dC f) (D9 (dN f i))) (dS (ex TT 29) (dC f) (uZ (dN f i))) 5000 st:=(congrArg (fun s=>ex TT 30 (dC f) s st) h).trans MD
theorem gT {C:bW}{t:St→Pg (Bool × St)}{b:St→Pg (Fl × St)}{m:Nat}{st st':St} (h:aN C (t st)=.ok (true,st)) (h':aN C (b st)=.ok (.next,st')):aN C (jJ t b (m + 1) st)=aN C (jJ t b m st'):=by
 refine(aZ C (t st) _).trans ?_;rw[h];refine(aZ C (b st) _).trans ?_;rw[h'];rfl
theorem uL {C:bW}{t:St→Pg (Bool × St)}{b:St→Pg (Fl × St)}{m:Nat}{st:St} (h:aN C (t st)=.ok (false,st)):aN C (jJ t b (m + 1) st)=.ok (.next,st):=by
 refine(aZ C (t st) _).trans ?_;rw[h];rfl
mutual
inductive Tr:FV→Nat→Prop
 | none:Tr .none 1
 | bool (b):Tr (.bool b) 1
 | int (i):Tr (.int i) 1
 | str (s):Tr (.str s) 1
 | lst {xs n}:hG xs n→Tr (.lst xs) (n + 1)
 | node {k ps n}:hG ps n→Tr (nd k ps) (n + 1)
inductive hG:List FV→Nat→Prop
 | nil:hG [] 0
 | cons {x xs n m}:Tr x n→hG xs m→hG (x::xs) (n + m)
end
theorem Tr.pos {x:FV}{n:Nat} (h:Tr x n):1 ≤ n:=by cases h<;>omega
theorem hG.len:∀ {xs:List FV}{n:Nat},hG xs n→xs.length ≤ n
 | [],_,_=>Nat.zero_le _
 | _::xs,_,.cons (m:=m) h t=>by
  have:=t.len;have:=h.pos
  simp only[List.length];omega
theorem hG.app:∀ {xs ys:List FV}{n m:Nat},hG xs n→hG ys m→hG (xs++ys) (n + m)
 | [],ys,_,m,.nil,h=>by simpa using h
 | x::xs,ys,_,m,.cons h t,h'=>by
  rw[Nat.add_assoc];exact .cons h (t.app h')
theorem hG.snoc:∀ {xs:List FV}{x:FV}{n:Nat},hG (xs++[x]) n→∃ a b,hG xs a∧Tr x b∧n=a + b
 | [],x,_,.cons h .nil=>⟨0,_,.nil,h,by omega⟩
 | y::xs,x,_,.cons h t=>by
  obtain⟨a,b,h1,h2,e⟩:=t.snoc
  exact⟨_,b,.cons h h1,h2,by omega⟩
noncomputable def fG (x:FV):FV:=.tup [x,x]
noncomputable def cP (x y:FV) (h:List (Str × PV)):List (Str × PV):=(Str.ofString "one",.f x)::(Str.ofString "other",.f y)::(Str.ofString "waiting",.loc 0)::h
noncomputable def hT (a b:FV):List (Str × PV):=[(Str.ofString "here",.f a),(Str.ofString "there",.f b)]
noncomputable def cE (vs:List FV) (W:List FV) (v:List (Str × PV)):St:=⟨[.lst vs],[.lst W],v,[]⟩
noncomputable def yE:FP:={ P0 with pz:=[61,54],pu:=[] }
noncomputable def Dh:St→Pg (Bool × St):=gA TT (dC 61) (D9 (dN 61 1))
noncomputable def AI:St→Pg (Fl × St):=dS (ex TT 29) (dC 61) (uZ (dN 61 1))
noncomputable def HH:St→Option PV:=fun st=>oZ TT .len [.loc 0] st
theorem cO {n:Nat} (h:n ≤ 100000):fits n=true:=Nat.ble_eq_true_of_le (by omega)
theorem It {vs W:List FV}{v:List (Str × PV)} (h:W.length ≤ 100000):HH (cE vs W v)=some (.f (.int W.length)):=by
 show gd (fits W.length) _=_
 rw[cO h];rfl
theorem Je (n:Nat):(cM .Gt (.f (.int (n:Nat))) (.f (.int 0)))=some (decide (0 < n)):=by
 show some (decide ((0:Int) < (n:Int)))=_
 congr 1
 cases n with
 | zero=>rfl
 | succ n=>rw[decide_eq_true (by omega),decide_eq_true (by omega)]
theorem OI (k:Nat) (vs W:List FV) (x y:FV) (h:List (Str × PV)) (hW:W.length ≤ 100000):aN (run TT 5000 (k + 5)) (Dh (cE vs W (cP x y h)))=.ok (decide (0 < W.length),cE vs W (cP x y h)):=by
 exact dZ (P:=yE) (n:=5) (pu:=[]) (cuts:=[]) (ps:=[.w (.f (.int W.length)),.b (decide (0 < W.length))]) (cl:=[.pw HH (cE vs W (cP x y h)) (.f (.int W.length)),.pb ((cM .Gt (.f (.int W.length)) (.f (.int 0)))) (decide (0 < W.length))]) (by kernel_rfl) k mn
  (mc (It hW) (mc (Je _) mn))
theorem uA {vs W:List FV}{x:FV}{v:List (Str × PV)} (h:W.length ≤ 10000):mJ (.loc 0) [] (cE vs (W++[x]) v)=some (.f x,cE vs W v):=by
 show gd (fits (W++[x]).length) (@List.rec FV (fun _=>Option (PV × St)) none (fun y r _=>some (.f y,(⟨[.lst vs],[.lst r.reverse],v,[]⟩:St))) (W++[x]).reverse)=_
 rw[cO (by rw[List.length_append];show W.length + 1 ≤ _;omega),List.reverse_append]
 show some (PV.f x,(⟨[.lst vs],[.lst W.reverse.reverse],v,[]⟩:St))=_
 rw[List.reverse_reverse];rfl
theorem zR {vs W zs:List FV}{v:List (Str × PV)} (h:W.length + zs.length ≤ 10000):rH (.loc 0) [.f (.lst zs)] (cE vs W v)=some (.f .none,cE vs (W++zs) v):=by
 show gd (fits (W.length + zs.length)) _=_
 rw[cO (by omega)];rfl
theorem Dm {xs:List FV}{st:St} (h:xs.length ≤ 10000):wG TT 43 xs xs st=some (.f (.lst (eX xs xs)),st):=by
 unfold wG
 rw[cO (by omega)];rfl
noncomputable def qK (x:FV):St→Option PV:=fun st=>oZ TT .len [.f x] st
theorem kF {xs:List FV} (h:xs.length ≤ 10000):∀ st,qK (.lst xs) st=some (.f (.int xs.length)):=by
 intro st
 show gd (fits xs.length) _=_
 rw[cO (by omega)];rfl
theorem D0 (a:List Nat):gF a a=true:=PySem.W.Fast.lEq_iff.mpr rfl
noncomputable def xW (x:FV):Option Bool:=(cM .Eq (.f x) (.f x))
noncomputable def JS (n:Nat):Option Bool:=(cM .NotEq (.f (.int (n:Nat))) (.f (.int (n:Nat))))
theorem DA (n:Nat):JS n=some false:=by
 show some (((n:Int) != (n:Int)))=_
 simp
inductive fZ:FV→Prop
 | none:fZ .none
 | bool (b):fZ (.bool b)
 | int (i):fZ (.int i)
 | str (s):fZ (.str s)
theorem mV {x:FV} (h:fZ x):xW x=some true:=by
 cases h with
 | none=>rfl
 | bool b=>cases b<;>rfl
 | int i=>show some (i == i)=_;simp
 | str s=>show some (gF s s)=_;rw[D0]
theorem ER (k:Nat) (vs W:List FV) (X Y x:FV) (h:List (Str × PV)) (hh:h=[]∨∃ a b,h=hT a b) (hx:fZ x) (hW:W.length ≤ 10000) :
  aN (run TT 5000 (k + 5)) (AI (cE vs (W++[fG x]) (cP X Y h)))=.ok (.next,cE vs W (cP X Y (hT x x))):=by
 have H:∀ l ∈ [Lg.ps (mJ (.loc 0) [] (cE vs (W++[fG x]) (cP X Y h))) (.f (fG x),cE vs W (cP X Y h)),.pb (xW x) true],yE.Holds k l:=mc (uA hW) (mc (mV hx) mn)
 refine dZ (P:=yE) (n:=5) (pu:=[]) (cuts:=[]) (ul:=[]) (ps:=[.s (.f (fG x),cE vs W (cP X Y h)),.auto,.auto,.auto,.auto,.auto,.auto,.b true,.auto,.auto]) ?_ k mn H
 rcases hh with rfl | ⟨a,b,rfl⟩<;>cases hx<;>kernel_rfl
theorem En (k:Nat) (vs W:List FV) (X Y:FV) (kd:List Nat) (ps:List FV) (h:List (Str × PV)) (hh:h=[]∨∃ a b,h=hT a b) (hW:W.length + ps.length ≤ 10000) :
  aN (run TT 5000 (k + 5)) (AI (cE vs (W++[fG (nd kd ps)]) (cP X Y h)))=.ok (.next,cE vs (W++eX ps ps) (cP X Y (hT (.lst ps) (.lst ps)))):=by
 have hz:(eX ps ps).length=ps.length:=by
  clear hW;induction ps with
  | nil=>rfl
  | cons x r ih=>exact congrArg (· + 1) ih
 have H:∀ l ∈ [Lg.ps (mJ (.loc 0) [] (cE vs (W++[fG (nd kd ps)]) (cP X Y h))) (.f (fG (nd kd ps)),cE vs W (cP X Y h)),.pb (xW (.str kd)) true,
   .pv (qK (.lst ps)) (.f (.int ps.length)),.pv (qK (.lst ps)) (.f (.int ps.length)),.pb (JS ps.length) false,
   .ps (wG TT 43 ps ps (cE vs W (cP X Y (hT (.lst ps) (.lst ps))))) (.f (.lst (eX ps ps)),cE vs W (cP X Y (hT (.lst ps) (.lst ps)))),
   .ps (rH (.loc 0) [.f (.lst (eX ps ps))] (cE vs W (cP X Y (hT (.lst ps) (.lst ps))))) (.f .none,cE vs (W++eX ps ps) (cP X Y (hT (.lst ps) (.lst ps))))],yE.Holds k l :=
  mc (uA (by omega)) (mc (mV (.str _)) (mc (kF (by omega)) (mc (kF (by omega)) (mc (DA _) (mc (Dm (by omega)) (mc (zR (by omega)) mn))))))
 refine dZ (P:=yE) (n:=5) (pu:=[]) (cuts:=[]) (ul:=[]) (ps:=[.s (.f (fG (nd kd ps)),cE vs W (cP X Y h)),.auto,.auto,.b true,.auto,.auto,.v (.f (.int ps.length)),.v (.f (.int ps.length)),.b false,.s (.f (.lst (eX ps ps)),cE vs W (cP X Y (hT (.lst ps) (.lst ps)))),.s (.f .none,cE vs (W++eX ps ps) (cP X Y (hT (.lst ps) (.lst ps))))]) ?_ k mn H
 rcases hh with rfl | ⟨a,b,rfl⟩<;>kernel_rfl
theorem JE (k:Nat) (vs W:List FV) (X Y:FV) (ps:List FV) (h:List (Str × PV)) (hh:h=[]∨∃ a b,h=hT a b) (hW:W.length + ps.length ≤ 10000) :
  aN (run TT 5000 (k + 5)) (AI (cE vs (W++[fG (.lst ps)]) (cP X Y h)))=.ok (.next,cE vs (W++eX ps ps) (cP X Y (hT (.lst ps) (.lst ps)))):=by
 have hz:(eX ps ps).length=ps.length:=by
  clear hW;induction ps with
  | nil=>rfl
  | cons x r ih=>exact congrArg (· + 1) ih
 have H:∀ l ∈ [Lg.ps (mJ (.loc 0) [] (cE vs (W++[fG (.lst ps)]) (cP X Y h))) (.f (fG (.lst ps)),cE vs W (cP X Y h)),
   .pv (qK (.lst ps)) (.f (.int ps.length)),.pv (qK (.lst ps)) (.f (.int ps.length)),.pb (JS ps.length) false,
   .ps (wG TT 43 ps ps (cE vs W (cP X Y (hT (.lst ps) (.lst ps))))) (.f (.lst (eX ps ps)),cE vs W (cP X Y (hT (.lst ps) (.lst ps)))),
   .ps (rH (.loc 0) [.f (.lst (eX ps ps))] (cE vs W (cP X Y (hT (.lst ps) (.lst ps))))) (.f .none,cE vs (W++eX ps ps) (cP X Y (hT (.lst ps) (.lst ps))))],yE.Holds k l :=
  mc (uA (by omega)) (mc (kF (by omega)) (mc (kF (by omega)) (mc (DA _) (mc (Dm (by omega)) (mc (zR (by omega)) mn)))))
 refine dZ (P:=yE) (n:=5) (pu:=[]) (cuts:=[]) (ul:=[]) (ps:=[.s (.f (fG (.lst ps)),cE vs W (cP X Y h)),.auto,.auto,.auto,.auto,.auto,.auto,.auto,.auto,.v (.f (.int ps.length)),.v (.f (.int ps.length)),.b false,.s (.f (.lst (eX ps ps)),cE vs W (cP X Y (hT (.lst ps) (.lst ps)))),.s (.f .none,cE vs (W++eX ps ps) (cP X Y (hT (.lst ps) (.lst ps))))]) ?_ k mn H
 rcases hh with rfl | ⟨a,b,rfl⟩<;>kernel_rfl
end Mine
end
section
namespace Mine
theorem vB (xs:List FV):eX xs xs=xs.map fG:=by
 induction xs with
 | nil=>rfl
 | cons x xs ih=>show _::eX xs xs=_;rw[ih];rfl
theorem u9 {α:Type}:∀ l:List α,l=[]∨∃ ys y,l=ys++[y]
 | []=>.inl rfl
 | x::l=>by
  rcases u9 l with rfl | ⟨ys,y,rfl⟩
  ·exact .inr ⟨[],x,rfl⟩
  ·exact .inr ⟨x::ys,y,rfl⟩
theorem lV (k:Nat) (vs:List FV) (X Y:FV):∀ (n m:Nat) (xs:List FV) (h:List (Str × PV)),n < m→n ≤ 5000→(h=[]∨∃ a b,h=hT a b)→hG xs n →
  ∃ h',aN (run TT 5000 (k + 5)) (jJ Dh AI m (cE vs (xs.map fG) (cP X Y h)))=.ok (.next,cE vs [] (cP X Y h'))
 | n,0,_,_,hm,_,_,_=>by omega
 | n,m + 1,xs,h,hm,hn,hh,ht=>by
  have hl:=ht.len
  rcases u9 xs with rfl | ⟨ys,x,rfl⟩
  ·exact⟨h,uL (OI k vs [] X Y h (by simp))⟩
  ·obtain⟨a,b,ha,hb,e⟩:=ht.snoc
   have hp:=hb.pos
   have hla:=ha.len
   have hy:(ys.map fG).length ≤ 5000:=by simp;omega
   have t1:aN (run TT 5000 (k + 5)) (Dh (cE vs ((ys++[x]).map fG) (cP X Y h)))=.ok (true,cE vs ((ys++[x]).map fG) (cP X Y h)):=by
    rw[OI k vs _ X Y h (by simp;omega)]
    rw[decide_eq_true (by simp)]
   rw[List.map_append]at t1 ⊢
   have leaf:fZ x→b=1→∃ h',aN (run TT 5000 (k + 5)) (jJ Dh AI (m + 1) (cE vs (ys.map fG++[x].map fG) (cP X Y h)))=.ok (.next,cE vs [] (cP X Y h')):=fun hx e1=>by
    have b1:=ER k vs (ys.map fG) X Y x h hh hx (by omega)
    obtain⟨h',e'⟩:=lV k vs X Y a m ys _ (by omega) (by omega) (.inr ⟨x,x,rfl⟩) ha
    exact⟨h',(gT t1 b1).trans e'⟩
   cases hb with
   | none=>exact leaf .none rfl
   | bool i=>exact leaf (.bool i) rfl
   | int i=>exact leaf (.int i) rfl
   | str i=>exact leaf (.str i) rfl
   | @lst zs c hc =>
    have hc':=hc.len
    have b1:=JE k vs (ys.map fG) X Y zs h hh (by simp;omega)
    rw[vB,← List.map_append]at b1
    obtain⟨h',e'⟩:=lV k vs X Y _ m _ _ (by omega) (by omega) (.inr ⟨_,_,rfl⟩) (ha.app hc)
    exact⟨h',(gT t1 b1).trans e'⟩
   | @node kd zs c hc =>
    have hc':=hc.len
    have b1:=En k vs (ys.map fG) X Y kd zs h hh (by simp;omega)
    rw[vB,← List.map_append]at b1
    obtain⟨h',e'⟩:=lV k vs X Y _ m _ _ (by omega) (by omega) (.inr ⟨_,_,rfl⟩) (ha.app hc)
    exact⟨h',(gT t1 b1).trans e'⟩
theorem Pz (C:bW) (vs:List FV) (X:FV):cG TT C 5000 61 [.f X,.f X] [.lst vs]=aN C ((dS (ex TT 30) (dC 61) [dN 61 0,dN 61 1,dN 61 2] ⟨[.lst vs],[],[(Str.ofString "one",.f X),(Str.ofString "other",.f X)],[]⟩).bind fun r=>opt (gK false 1 r) .ok) :=
 BR (by kernel_rfl) (by kernel_rfl) (by kernel_rfl) (by kernel_rfl) rfl
theorem Oz (st:St):ex TT 30 (dC 61) (dN 61 1) st=jJ Dh AI 5000 st:=xV (by kernel_rfl) st
theorem JB {X:FV}{n:Nat} (h:Tr X n) (hn:n ≤ 4000) (vs:List FV) (k:Nat):run TT 5000 (k + 7) 61 [.f X,.f X] [.lst vs]=.ok (.f (.bool true),[.lst vs]):=by
 show cG TT (run TT 5000 (k + 1 + 5)) 5000 61 [.f X,.f X] [.lst vs]=_
 rw[Pz,aZ,iZ (st':=cE vs [fG X] (cP X X [])) (by kernel_rfl)]
 obtain⟨h',e⟩:=lV (k + 1) vs X X n 5000 [X] [] (by omega) (by omega) (.inl rfl) (.cons h .nil)
 have e2:aN (run TT 5000 (k + 1 + 5)) (ex TT 30 (dC 61) (dN 61 1) (cE vs [fG X] (cP X X [])))=.ok (.next,cE vs [] (cP X X h')):=by rw[Oz];exact e
 rw[iZ e2,uK (w:=.f (.bool true)) (st':=cE vs [] (cP X X h')) (by kernel_rfl)]
 kernel_rfl
end Mine
end
section
namespace Mine
noncomputable def dX (x:FV) (h:List (Str × PV)):List (Str × PV):=(Str.ofString "node",.f x)::(Str.ofString "found",.loc 0)::(Str.ofString "waiting",.loc 2)::h
noncomputable def hP (a:FV):List (Str × PV):=[(Str.ofString "part",.f a)]
noncomputable def dD (d:KD) (F P W:List FV) (v:List (Str × PV)):St:=⟨d.g1,[.lst F,.lst P,.lst W],v,[]⟩
noncomputable def yR:FP:={ P0 with pz:=[42],pu:=[] }
noncomputable def Ka:St→Pg (Bool × St):=gA TT (dC 42) (D9 (dN 42 1))
noncomputable def Dd:St→Pg (Fl × St):=dS (ex TT 29) (dC 42) (uZ (dN 42 1))
noncomputable def Gy:St→Option PV:=fun st=>oZ TT .len [.loc 2] st
theorem GV (k:Nat) (d:KD) (F P W:List FV) (x:FV) (h:List (Str × PV)) (hW:W.length ≤ 100000):aN (run TT 5000 (k + 5)) (Ka (dD d F P W (dX x h)))=.ok (decide (0 < W.length),dD d F P W (dX x h)):=by
 have hl:Gy (dD d F P W (dX x h))=some (.f (.int W.length)):=by
  show gd (fits W.length) _=_
  rw[cO hW];rfl
 exact dZ (P:=yR) (n:=5) (pu:=[]) (cuts:=[]) (ps:=[.w (.f (.int W.length)),.b (decide (0 < W.length))]) (cl:=[.pw Gy (dD d F P W (dX x h)) (.f (.int W.length)),.pb ((cM .Gt (.f (.int W.length)) (.f (.int 0)))) (decide (0 < W.length))]) (by kernel_rfl) k mn
  (mc hl (mc (Je _) mn))
theorem Be {d:KD}{F P W:List FV}{x:FV}{v:List (Str × PV)} (h:W.length ≤ 10000):mJ (.loc 2) [] (dD d F P (W++[x]) v)=some (.f x,dD d F P W v):=by
 show gd (fits (W++[x]).length) (@List.rec FV (fun _=>Option (PV × St)) none (fun y r _=>some (.f y,(⟨d.g1,[.lst F,.lst P,.lst r.reverse],v,[]⟩:St))) (W++[x]).reverse)=_
 rw[cO (by rw[List.length_append];show W.length + 1 ≤ _;omega),List.reverse_append]
 show some (PV.f x,(⟨d.g1,[.lst F,.lst P,.lst W.reverse.reverse],v,[]⟩:St))=_
 rw[List.reverse_reverse];rfl
theorem MQ {d:KD}{F P W:List FV}{x:FV}{v:List (Str × PV)} (h:F.length ≤ 10000):Ar (.loc 0) [.f x] (dD d F P W v)=some (.f .none,dD d (F++[x]) P W v):=by
 show gd (fits F.length) _=_
 rw[cO (by omega)];rfl
theorem Nz {d:KD}{F P W zs:List FV}{v:List (Str × PV)} (h:W.length + zs.length ≤ 10000):rH (.loc 2) [.f (.lst zs)] (dD d F P W v)=some (.f .none,dD d F P (W++zs) v):=by
 show gd (fits (W.length + zs.length)) _=_
 rw[cO (by omega)];rfl
theorem Ep (k:Nat) (d:KD) (F P W:List FV) (X x:FV) (h:List (Str × PV)) (hh:h=[]∨∃ a,h=hP a) (hx:fZ x) (hW:W.length ≤ 10000) :
  aN (run TT 5000 (k + 5)) (Dd (dD d F P (W++[x]) (dX X h)))=.ok (.next,dD d F P W (dX X (hP x))):=by
 have H:∀ l ∈ [Lg.ps (mJ (.loc 2) [] (dD d F P (W++[x]) (dX X h))) (.f x,dD d F P W (dX X h))],yR.Holds k l:=mc (Be hW) mn
 refine dZ (P:=yR) (n:=5) (pu:=[]) (cuts:=[]) (ul:=[]) (ps:=[.s (.f x,dD d F P W (dX X h)),.auto,.auto]) ?_ k mn H
 rcases hh with rfl | ⟨a,rfl⟩<;>cases hx<;>kernel_rfl
theorem Fy (k:Nat) (d:KD) (F P W:List FV) (X:FV) (kd:List Nat) (q:List FV) (h:List (Str × PV)) (hh:h=[]∨∃ a,h=hP a) (hF:F.length ≤ 10000) (hW:W.length ≤ 10000) :
  aN (run TT 5000 (k + 5)) (Dd (dD d F P (W++[nd kd q]) (dX X h)))=.ok (.next,dD d (F++[nd kd q]) P W (dX X (hP (nd kd q)))):=by
 have H:∀ l ∈ [Lg.ps (mJ (.loc 2) [] (dD d F P (W++[nd kd q]) (dX X h))) (.f (nd kd q),dD d F P W (dX X h)),.ps (Ar (.loc 0) [.f (nd kd q)] (dD d F P W (dX X (hP (nd kd q))))) (.f .none,dD d (F++[nd kd q]) P W (dX X (hP (nd kd q))))],yR.Holds k l:=mc (Be hW) (mc (MQ hF) mn)
 refine dZ (P:=yR) (n:=5) (pu:=[]) (cuts:=[]) (ul:=[]) (ps:=[.s (.f (nd kd q),dD d F P W (dX X h)),.auto,.s (.f .none,dD d (F++[nd kd q]) P W (dX X (hP (nd kd q))))]) ?_ k mn H
 rcases hh with rfl | ⟨a,rfl⟩<;>kernel_rfl
theorem Iw (k:Nat) (d:KD) (F P W:List FV) (X:FV) (xs:List FV) (hx:xs.length ≤ 2) (h:List (Str × PV)) (hh:h=[]∨∃ a,h=hP a) (hW:W.length ≤ 9990) :
  aN (run TT 5000 (k + 5)) (Dd (dD d F P (W++[.lst xs]) (dX X h)))=.ok (.next,dD d F P (W++xs.reverse) (dX X (hP (.lst xs)))):=by
 have H:∀ l ∈ [Lg.ps (mJ (.loc 2) [] (dD d F P (W++[.lst xs]) (dX X h))) (.f (.lst xs),dD d F P W (dX X h)),.ps (rH (.loc 2) [.f (.lst xs.reverse)] (dD d F P W (dX X (hP (.lst xs))))) (.f .none,dD d F P (W++xs.reverse) (dX X (hP (.lst xs))))],yR.Holds k l:=mc (Be (by omega)) (mc (Nz (by simp;omega)) mn)
 refine dZ (P:=yR) (n:=5) (pu:=[]) (cuts:=[]) (ul:=[]) (ps:=[.s (.f (.lst xs),dD d F P W (dX X h)),.auto,.auto,.auto,.s (.f .none,dD d F P (W++xs.reverse) (dX X (hP (.lst xs))))]) ?_ k mn H
 rcases hh with rfl | ⟨a,rfl⟩
 ·match xs,hx with
  | [],_=>kernel_rfl
  | [a],_=>kernel_rfl
  | [a,b],_=>kernel_rfl
 ·match xs,hx with
  | [],_=>kernel_rfl
  | [a],_=>kernel_rfl
  | [a,b],_=>kernel_rfl
inductive eT:List FV→List FV→Nat→Prop
 | nil:eT [] [] 0
 | leaf {x ps ks c}:fZ x→eT ps ks c→eT (x::ps) ks (c + 1)
 | node {k q ps ks c}:eT ps ks c→eT (nd k q::ps) (nd k q::ks) (c + 1)
 | lst {xs ps ks c}:xs.length ≤ 2→eT (xs++ps) ks c→eT (.lst xs::ps) ks (c + 1)
theorem eT.len:∀ {ps ks:List FV}{c:Nat},eT ps ks c→ps.length ≤ c∧ks.length ≤ c
 | _,_,_,.nil=>⟨Nat.le_refl _,Nat.le_refl _⟩
 | _,_,_,.leaf _ h=>by have:=h.len;simp only[List.length];omega
 | _,_,_,.node h=>by have:=h.len;simp only[List.length];omega
 | _,_,_,.lst _ h=>by have:=h.len;simp only[List.length,List.length_append] at *;omega
theorem lL (k:Nat) (d:KD) (P:List FV) (X:FV):∀ {ps ks:List FV}{c:Nat} (_:eT ps ks c) (m:Nat) (F:List FV) (h:List (Str × PV)),c < m→c ≤ 3000→F.length + c ≤ 6000→(h=[]∨∃ a,h=hP a) →
  ∃ h',aN (run TT 5000 (k + 5)) (jJ Ka Dd m (dD d F P ps.reverse (dX X h)))=.ok (.next,dD d (F++ks) P [] (dX X h'))
 | _,_,_,.nil,m + 1,F,h,_,_,_,_=>⟨h,by rw[List.append_nil];exact uL (GV k d F P [] X h (by simp))⟩
 | _,_,_,.leaf (x:=x) (ps:=ps) hx hk,m + 1,F,h,hm,hc,hF,hh=>by
  have hl:=hk.len
  obtain⟨h',e⟩:=lL k d P X hk m F (hP x) (by omega) (by omega) (by omega) (.inr ⟨_,rfl⟩)
  rw[List.reverse_cons]
  refine⟨h',(gT ?_ (Ep k d F P ps.reverse X x h hh hx (by simp;omega))).trans e⟩
  rw[GV k d F P _ X h (by simp;omega),decide_eq_true (by simp)]
 | _,_,_,.node (k:=kd) (q:=q) (ps:=ps) (ks:=ks) hk,m + 1,F,h,hm,hc,hF,hh=>by
  have hl:=hk.len
  obtain⟨h',e⟩:=lL k d P X hk m (F++[nd kd q]) (hP (nd kd q)) (by omega) (by omega) (by simp;omega) (.inr ⟨_,rfl⟩)
  rw[List.reverse_cons]
  refine⟨h',(gT ?_ (Fy k d F P ps.reverse X kd q h hh (by omega) (by simp;omega))).trans (e.trans ?_)⟩
  ·rw[GV k d F P _ X h (by simp;omega),decide_eq_true (by simp)]
  ·rw[List.append_assoc];rfl
 | _,_,_,.lst (xs:=xs) (ps:=ps) hx hk,m + 1,F,h,hm,hc,hF,hh=>by
  have hl:=hk.len
  rw[List.length_append]at hl
  obtain⟨h',e⟩:=lL k d P X hk m F (hP (.lst xs)) (by omega) (by omega) (by omega) (.inr ⟨_,rfl⟩)
  rw[List.reverse_append]at e
  rw[List.reverse_cons]
  refine⟨h',(gT ?_ (Iw k d F P ps.reverse X xs hx h hh (by simp;omega))).trans e⟩
  rw[GV k d F P _ X h (by simp;omega),decide_eq_true (by simp)]
 | _,_,_,.leaf _ _,0,_,_,hm,_,_,_=>by omega
 | _,_,_,.node _,0,_,_,hm,_,_,_=>by omega
 | _,_,_,.lst _ _,0,_,_,hm,_,_,_=>by omega
theorem PI (C:bW) (d:KD) (X:FV):cG TT C 5000 42 [.f X] d.g1=aN C ((dS (ex TT 30) (dC 42) [dN 42 0,dN 42 1,dN 42 2] ⟨d.g1,[],[(Str.ofString "node",.f X)],[]⟩).bind fun r=>opt (gK false 2 r) .ok) :=
 BR (by kernel_rfl) (by kernel_rfl) (by kernel_rfl) (by kernel_rfl) rfl
theorem Ph (st:St):ex TT 30 (dC 42) (dN 42 1) st=jJ Ka Dd 5000 st:=xV (by kernel_rfl) st
theorem FO (C:bW) (d:KD) (kd:List Nat) (ps:List FV) (h:ps.length ≤ 5):aN C (ex TT 30 (dC 42) (dN 42 0) ⟨d.g1,[],[(Str.ofString "node",.f (nd kd ps))],[]⟩)=.ok (.next,dD d [] ps ps.reverse (dX (nd kd ps) [])):=by
 match ps,h with
 | [],_=>kernel_rfl
 | [a],_=>kernel_rfl
 | [a,b],_=>kernel_rfl
 | [a,b,c],_=>kernel_rfl
 | [a,b,c,d'],_=>kernel_rfl
 | [a,b,c,d',e],_=>kernel_rfl
theorem Hz {ps ks:List FV}{c:Nat} (hk:eT ps ks c) (hc:c ≤ 3000) (hl:ps.length ≤ 5) (kd:List Nat) (d:KD) (k:Nat):run TT 5000 (k + 7) 42 [.f (nd kd ps)] d.g1=.ok (.f (.lst ks),d.g1):=by
 show cG TT (run TT 5000 (k + 1 + 5)) 5000 42 [.f (nd kd ps)] d.g1=_
 rw[PI,aZ,iZ (FO _ d kd ps hl)]
 obtain⟨h',e⟩:=lL (k + 1) d ps (nd kd ps) hk 5000 [] [] (by omega) hc (by simp;omega) (.inl rfl)
 have e2:aN (run TT 5000 (k + 1 + 5)) (ex TT 30 (dC 42) (dN 42 1) (dD d [] ps ps.reverse (dX (nd kd ps) [])))=.ok (.next,dD d ([]++ks) ps [] (dX (nd kd ps) h')):=by rw[Ph];exact e
 rw[iZ e2,uK (w:=.loc 0) (st':=dD d ([]++ks) ps [] (dX (nd kd ps) h')) (by kernel_rfl)]
 kernel_rfl
end Mine
end
section
namespace Mine
inductive RL {α β:Type} (R:α→List β→Prop):List α→List β→Prop
 | nil:RL R [] []
 | cons {x y xs ys}:R x y→RL R xs ys→RL R (x::xs) (y++ys)
theorem C7 {α:Type}{C:bW}{x:Pg α}{a:α} (h:aN C x=.ok a):aN C (fB x)=.ok a:=by
 induction x with
 | stuck=>exact h
 | raise=>exact nk2 h
 | ok=>exact h
 | ask c m q k ih =>
  replace h:(kI c (q.run C)).bind (fun r=>aN C (k r))=.ok a:=h
  show(calm (q.run C)).bind (fun r=>aN C (fB (k r)))=.ok a
  cases e:q.run C with
  | stuck=>rw[e]at h;cases c<;>exact nk1 h
  | raise=>rw[e]at h;cases c<;>first | exact nk2 h | exact nk1 h
  | ok r=>rw[e]at h;cases c<;>exact ih r h
theorem qY {α β:Type}{C:bW}{f:α→St→Pg (List β × St)}{Inv:St→Prop}{R:α→List β→Prop} (H:∀ x y,R x y→∀ st,Inv st→∃ st',aN C (f x st)=.ok (y,st')∧Inv st'):∀ {L:List α}{ys:List β},RL R L ys→∀ st,Inv st→∃ st',aN C (iW f L st)=.ok (ys,st')∧Inv st'
 | _,_,.nil,st,hi=>⟨st,rfl,hi⟩
 | _,_,.cons (x:=x) (y:=y) (xs:=xs) (ys:=ys) hr ht,st,hi=>by
  obtain⟨s1,e1,h1⟩:=H x y hr st hi
  obtain⟨s2,e2,h2⟩:=qY H ht s1 h1
  refine⟨s2,?_,h2⟩
  refine(aZ C (f x st) _).trans ?_
  rw[e1]
  refine(aZ C (iW f xs s1) _).trans ?_
  rw[e2];rfl
theorem wZ {C:bW}{ih:Cx→Expr→St→Pg (PV × St)}{cx:Cx}{inner:St→Pg (List FV × St)}{g:Comprehension}{x:FV}{st st1:St} (e1:wT cx g.target x st=some st1) (e2:aN C (nL ih cx g.ifs st1)=.ok (true,st1)):aN C (lU ih cx inner g x st)=aN C (inner st1):=by
 show aN C (opt (wT cx g.target x st) _)=_
 rw[e1]
 refine(aZ C (nL ih cx g.ifs st1) _).trans ?_
 rw[e2];rfl
theorem L8 {T:bP}{C:bW}{ih:Cx→Expr→St→Pg (PV × St)}{cx:Cx}{elt:Expr}{g g':Comprehension}{Inv Inv':St→Prop}{R:FV→List FV→Prop}
  (H1:∀ x ys,R x ys→∀ st,Inv st→∃ st1 st2,wT cx g.target x st=some st1∧aN C (nL ih cx g.ifs st1)=.ok (true,st1)∧aN C (jB T ih true cx g'.iter st1)=.ok (ys,st2)∧Inv' st2)
  (H2:∀ y st,Inv' st→∃ st1,wT cx g'.target y st=some st1∧aN C (nL ih cx g'.ifs st1)=.ok (true,st1)∧aN C (ih cx elt st1)=.ok (.f y,st1)∧Inv' st1)
  (H3:∀ st,Inv' st→Inv st) {L ys:List FV} (hr:RL R L ys) (st:St) (hi:Inv st):∃ st',aN C (nN T ih cx elt [g'] g L st)=.ok (ys,st')∧Inv st':=by
 refine qY (R:=R) (fun x ys hx st hi=>?_) hr st hi
 obtain⟨s1,s2,e1,e2,e3,i2⟩:=H1 x ys hx st hi
 have hin:∀ (l:List FV) (st:St),Inv' st→∃ st',aN C (nN T ih cx elt [] g' l st)=.ok (l,st')∧Inv' st':=by
  intro l
  induction l with
  | nil=>exact fun st hi=>⟨st,rfl,hi⟩
  | cons y l ihl =>
   intro st hi
   obtain⟨s3,f1,f2,f3,i3⟩:=H2 y st hi
   obtain⟨s4,f4,i4⟩:=ihl s3 i3
   refine⟨s4,?_,i4⟩
   refine(aZ C (lU ih cx (vP ih cx elt) g' y st) _).trans ?_
   rw[wZ f1 f2,show aN C (vP ih cx elt s3)=.ok ([y],s3) from(aZ C (ih cx elt s3) _).trans (by rw[f3];rfl)]
   refine(aZ C (nN T ih cx elt [] g' l s3) _).trans ?_
   rw[f4];rfl
 obtain⟨s3,e4,i3⟩:=hin ys s2 i2
 refine⟨s3,?_,H3 _ i3⟩
 refine(wZ e1 e2).trans ((aZ C (jB T ih true cx g'.iter s1) _).trans ?_)
 rw[e3]
 exact e4
noncomputable def Pb:Stmt→Expr
 | .Assign _ e _=>e
 | _=>.Constant .none 0 default
noncomputable def HL:Expr→Expr
 | .ListComp e _ _ _=>e
 | e=>e
noncomputable def Ct:Expr→List Comprehension
 | .ListComp _ g _ _=>g
 | _=>[]
noncomputable def Ow:Expr→Scope
 | .ListComp _ _ s _=>s
 | _=>default
noncomputable def o8:Expr:=match uZ (dN 47 1) with
 | s::_=>Pb s
 | []=>.Constant .none 0 default
noncomputable def O0:Comprehension:=match Ct o8 with
 | g::_=>g
 | []=>⟨.Constant .none 0 default,.Constant .none 0 default,[],0⟩
noncomputable def FD:Comprehension:=match Ct o8 with
 | _::g::_=>g
 | _=>⟨.Constant .none 0 default,.Constant .none 0 default,[],0⟩
noncomputable def Eg:Cx:=⟨47,Ow o8,5000⟩
noncomputable def RU (X:FV) (L:List FV) (i:Int):List (Str × PV):=[(Str.ofString "node",.f X),(Str.ofString "most",.f (.int 120)),(Str.ofString "level",.f (.lst L)),(Str.ofString "many",.f (.int i))]
noncomputable def hV (d:KD) (X:FV) (L:List FV) (i:Int):St:=⟨d.g1,[],RU X L i,[]⟩
noncomputable def L1 (d:KD) (st:St):Prop:=(st=⟨d.g1,[],[],[]⟩)∨(∃ x,st=⟨d.g1,[],[(Str.ofString "one",x)],[]⟩)∨∃ x y,st=⟨d.g1,[],[(Str.ofString "one",x),(Str.ofString "child",y)],[]⟩
noncomputable def Pr (d:KD) (st:St):Prop:=(∃ x,st=⟨d.g1,[],[(Str.ofString "one",x)],[]⟩)∨∃ x y,st=⟨d.g1,[],[(Str.ofString "one",x),(Str.ofString "child",y)],[]⟩
noncomputable def JT:FP:={ P0 with pz:=[47],pu:=[] }
noncomputable def KR (C:bW) (d:KD) (x:FV) (ys:List FV):Prop:=C 42 [.f x] d.g1=.ok (.f (.lst ys),d.g1)
theorem Fh (k:Nat) (d:KD) (x:FV) (ys:List FV) (h:KR (run TT 5000 (k + 5)) d x ys) (tl:List (Str × PV)):aN (run TT 5000 (k + 5)) (jB TT (ev TT 39) true Eg FD.iter ⟨d.g1,[],(Str.ofString "one",.f x)::tl,[]⟩)=.ok (ys,⟨d.g1,[],(Str.ofString "one",.f x)::tl,[]⟩):=by
 exact dZ (P:=JT) (n:=5) (pu:=[]) (cuts:=[(42,[.val (.ok (.f (.lst ys),d.g1))])]) (ps:=[]) (cl:=[.call 5 42 [.f x] d.g1 (.ok (.f (.lst ys),d.g1))]) (by kernel_rfl) k mn (mc h mn)
theorem KA (k:Nat) (d:KD) {L ys:List FV} (h:RL (KR (run TT 5000 (k + 5)) d) L ys):∃ st',aN (run TT 5000 (k + 5)) (nN TT (ev TT 39) Eg (HL o8) [FD] O0 L ⟨d.g1,[],[],[]⟩)=.ok (ys,st')∧L1 d st':=by
 refine L8 (Inv:=L1 d) (Inv':=Pr d) (R:=KR (run TT 5000 (k + 5)) d) (fun x ys hx st hi=>?_) (fun y st hi=>?_) (fun st hi=>.inr hi) h _ (.inl rfl)
 ·rcases hi with rfl | ⟨a,rfl⟩ | ⟨a,b,rfl⟩
  ·exact⟨_,_,(show _=some (⟨d.g1,[],[(Str.ofString "one",.f x)],[]⟩:St) from by kernel_rfl),by kernel_rfl,Fh k d x ys hx [],.inl ⟨_,rfl⟩⟩
  ·exact⟨_,_,(show _=some (⟨d.g1,[],[(Str.ofString "one",.f x)],[]⟩:St) from by kernel_rfl),by kernel_rfl,Fh k d x ys hx [],.inl ⟨_,rfl⟩⟩
  ·exact⟨_,_,(show _=some (⟨d.g1,[],[(Str.ofString "one",.f x),(Str.ofString "child",b)],[]⟩:St) from by kernel_rfl),by kernel_rfl,Fh k d x ys hx _,.inr ⟨_,_,rfl⟩⟩
 ·rcases hi with ⟨a,rfl⟩ | ⟨a,b,rfl⟩
  ·exact⟨_,(show _=some (⟨d.g1,[],[(Str.ofString "one",a),(Str.ofString "child",.f y)],[]⟩:St) from by kernel_rfl),by kernel_rfl,by kernel_rfl,.inr ⟨_,_,rfl⟩⟩
  ·exact⟨_,(show _=some (⟨d.g1,[],[(Str.ofString "one",a),(Str.ofString "child",.f y)],[]⟩:St) from by kernel_rfl),by kernel_rfl,by kernel_rfl,.inr ⟨_,_,rfl⟩⟩
noncomputable def Gx:St→Pg (Bool × St):=gA TT (dC 47) (D9 (dN 47 1))
noncomputable def GJ:St→Pg (Fl × St):=dS (ex TT 29) (dC 47) (uZ (dN 47 1))
noncomputable def OK (i:Int):Option Bool:=(cM .LtE (.f (.int i)) (.f (.int 120)))
theorem Ki {i:Int} (h:i ≤ 120):OK i=some true:=by
 show some (decide (i ≤ (120:Int)))=_
 rw[decide_eq_true h]
theorem Ij (k:Nat) (d:KD) (X:FV) (i:Int):aN (run TT 5000 (k + 5)) (Gx (hV d X [] i))=.ok (false,hV d X [] i):=by kernel_rfl
theorem RA (k:Nat) (d:KD) (X:FV) (L:List FV) (i:Int) (hL:L.length ≤ 10000) (hL':0 < L.length) (hi:i ≤ 120):aN (run TT 5000 (k + 5)) (Gx (hV d X L i))=.ok (true,hV d X L i):=by
 exact dZ (P:=JT) (n:=5) (pu:=[]) (cuts:=[]) (ps:=[.v (.f (.int L.length)),.b true,.b true]) (cl:=[.pv (qK (.lst L)) (.f (.int L.length)),.pb ((cM .Gt (.f (.int L.length)) (.f (.int 0)))) true,.pb (OK i) true]) (by kernel_rfl) k mn
  (mc (kF hL) (mc ((Je _).trans (by rw[decide_eq_true hL'])) (mc (Ki hi) mn)))
theorem Kk (C:bW) (d:KD) (X:FV) (L:List FV) (i:Int):aN C (E0 TT (dC 47) o8 (hV d X L i))=aN C ((fB (nN TT (ev TT 39) Eg (HL o8) [FD] O0 L ⟨d.g1,[],[],[]⟩)).bind fun q=>gp (fits q.1.length) (gp (mP q.2.g.length q.2.g) (gp (Nat.ble 2 q.2.g.length) (.ok (PV.f (.lst q.1),{ hV d X L i with g:=q.2.g }))))):=by kernel_rfl
noncomputable def N1:Expr:=match uZ (dN 47 1) with
 | .Assign [t] _ _::_=>t
 | _=>.Constant .none 0 default
noncomputable def NB:Stmt:=match uZ (dN 47 1) with
 | _::s::_=>s
 | _=>.Pass default
theorem Jn (d:KD) (X:FV) (L:List FV) (i:Int):GJ (hV d X L i)=(((E0 TT (dC 47) o8 (hV d X L i)).bind fun r=>pI TT (dC 47) 4 N1 r.1 r.2).bind fun r=>.ok (Fl.next,r.2)).bind fun a=>match a.1 with
  | .next=>dS (ex TT 29) (dC 47) [NB] a.2
  | _=>.ok a:=by kernel_rfl
theorem Re (k:Nat) (d:KD) (X:FV) {L ys:List FV} (i:Int) (h:RL (KR (run TT 5000 (k + 5)) d) L ys) (hy:ys.length ≤ 10000):aN (run TT 5000 (k + 5)) (GJ (hV d X L i))=.ok (.next,hV d X ys (i + 1)):=by
 have e:aN (run TT 5000 (k + 5)) (E0 TT (dC 47) o8 (hV d X L i))=.ok (.f (.lst ys),hV d X L i):=by
  obtain⟨st',e1,hi⟩:=KA k d h
  have hg:st'.g=d.g1:=by rcases hi with rfl | ⟨_,rfl⟩ | ⟨_,_,rfl⟩<;>rfl
  rw[Kk,aZ,C7 e1]
  show aN _ (gp (fits ys.length) (gp (mP st'.g.length st'.g) (gp (Nat.ble 2 st'.g.length) (.ok (PV.f (.lst ys),{ hV d X L i with g:=st'.g })))))=_
  rw[hg,cO (by omega)]
  rfl
 rw[Jn,aZ,aZ,aZ,e]
 kernel_rfl
mutual
inductive Lo:FV→Nat→Nat→Prop
 | mk {kd ps ks ck n c}:eT ps ks ck→ps.length ≤ 5→ck ≤ 3000→iK ks n c→Lo (nd kd ps) (n + 1) (c + 1)
inductive iK:List FV→Nat→Nat→Prop
 | nil {n}:iK [] n 0
 | cons {x xs n c d}:Lo x n c→iK xs n d→iK (x::xs) n (c + d)
end
theorem iK.len:∀ {xs:List FV}{n c:Nat},iK xs n c→xs.length ≤ c
 | [],_,_,_=>Nat.zero_le _
 | _::xs,_,_,.cons h t=>by
  have:=t.len
  cases h
  simp only[List.length];omega
theorem iK.app:∀ {xs ys:List FV}{n c d:Nat},iK xs n c→iK ys n d→iK (xs++ys) n (c + d)
 | [],ys,_,_,_,.nil,h=>by simpa using h
 | x::xs,ys,_,_,_,.cons h t,h'=>by
  rw[Nat.add_assoc];exact .cons h (t.app h')
theorem iK.down (k:Nat) (d:KD):∀ {xs:List FV}{n c:Nat},iK xs (n + 1) c→∃ ys c',RL (KR (run TT 5000 (k + 7)) d) xs ys∧iK ys n c'∧c' ≤ c
 | [],_,_,_=>⟨[],0,.nil,.nil,Nat.zero_le _⟩
 | x::xs,n,_,.cons (c:=c) h t=>by
  obtain⟨ys,c',hr,hl,hc⟩:=iK.down k d t
  cases h with
  | mk h1 h2 h3 h4=>exact⟨_,_,.cons (Hz h1 h3 h2 _ d k) hr,h4.app hl,by omega⟩
theorem u2 (k:Nat) (d:KD) (X:FV):∀ (n:Nat) {L:List FV}{c:Nat} (i:Int) (m:Nat),iK L n c→c ≤ 5000→i + (n:Nat) ≤ 120→n < m →
  ∃ i',i' ≤ 120∧aN (run TT 5000 (k + 7)) (jJ Gx GJ m (hV d X L i))=.ok (.next,hV d X [] i')
 | n,[],_,i,m + 1,_,_,hi,_=>⟨i,by omega,uL (Ij (k + 2) d X i)⟩
 | 0,_::_,_,_,_,.cons h _,_,_,_=>by cases h
 | n + 1,x::xs,c,i,m + 1,h,hc,hi,hm=>by
  obtain⟨ys,c',hr,hl,hc'⟩:=h.down k d
  have h1:=h.len
  have h2:=hl.len
  obtain⟨i',hi',e⟩:=u2 k d X n (i + 1) m hl (by omega) (by omega) (by omega)
  exact⟨i',hi',(gT (RA (k + 2) d X (x::xs) i (by omega) (by simp) (by omega)) (Re (k + 2) d X i hr (by omega))).trans e⟩
 | n,_,_,_,0,_,_,_,hm=>by omega
theorem Pa (C:bW) (d:KD) (X:FV):cG TT C 5000 47 [.f X,.f (.int 120)] d.g1=aN C ((dS (ex TT 30) (dC 47) [dN 47 0,dN 47 1,dN 47 2] ⟨d.g1,[],[(Str.ofString "node",.f X),(Str.ofString "most",.f (.int 120))],[]⟩).bind fun r=>opt (gK false 2 r) .ok) :=
 BR (by kernel_rfl) (by kernel_rfl) (by kernel_rfl) (by kernel_rfl) rfl
theorem Oq (st:St):ex TT 30 (dC 47) (dN 47 1) st=jJ Gx GJ 5000 st:=xV (by kernel_rfl) st
noncomputable def RM (i:Int):Option Bool:=(cM .Gt (.f (.int i)) (.f (.int 120)))
theorem JC {X:FV}{n c:Nat} (h:Lo X n c) (hn:n ≤ 120) (hc:c ≤ 5000):uD X:=fun d k=>by
 show cG TT (run TT 5000 (k + 52 + 7)) 5000 47 [.f X,.f (.int 120)] d.g1=_
 rw[Pa,aZ,iZ (st':=hV d X [X] 0) (by kernel_rfl)]
 obtain⟨i',hi',e⟩:=u2 (k + 52) d X n (L:=[X]) 0 5000 (.cons h .nil) (by omega) (by omega) (by omega)
 have e2:aN (run TT 5000 (k + 52 + 7)) (ex TT 30 (dC 47) (dN 47 1) (hV d X [X] 0))=.ok (.next,hV d X [] i'):=by rw[Oq];exact e
 have e3:aN (run TT 5000 (k + 52 + 7)) (ex TT 30 (dC 47) (dN 47 2) (hV d X [] i'))=.ok (.ret (.f (.bool false)),hV d X [] i'):=by
  refine dZ (P:=JT) (n:=59) (pu:=[]) (cuts:=[]) (ps:=[.b false]) (ul:=[]) (cl:=[.pb (RM i') false]) (by kernel_rfl) k mn (mc ?_ mn)
  show some (decide ((120:Int) < i'))=_
  rw[decide_eq_false (by omega)]
 rw[iZ e2,uK e3]
 kernel_rfl
end Mine
end
section
namespace Mine
noncomputable def d7 (n:Nat) (x:FV) (least:Int) (w:List Nat):Prop:=∀ vs k,run TT 5000 (k + n) 382 [.f x,.f (.int least),.f (.bool false)] [.lst vs]=.ok (.f (.str w),[.lst vs])
noncomputable def lJ (n:Nat) (x:FV) (w:List Nat):Prop:=∀ vs k,run TT 5000 (k + n) 387 [.f x,.f (.bool false)] [.lst vs]=.ok (.f (.str w),[.lst vs])
noncomputable def iF (n:Nat) (x:FV) (w:List Nat):Prop:=∀ vs k,run TT 5000 (k + n) 496 [.f x] [.lst vs]=.ok (.f (.str w),[.lst vs])
theorem d7.weak {n:Nat}{x:FV}{l:Int}{w:List Nat} (h:d7 n x l w) (i:Nat):d7 (n + i) x l w:=fun vs k=>by
 rw[show k + (n + i)=(k + i) + n by omega];exact h vs (k + i)
theorem iF.weak {n:Nat}{x:FV}{w:List Nat} (h:iF n x w) (i:Nat):iF (n + i) x w:=fun vs k=>by
 rw[show k + (n + i)=(k + i) + n by omega];exact h vs (k + i)
noncomputable def s5:FP:={ P0 with cz:=[382,387,404,411,418,425,430,496],pu:=[] }
theorem aP {a b w:List Nat} (_:w.length ≤ 2000) (h:a.length + b.length ≤ 10000):fits (a.length + b.length)=true:=cO (by omega)
theorem fK {s:List Nat}{vs:List FV}{t w:List Nat}{n:Nat} (h1:mY vs=some n) (h2:n0 s vs=some t) (_:w.length ≤ 2000) (h:n + vs.length * s.length ≤ 10000):oO s vs=some (.f (.str t)):=by
 show(mY vs).bind _=_
 rw[h1]
 show gd (fits (n + vs.length * s.length)) _=_
 rw[cO (by omega)]
 show(n0 s vs).bind _=_
 rw[h2];rfl
noncomputable def Da (a b:Int):Option Bool:=(cM .Lt (.f (.int a)) (.f (.int b)))
theorem tH {a b:Int} (h:b ≤ a):Da a b=some false:=by
 show some (decide (a < b))=_
 rw[decide_eq_false (by omega)]
noncomputable def Gr:FP:={ P0 with pz:=[382],pu:=[] }
theorem KX {j:Nat}{ps:List FV}{w:List Nat}{l:Int} (hl:l ≤ 16) (h:lJ (j + 20) (nd [78,117,109] ps) w):d7 (j + 21) (nd [78,117,109] ps) l w:=fun vs k =>
 aI (P:=Gr) (n:=j + 21) (q:=[]) (pu:=[]) (nl:=[]) (ul:=[]) (cuts:=[(387,[.val (.ok (.f (.str w),[.lst vs]))])]) (ps:=[.b false])
  (cl:=[.pb (Da 16 l) false,.call (j + 20) 387 [.f (nd [78,117,109] ps),.f (.bool false)] [.lst vs] (.ok (.f (.str w),[.lst vs]))]) (by kernel_rfl) k mn mn (mc (tH hl) (mc (h vs k) mn))
theorem vU {j:Nat}{ps:List FV}{w:List Nat}{l:Int} (hl:l ≤ 16) (h:lJ (j + 20) (nd [70,117,110,99,116,105,111,110] ps) w):d7 (j + 21) (nd [70,117,110,99,116,105,111,110] ps) l w:=fun vs k =>
 aI (P:=Gr) (n:=j + 21) (q:=[]) (pu:=[]) (nl:=[]) (ul:=[]) (cuts:=[(387,[.val (.ok (.f (.str w),[.lst vs]))])]) (ps:=[.b false])
  (cl:=[.pb (Da 16 l) false,.call (j + 20) 387 [.f (nd [70,117,110,99,116,105,111,110] ps),.f (.bool false)] [.lst vs] (.ok (.f (.str w),[.lst vs]))]) (by kernel_rfl) k mn mn (mc (tH hl) (mc (h vs k) mn))
theorem yP {j:Nat}{ps:List FV}{w:List Nat}{l:Int} (hl:l ≤ 16) (h:lJ (j + 20) (nd [78,101,119] ps) w):d7 (j + 21) (nd [78,101,119] ps) l w:=fun vs k =>
 aI (P:=Gr) (n:=j + 21) (q:=[]) (pu:=[]) (nl:=[]) (ul:=[]) (cuts:=[(387,[.val (.ok (.f (.str w),[.lst vs]))])]) (ps:=[.b false])
  (cl:=[.pb (Da 16 l) false,.call (j + 20) 387 [.f (nd [78,101,119] ps),.f (.bool false)] [.lst vs] (.ok (.f (.str w),[.lst vs]))]) (by kernel_rfl) k mn mn (mc (tH hl) (mc (h vs k) mn))
theorem MB {j:Nat}{X:FV}{w:List Nat}{l:Int} (hl:l ≤ 13) (h:lJ (j + 20) (sN X) w):d7 (j + 21) (sN X) l w:=fun vs k =>
 aI (P:=Gr) (n:=j + 21) (q:=[]) (pu:=[]) (nl:=[]) (ul:=[]) (cuts:=[(387,[.val (.ok (.f (.str w),[.lst vs]))])]) (ps:=[.b false])
  (cl:=[.pb (Da 13 l) false,.call (j + 20) 387 [.f (sN X),.f (.bool false)] [.lst vs] (.ok (.f (.str w),[.lst vs]))]) (by kernel_rfl) k mn mn (mc (tH hl) (mc (h vs k) mn))
noncomputable def Od:FP:={ P0 with mz:=[437],pu:=[] }
noncomputable def KU (w:List Nat):St→Option PV:=fun _=>yB w none (some 1)
theorem DY {w:List Nat} (h:w.length ≤ 10000):∀ st,KU w st=some (.f (.str (cut w none (some 1)))):=by
 intro st
 show gd (fits w.length) _=_
 rw[cO (by omega)];rfl
theorem Nw {j:Nat}{X:FV}{w:List Nat} (hw:w.length ≤ 2000) (h:d7 (j + 20) X 13 w):lJ (j + 22) (sN X) (33::w):=fun vs k=>by
 cases e:gF (cut w none (some 1)) [33] with
 | false =>
  exact aI (P:=Od) (n:=j + 22) (q:=[]) (pu:=[]) (nl:=[]) (ul:=[]) (cuts:=[(382,[.val (.ok (.f (.str w),[.lst vs]))])]) (ps:=[.auto,.v (.f (.str (cut w none (some 1)))),.auto,.b false])
   (cl:=[.call (j + 20) 382 [.f X,.f (.int 13),.f (.bool false)] [.lst vs] (.ok (.f (.str w),[.lst vs])),.pv (KU w) (.f (.str (cut w none (some 1)))),.pb ((cM .Eq (.f (.str (cut w none (some 1)))) (.f (.str [33])))) false,.ct [33] [],.ct [33] w]) (by kernel_rfl) k mn mn
   (mc (h vs k) (mc (DY (by omega)) (mc (congrArg some e) (mc (cO (by decide)) (mc (aP hw (by simp only[List.length_cons,List.length_nil];omega)) mn)))))
 | true =>
  exact aI (P:=Od) (n:=j + 22) (q:=[]) (pu:=[]) (nl:=[]) (ul:=[]) (cuts:=[(382,[.val (.ok (.f (.str w),[.lst vs]))])]) (ps:=[.auto,.v (.f (.str (cut w none (some 1)))),.auto,.b true])
   (cl:=[.call (j + 20) 382 [.f X,.f (.int 13),.f (.bool false)] [.lst vs] (.ok (.f (.str w),[.lst vs])),.pv (KU w) (.f (.str (cut w none (some 1)))),.pb ((cM .Eq (.f (.str (cut w none (some 1)))) (.f (.str [33])))) true,.ct [33] [],.ct [33] w]) (by kernel_rfl) k mn mn
   (mc (h vs k) (mc (DY (by omega)) (mc (congrArg some e) (mc (cO (by decide)) (mc (aP hw (by simp only[List.length_cons,List.length_nil];omega)) mn)))))
noncomputable def a8:Nat→List Nat→List Nat
 | 0,w=>w
 | c + 1,w=>33::a8 c w
theorem fW (w:List Nat):∀ c,(a8 c w).length=c + w.length
 | 0=>by simp[a8]
 | c + 1=>by simp only[a8,List.length,fW w c];omega
theorem yS {X:FV}{w:List Nat} (hw:w.length ≤ 1000) (h:∀ l:Int,l ≤ 13→d7 45 X l w):∀ (c:Nat),c ≤ 100→∀ l:Int,l ≤ 13→d7 (45 + 3 * c) (fV X c) l (a8 c w)
 | 0,_,l,hl=>h l hl
 | c + 1,hc,l,hl=>by
  have:=yS hw h c (by omega) 13 (by omega)
  rw[show 45 + 3 * c=(25 + 3 * c) + 20 by omega]at this
  have b:=Nw (by rw[fW];omega) this
  rw[show 25 + 3 * c + 22=(27 + 3 * c) + 20 by omega]at b
  have e:=MB hl b
  rw[show 27 + 3 * c + 21=45 + 3 * (c + 1) by omega]at e
  exact e
noncomputable def tx (i:Nat) (s:Bool):List Nat:=match i,s with
 | 0,_=>[48]
 | 1,false=>[102,117,110,99,116,105,111,110,32,40,41,32,123,34,117,115,101,92,120,50,48,115,116,114,105,99,116,34,59,125]
 | 1,true=>[102,117,110,99,116,105,111,110,32,40,41,32,123,34,117,115,101,32,115,116,114,105,99,116,34,59,125]
 | 2,false=>[102,117,110,99,116,105,111,110,32,40,41,32,123,34,117,115,101,92,120,50,48,115,116,114,105,99,116,34,59,32,34,117,115,101,92,120,50,48,115,116,114,105,99,116,34,59,125]
 | 2,true=>[102,117,110,99,116,105,111,110,32,40,41,32,123,34,117,115,101,32,115,116,114,105,99,116,34,59,32,34,117,115,101,32,115,116,114,105,99,116,34,59,125]
 | 3,_=>[102,117,110,99,116,105,111,110,32,103,40,41,32,123,40,123,125,41,32,43,32,49,59,125]
 | 4,_=>[110,101,119,32,40,102,40,41,41,46,97,40,49,41]
 | 5,_=>[110,101,119,32,110,101,119,32,40,102,40,41,41,46,97,40,41,46,98,40,41]
 | 6,_=>[102,117,110,99,116,105,111,110,32,40,41,32,123,40,102,117,110,99,116,105,111,110,32,40,41,32,123,125,41,46,97,59,125]
 | _,_=>[110,101,119,32,40,102,40,41,41,91,91,48,93,93,40,41]
noncomputable def Pc:FP:={ P0 with pu:=[] }
theorem lM {x:FV}{w:List Nat} (h:∀ vs,dE Pc 44 387 [.f x,.f (.bool false)] [.lst vs] [] [] [] []=some (.ok (.f (.str w),[.lst vs]),[],[],[])):lJ 44 x w:=fun vs k=>aI (h vs) k mn mn mn
theorem Qb (s:Bool):lJ 44 (X0 s) (tx 0 s):=lM fun vs=>by cases s<;>kernel_rfl
theorem R6 (s:Bool):lJ 44 (X1 s) (tx 1 s):=lM fun vs=>by cases s<;>kernel_rfl
theorem QS (s:Bool):lJ 44 (X2 s) (tx 2 s):=lM fun vs=>by cases s<;>kernel_rfl
theorem Qo (s:Bool):lJ 44 (X3 s) (tx 3 s):=lM fun vs=>by cases s<;>kernel_rfl
theorem QZ (s:Bool):lJ 44 (X4 s) (tx 4 s):=lM fun vs=>by kernel_rfl
theorem RE (s:Bool):lJ 44 (X5 s) (tx 5 s):=lM fun vs=>by kernel_rfl
theorem Qq (s:Bool):lJ 44 (X6 s) (tx 6 s):=lM fun vs=>by kernel_rfl
theorem RC (s:Bool):lJ 44 (X7 s) (tx 7 s):=lM fun vs=>by kernel_rfl
theorem RB (s:Bool) (l:Int) (h:l ≤ 13):d7 45 (X0 s) l (tx 0 s):=KX (j:=24) (by omega) (Qb s)
theorem OL (s:Bool) (l:Int) (h:l ≤ 13):d7 45 (X1 s) l (tx 1 s):=vU (j:=24) (by omega) (R6 s)
theorem Oc (s:Bool) (l:Int) (h:l ≤ 13):d7 45 (X2 s) l (tx 2 s):=vU (j:=24) (by omega) (QS s)
theorem QV (s:Bool) (l:Int) (h:l ≤ 13):d7 45 (X3 s) l (tx 3 s):=vU (j:=24) (by omega) (Qo s)
theorem RV (s:Bool) (l:Int) (h:l ≤ 13):d7 45 (X4 s) l (tx 4 s):=yP (j:=24) (by omega) (QZ s)
theorem Rh (s:Bool) (l:Int) (h:l ≤ 13):d7 45 (X5 s) l (tx 5 s):=yP (j:=24) (by omega) (RE s)
theorem RT (s:Bool) (l:Int) (h:l ≤ 13):d7 45 (X6 s) l (tx 6 s):=vU (j:=24) (by omega) (Qq s)
theorem Qm (s:Bool) (l:Int) (h:l ≤ 13):d7 45 (X7 s) l (tx 7 s):=yP (j:=24) (by omega) (RC s)
end Mine
end
section
namespace Mine
local macro_rules
 | `(tactic| trivial)=>`(tactic| (simp only[List.length_append,List.length_cons,List.length_nil];omega))
noncomputable def KE (w:List Nat):List Nat:=(40::123::125::41::32::43::32::(w++[59]))
theorem Qg (s:Bool) (j:Nat) (X:FV) (w:List Nat) (hw:w.length ≤ 2000) (H:d7 (j + 25) X 12 w):iF (j + 50) (M0 s X) (KE w):=fun vs k =>
 aI (P:=s5) (n:=j + 50) (q:=[]) (pu:=[]) (nl:=[]) (ul:=[]) (cuts:=[(382,[.inl,.inl,.val (.ok (.f (.str w),[.lst vs]))])]) (ps:=[])
  (cl:=[.jn [44,32] [] [],.ct [123] [],.ct [123] [125],.ct [40] [123,125],.ct [40,123,125] [41],.ct [40,123,125,41] [32],.ct [40,123,125,41,32] [43],.ct [40,123,125,41,32,43] [32],.call (j + 46) 382 [.f X,.f (.int 12),.f (.bool false)] [.lst vs] (.ok (.f (.str w),[.lst vs])),.ct [40,123,125,41,32,43,32] (w),.ct (40::123::125::41::32::43::32::w) [59]]) (by kernel_rfl) k mn mn
  (mc (fK rfl rfl hw (by trivial)) (mc (aP hw (by trivial)) (mc (aP hw (by trivial)) (mc (aP hw (by trivial)) (mc (aP hw (by trivial)) (mc (aP hw (by trivial)) (mc (aP hw (by trivial)) (mc (aP hw (by trivial)) (mc ((H.weak 21) vs k) (mc (aP hw (by trivial)) (mc (aP hw (by trivial)) (mn))))))))))))
noncomputable def L5 (w:List Nat):List Nat:=(40::123::125::41::46::97::32::61::32::(w++[59]))
theorem Rw (s:Bool) (j:Nat) (X:FV) (w:List Nat) (hw:w.length ≤ 2000) (H:d7 (j + 25) X 1 w):iF (j + 50) (M1 s X) (L5 w):=fun vs k =>
 aI (P:=s5) (n:=j + 50) (q:=[]) (pu:=[]) (nl:=[]) (ul:=[]) (cuts:=[(382,[.inl,.inl,.inl,.val (.ok (.f (.str w),[.lst vs]))])]) (ps:=[])
  (cl:=[.jn [44,32] [] [],.ct [123] [],.ct [123] [125],.ct [40] [123,125],.ct [40,123,125] [41],.ct [46] [97],.ct [40,123,125,41] [46,97],.ct [40,123,125,41,46,97] [32],.ct [40,123,125,41,46,97,32] [61],.ct [40,123,125,41,46,97,32,61] [32],.call (j + 46) 382 [.f X,.f (.int 1),.f (.bool false)] [.lst vs] (.ok (.f (.str w),[.lst vs])),.ct [40,123,125,41,46,97,32,61,32] (w),.ct (40::123::125::41::46::97::32::61::32::w) [59]]) (by kernel_rfl) k mn mn
  (mc (fK rfl rfl hw (by trivial)) (mc (aP hw (by trivial)) (mc (aP hw (by trivial)) (mc (aP hw (by trivial)) (mc (aP hw (by trivial)) (mc (aP hw (by trivial)) (mc (aP hw (by trivial)) (mc (aP hw (by trivial)) (mc (aP hw (by trivial)) (mc (aP hw (by trivial)) (mc ((H.weak 21) vs k) (mc (aP hw (by trivial)) (mc (aP hw (by trivial)) (mn))))))))))))))
noncomputable def L3 (w:List Nat):List Nat:=(40::102::117::110::99::116::105::111::110::32::40::41::32::123::125::41::46::99::97::108::108::40::116::104::105::115::44::32::((w++[41])++[59]))
theorem Rc (s:Bool) (j:Nat) (X:FV) (w:List Nat) (hw:w.length ≤ 2000) (H:d7 (j + 25) X 1 w):iF (j + 50) (M2 s X) (L3 w):=fun vs k =>
 aI (P:=s5) (n:=j + 50) (q:=[]) (pu:=[]) (nl:=[]) (ul:=[]) (cuts:=[(382,[.inl,.inl,.inl,.inl,.val (.ok (.f (.str w),[.lst vs]))])]) (ps:=[])
  (cl:=[.ct [102,117,110,99,116,105,111,110,32] [40,41,32,123,125],.ct [40] [102,117,110,99,116,105,111,110,32,40,41,32,123,125],.ct [40,102,117,110,99,116,105,111,110,32,40,41,32,123,125] [41],.ct [46] [99,97,108,108],.ct [40,102,117,110,99,116,105,111,110,32,40,41,32,123,125,41] [46,99,97,108,108],.call (j + 45) 382 [.f X,.f (.int 1),.f (.bool false)] [.lst vs] (.ok (.f (.str w),[.lst vs])),.jn [44,32] [.str [116,104,105,115],.str (w)] (116::104::105::115::44::32::w),.ct [40] (116::104::105::115::44::32::w),.ct (40::116::104::105::115::44::32::w) [41],.ct [40,102,117,110,99,116,105,111,110,32,40,41,32,123,125,41,46,99,97,108,108] (40::116::104::105::115::44::32::(w++[41])),.ct (40::102::117::110::99::116::105::111::110::32::40::41::32::123::125::41::46::99::97::108::108::40::116::104::105::115::44::32::(w++[41])) [59]]) (by kernel_rfl) k mn mn
  (mc (aP hw (by trivial)) (mc (aP hw (by trivial)) (mc (aP hw (by trivial)) (mc (aP hw (by trivial)) (mc (aP hw (by trivial)) (mc ((H.weak 20) vs k) (mc (fK rfl rfl hw (by trivial)) (mc (aP hw (by trivial)) (mc (aP hw (by trivial)) (mc (aP hw (by trivial)) (mc (aP hw (by trivial)) (mn))))))))))))
noncomputable def JU (w:List Nat):List Nat:=(40::123::125::41::91::((w++[93])++[59]))
theorem RR (s:Bool) (j:Nat) (X:FV) (w:List Nat) (hw:w.length ≤ 2000) (H:d7 (j + 25) X 0 w):iF (j + 50) (M3 s X) (JU w):=fun vs k =>
 aI (P:=s5) (n:=j + 50) (q:=[]) (pu:=[]) (nl:=[]) (ul:=[]) (cuts:=[(382,[.inl,.inl,.val (.ok (.f (.str w),[.lst vs]))])]) (ps:=[])
  (cl:=[.jn [44,32] [] [],.ct [123] [],.ct [123] [125],.ct [40] [123,125],.ct [40,123,125] [41],.call (j + 45) 382 [.f X,.f (.int 0),.f (.bool false)] [.lst vs] (.ok (.f (.str w),[.lst vs])),.ct [91] (w),.ct (91::w) [93],.ct [40,123,125,41] (91::(w++[93])),.ct (40::123::125::41::91::(w++[93])) [59]]) (by kernel_rfl) k mn mn
  (mc (fK rfl rfl hw (by trivial)) (mc (aP hw (by trivial)) (mc (aP hw (by trivial)) (mc (aP hw (by trivial)) (mc (aP hw (by trivial)) (mc ((H.weak 20) vs k) (mc (aP hw (by trivial)) (mc (aP hw (by trivial)) (mc (aP hw (by trivial)) (mc (aP hw (by trivial)) (mn)))))))))))
noncomputable def Jw (w:List Nat):List Nat:=(40::123::125::41::44::32::(w++[59]))
theorem QL (s:Bool) (j:Nat) (X:FV) (w:List Nat) (hw:w.length ≤ 2000) (H:d7 (j + 25) X 1 w):iF (j + 50) (M4 s X) (Jw w):=fun vs k =>
 aI (P:=s5) (n:=j + 50) (q:=[]) (pu:=[]) (nl:=[]) (ul:=[]) (cuts:=[(382,[.inl,.inl,.val (.ok (.f (.str w),[.lst vs]))])]) (ps:=[])
  (cl:=[.jn [44,32] [] [],.ct [123] [],.ct [123] [125],.ct [40] [123,125],.ct [40,123,125] [41],.call (j + 46) 382 [.f X,.f (.int 1),.f (.bool false)] [.lst vs] (.ok (.f (.str w),[.lst vs])),.jn [44,32] [.str [40,123,125,41],.str (w)] (40::123::125::41::44::32::w),.ct (40::123::125::41::44::32::w) [59]]) (by kernel_rfl) k mn mn
  (mc (fK rfl rfl hw (by trivial)) (mc (aP hw (by trivial)) (mc (aP hw (by trivial)) (mc (aP hw (by trivial)) (mc (aP hw (by trivial)) (mc ((H.weak 21) vs k) (mc (fK rfl rfl hw (by trivial)) (mc (aP hw (by trivial)) (mn)))))))))
noncomputable def KB (w:List Nat):List Nat:=(40::102::117::110::99::116::105::111::110::32::40::41::32::123::125::41::32::63::32::(((w++[32,58,32])++[48])++[59]))
theorem RN (s:Bool) (j:Nat) (X:FV) (w:List Nat) (hw:w.length ≤ 2000) (H:d7 (j + 25) X 1 w):iF (j + 50) (M5 s X) (KB w):=fun vs k =>
 aI (P:=s5) (n:=j + 50) (q:=[]) (pu:=[]) (nl:=[]) (ul:=[]) (cuts:=[(382,[.inl,.inl,.val (.ok (.f (.str w),[.lst vs]))])]) (ps:=[])
  (cl:=[.ct [102,117,110,99,116,105,111,110,32] [40,41,32,123,125],.ct [40] [102,117,110,99,116,105,111,110,32,40,41,32,123,125],.ct [40,102,117,110,99,116,105,111,110,32,40,41,32,123,125] [41],.call (j + 46) 382 [.f X,.f (.int 1),.f (.bool false)] [.lst vs] (.ok (.f (.str w),[.lst vs])),.ct [40,102,117,110,99,116,105,111,110,32,40,41,32,123,125,41] [32,63,32],.ct [40,102,117,110,99,116,105,111,110,32,40,41,32,123,125,41,32,63,32] (w),.ct (40::102::117::110::99::116::105::111::110::32::40::41::32::123::125::41::32::63::32::w) [32,58,32],.ct (40::102::117::110::99::116::105::111::110::32::40::41::32::123::125::41::32::63::32::(w++[32,58,32])) [48],.ct (40::102::117::110::99::116::105::111::110::32::40::41::32::123::125::41::32::63::32::((w++[32,58,32])++[48])) [59]]) (by kernel_rfl) k mn mn
  (mc (aP hw (by trivial)) (mc (aP hw (by trivial)) (mc (aP hw (by trivial)) (mc ((H.weak 21) vs k) (mc (aP hw (by trivial)) (mc (aP hw (by trivial)) (mc (aP hw (by trivial)) (mc (aP hw (by trivial)) (mc (aP hw (by trivial)) (mn))))))))))
noncomputable def LM (w:List Nat):List Nat:=(40::123::125::41::46::97::40::49::41::40::((w++[41])++[59]))
theorem QU (s:Bool) (j:Nat) (X:FV) (w:List Nat) (hw:w.length ≤ 2000) (H:d7 (j + 25) X 1 w):iF (j + 50) (M6 s X) (LM w):=fun vs k =>
 aI (P:=s5) (n:=j + 50) (q:=[]) (pu:=[]) (nl:=[]) (ul:=[]) (cuts:=[(382,[.inl,.inl,.inl,.inl,.inl,.val (.ok (.f (.str w),[.lst vs]))])]) (ps:=[])
  (cl:=[.jn [44,32] [] [],.ct [123] [],.ct [123] [125],.ct [40] [123,125],.ct [40,123,125] [41],.ct [46] [97],.ct [40,123,125,41] [46,97],.jn [44,32] [.str [49]] [49],.ct [40] [49],.ct [40,49] [41],.ct [40,123,125,41,46,97] [40,49,41],.call (j + 45) 382 [.f X,.f (.int 1),.f (.bool false)] [.lst vs] (.ok (.f (.str w),[.lst vs])),.jn [44,32] [.str (w)] (w),.ct [40] (w),.ct (40::w) [41],.ct [40,123,125,41,46,97,40,49,41] (40::(w++[41])),.ct (40::123::125::41::46::97::40::49::41::40::(w++[41])) [59]]) (by kernel_rfl) k mn mn
  (mc (fK rfl rfl hw (by trivial)) (mc (aP hw (by trivial)) (mc (aP hw (by trivial)) (mc (aP hw (by trivial)) (mc (aP hw (by trivial)) (mc (aP hw (by trivial)) (mc (aP hw (by trivial)) (mc (fK rfl rfl hw (by trivial)) (mc (aP hw (by trivial)) (mc (aP hw (by trivial)) (mc (aP hw (by trivial)) (mc ((H.weak 20) vs k) (mc (fK rfl rfl hw (by trivial)) (mc (aP hw (by trivial)) (mc (aP hw (by trivial)) (mc (aP hw (by trivial)) (mc (aP hw (by trivial)) (mn))))))))))))))))))
noncomputable def K9 (w:List Nat):List Nat:=(40::102::117::110::99::116::105::111::110::32::102::40::41::32::123::125::41::40::41::32::124::124::32::(w++[59]))
theorem Qw (s:Bool) (j:Nat) (X:FV) (w:List Nat) (hw:w.length ≤ 2000) (H:d7 (j + 25) X 4 w):iF (j + 50) (M7 s X) (K9 w):=fun vs k =>
 aI (P:=s5) (n:=j + 50) (q:=[]) (pu:=[]) (nl:=[]) (ul:=[]) (cuts:=[(382,[.inl,.inl,.inl,.val (.ok (.f (.str w),[.lst vs]))])]) (ps:=[])
  (cl:=[.ct [102,117,110,99,116,105,111,110,32] [102,40,41,32,123,125],.ct [40] [102,117,110,99,116,105,111,110,32,102,40,41,32,123,125],.ct [40,102,117,110,99,116,105,111,110,32,102,40,41,32,123,125] [41],.jn [44,32] [] [],.ct [40] [],.ct [40] [41],.ct [40,102,117,110,99,116,105,111,110,32,102,40,41,32,123,125,41] [40,41],.ct [40,102,117,110,99,116,105,111,110,32,102,40,41,32,123,125,41,40,41] [32],.ct [40,102,117,110,99,116,105,111,110,32,102,40,41,32,123,125,41,40,41,32] [124,124],.ct [40,102,117,110,99,116,105,111,110,32,102,40,41,32,123,125,41,40,41,32,124,124] [32],.call (j + 46) 382 [.f X,.f (.int 4),.f (.bool false)] [.lst vs] (.ok (.f (.str w),[.lst vs])),.ct [40,102,117,110,99,116,105,111,110,32,102,40,41,32,123,125,41,40,41,32,124,124,32] (w),.ct (40::102::117::110::99::116::105::111::110::32::102::40::41::32::123::125::41::40::41::32::124::124::32::w) [59]]) (by kernel_rfl) k mn mn
  (mc (aP hw (by trivial)) (mc (aP hw (by trivial)) (mc (aP hw (by trivial)) (mc (fK rfl rfl hw (by trivial)) (mc (aP hw (by trivial)) (mc (aP hw (by trivial)) (mc (aP hw (by trivial)) (mc (aP hw (by trivial)) (mc (aP hw (by trivial)) (mc (aP hw (by trivial)) (mc ((H.weak 21) vs k) (mc (aP hw (by trivial)) (mc (aP hw (by trivial)) (mn))))))))))))))
noncomputable def JQ (w:List Nat):List Nat:=(40::123::125::41::46::97::43::43::44::32::(w++[59]))
theorem Q2 (s:Bool) (j:Nat) (X:FV) (w:List Nat) (hw:w.length ≤ 2000) (H:d7 (j + 25) X 1 w):iF (j + 50) (M8 s X) (JQ w):=fun vs k =>
 aI (P:=s5) (n:=j + 50) (q:=[]) (pu:=[]) (nl:=[]) (ul:=[]) (cuts:=[(382,[.inl,.inl,.inl,.inl,.val (.ok (.f (.str w),[.lst vs]))])]) (ps:=[])
  (cl:=[.jn [44,32] [] [],.ct [123] [],.ct [123] [125],.ct [40] [123,125],.ct [40,123,125] [41],.ct [46] [97],.ct [40,123,125,41] [46,97],.ct [40,123,125,41,46,97] [43,43],.call (j + 46) 382 [.f X,.f (.int 1),.f (.bool false)] [.lst vs] (.ok (.f (.str w),[.lst vs])),.jn [44,32] [.str [40,123,125,41,46,97,43,43],.str (w)] (40::123::125::41::46::97::43::43::44::32::w),.ct (40::123::125::41::46::97::43::43::44::32::w) [59]]) (by kernel_rfl) k mn mn
  (mc (fK rfl rfl hw (by trivial)) (mc (aP hw (by trivial)) (mc (aP hw (by trivial)) (mc (aP hw (by trivial)) (mc (aP hw (by trivial)) (mc (aP hw (by trivial)) (mc (aP hw (by trivial)) (mc (aP hw (by trivial)) (mc ((H.weak 21) vs k) (mc (fK rfl rfl hw (by trivial)) (mc (aP hw (by trivial)) (mn))))))))))))
end Mine
end
section
namespace Mine
noncomputable def aF.txt:aF→List Nat
 | .e=>[34,117,115,101,92,120,50,48,115,116,114,105,99,116,34,59]
 | .u=>[34,117,115,101,32,115,116,114,105,99,116,34,59]
 | .a=>[34,97,34,59]
 | .n=>[97,59]
 | .p=>[40,34,117,115,101,32,115,116,114,105,99,116,34,41,59]
noncomputable def kS:aF→Bool
 | .n=>false
 | _=>true
noncomputable def lC (s h:Bool):aF→aF
 | .a=>.a
 | .n=>.n
 | _=>if h&&!s then .e else .u
noncomputable def b7 (s:Bool):Bool→List aF→List aF
 | _,[]=>[]
 | h,r::rs=>lC s h r::b7 s (h&&kS r) rs
noncomputable def jt:List aF→List Nat→List Nat
 | [],w=>w
 | r::rs,w=>(r.txt++[32])++jt rs w
noncomputable def CW:aF→Bool
 | .e=>true
 | _=>false
theorem La (r:aF) (h:∀ vs,dE Pc 50 496 [.f r.tree] [.lst vs] [] [] [] []=some (.ok (.f (.str r.txt),[.lst vs]),[],[],[])):iF 50 r.tree r.txt:=fun vs k=>aI (h vs) k mn mn mn
theorem Em:iF 50 aF.u.tree aF.u.txt:=La _ fun vs=>by kernel_rfl
theorem Ot:iF 50 aF.a.tree aF.a.txt:=La _ fun vs=>by kernel_rfl
theorem P3:iF 50 aF.n.tree aF.n.txt:=La _ fun vs=>by kernel_rfl
noncomputable def G2 (s:Bool):Bool→List aF→List PA
 | true,[]=>[.auto,.auto,.b false]
 | false,[]=>[]
 | true,r::rs=>.auto::.auto::.auto::(if kS r&&!s then .auto::.auto::.auto::.auto::G2 s (kS r) rs else .auto::G2 s (kS r) rs)
 | false,_::rs=>.auto::G2 s false rs
noncomputable def Jf (vs:List FV):List aF→List aF→List An
 | _::rs,q::qs=>if CW q then Jf vs rs qs else .val (.ok (.f (.str q.txt),[.lst vs]))::Jf vs rs qs
 | _,_=>[]
noncomputable def zE (n:Nat) (vs:List FV):List aF→List aF→List Lg
 | r::rs,q::qs=>if CW q then zE n vs rs qs else .call n 496 [.f r.tree] [.lst vs] (.ok (.f (.str q.txt),[.lst vs]))::zE n vs rs qs
 | _,_=>[]
noncomputable def hR:Bool→List aF→Bool
 | h,[]=>h
 | h,r::rs=>hR (h&&kS r) rs
noncomputable def Oa (kd:List Nat):Option Bool:=(cM .Eq (.f (.str kd)) (.f (.str [83,116,114])))
noncomputable def Qc:FP:={ P0 with mz:=[456],pu:=[] }
noncomputable def lF (rs:List aF) (w:List Nat):List FV:=rs.map (fun r=>FV.str r.txt)++[.str w]
noncomputable def EI (rs:List aF) (M:FV) (s:Bool):FV:=nd [80,114,111,103,114,97,109] [.lst (rs.map aF.tree++[M]),.bool s]
noncomputable def OE (j:Nat) (s:Bool) (kd:List Nat) (ps:List FV) (w:List Nat) (vs:List FV) (rs:List aF):=dE Qc (j + 52) 527 [.f (EI rs (u4 (nd kd ps)) s)] [.lst vs] [] [] [(496,Jf vs rs (b7 s true rs)++[.val (.ok (.f (.str w),[.lst vs]))])] (G2 s true rs)
noncomputable def O6 (j:Nat) (s:Bool) (kd:List Nat) (ps:List FV) (w:List Nat) (vs:List FV) (rs:List aF):Option (O (PV × List MO) × List (LF × FV × LF) × List PU × List Lg):=some (.ok (.f (.str (jt (b7 s true rs) w)),[.lst vs]),[],[],zE (j + 50) vs rs (b7 s true rs)++((if hR true rs then [.pb (Oa kd) false] else [])++[.call (j + 50) 496 [.f (u4 (nd kd ps))] [.lst vs] (.ok (.f (.str w),[.lst vs])),.jn [32] (lF (b7 s true rs) w) (jt (b7 s true rs) w)]))
noncomputable def KW (j:Nat) (s:Bool) (kd:List Nat) (ps:List FV) (w:List Nat) (vs:List FV) (rs:List aF):Prop:=OE j s kd ps w vs rs=O6 j s kd ps w vs rs
noncomputable def jP:aF→aF
 | .a=>.a
 | .n=>.n
 | _=>.u
theorem Fi (r:aF):(jP r).tree=r.tree:=by cases r<;>rfl
theorem Jv (r:aF):kS (jP r)=kS r:=by cases r<;>rfl
theorem FB (s h:Bool) (r:aF):lC s h (jP r)=lC s h r:=by cases r<;>rfl
theorem vD (s:Bool):∀ (h:Bool) (rs:List aF),b7 s h (rs.map jP)=b7 s h rs
 | _,[]=>rfl
 | h,r::rs=>by
  show lC s h (jP r)::b7 s (h&&kS (jP r)) (rs.map jP)=_
  rw[FB,Jv,vD s _ rs];rfl
section
variable (j:Nat) (kd:List Nat) (ps:List FV) (w:List Nat) (vs:List FV)
theorem Fd (s:Bool):(yM [.u,.a,.n] 3).map (OE j s kd ps w vs)=(yM [.u,.a,.n] 3).map (O6 j s kd ps w vs):=by cases s<;>kernel_rfl
theorem Ev (s:Bool) (rs:List aF) (h:rs.length ≤ 3):KW j s kd ps w vs (rs.map jP) :=
 List.map_inj_left.mp (Fd j kd ps w vs s) _ (xM 3 _ (fun r m=>by
  obtain⟨x,_,rfl⟩:=List.mem_map.mp m
  cases x<;>simp[jP]) (by rw[List.length_map];exact h))
end
theorem IQ (s h:Bool):∀ r:aF,CW (lC s h r)=false→iF 50 r.tree (lC s h r).txt
 | .a,_=>Ot
 | .n,_=>P3
 | .e,e=>by cases h<;>cases s<;>first | exact Em | (exact absurd e (by decide))
 | .u,e=>by cases h<;>cases s<;>first | exact Em | (exact absurd e (by decide))
 | .p,e=>by cases h<;>cases s<;>first | exact Em | (exact absurd e (by decide))
theorem D6 (k j:Nat) (vs:List FV) (s:Bool):∀ (h:Bool) (rs:List aF),∀ l ∈ zE (j + 50) vs rs (b7 s h rs),P0.Holds k l
 | _,[]=>mn
 | h,r::rs=>by
  show ∀ l ∈ (if CW (lC s h r) then zE (j + 50) vs rs (b7 s (h&&kS r) rs) else .call (j + 50) 496 [.f r.tree] [.lst vs] (.ok (.f (.str (lC s h r).txt),[.lst vs]))::zE (j + 50) vs rs (b7 s (h&&kS r) rs)),_
  have ih:=D6 k j vs s (h&&kS r) rs
  cases e:CW (lC s h r) with
  | true=>rw[if_pos rfl];exact ih
  | false =>
   rw[if_neg (by decide)]
   refine mc ?_ ih
   show run TT 5000 (k + (j + 50)) 496 [.f r.tree] [.lst vs]=_
   rw[show k + (j + 50)=(k + j) + 50 by omega]
   exact IQ s h r e vs (k + j)
theorem eR (w:List Nat):∀ rs:List aF,∃ n,mY (lF rs w)=some n∧n ≤ rs.length * 20 + w.length
 | []=>⟨w.length + 0,rfl,by simp⟩
 | r::rs=>by
  obtain⟨n,e,h⟩:=eR w rs
  refine⟨r.txt.length + n,?_,?_⟩
  ·show(mY (lF rs w)).bind (fun n=>some (r.txt.length + n))=_
   rw[e];rfl
  ·have:r.txt.length ≤ 20:=by cases r<;>decide
   simp only[List.length];omega
theorem Bz (w:List Nat) (rs:List aF):(lF rs w).length=rs.length + 1:=by simp[lF]
theorem f6 (w:List Nat):∀ rs:List aF,n0 [32] (lF rs w)=some (jt rs w)
 | []=>rfl
 | r::rs=>by
  have ih:=f6 w rs
  cases rs with
  | nil=>rfl
  | cons q qs =>
   show(n0 [32] (lF (q::qs) w)).bind (fun y=>some (r.txt++[32]++y))=_
   rw[ih];rfl
theorem pJ (s:Bool):∀ (h:Bool) (rs:List aF),(b7 s h rs).length=rs.length
 | _,[]=>rfl
 | h,r::rs=>by show(b7 s (h&&kS r) rs).length + 1=_;rw[pJ s _ rs];rfl
theorem JJ {rs:List aF} (hl:rs.length ≤ 3) (s:Bool) {kd:List Nat}{ps:List FV}{w:List Nat} (hk:gF kd [83,116,114]=false) (hw:w.length ≤ 2000) {j:Nat} (h:iF (j + 50) (u4 (nd kd ps)) w) (vs:List FV) (k:Nat) :
  run TT 5000 (k + (j + 52)) 527 [.f (EI rs (u4 (nd kd ps)) s)] [.lst vs]=.ok (.f (.str (jt (b7 s true rs) w)),[.lst vs]):=by
 have e:=Ev j kd ps w vs s rs hl
 have et:(rs.map jP).map aF.tree=rs.map aF.tree:=by rw[List.map_map];exact List.map_congr_left fun r _=>Fi r
 have hlc:(rs.map jP).length ≤ 3:=by rw[List.length_map];exact hl
 have H2:∀ l ∈ (if hR true (rs.map jP) then [Lg.pb (Oa kd) false] else []),P0.Holds k l:=by
  split
  ·exact mc (by show(some (gF kd [83,116,114]))=_;rw[hk]) mn
  ·exact mn
 have H3:P0.Holds k (.jn [32] (lF (b7 s true (rs.map jP)) w) (jt (b7 s true (rs.map jP)) w)):=by
  obtain⟨n,e1,h1⟩:=eR w (b7 s true (rs.map jP))
  have h2:=pJ s true (rs.map jP)
  refine fK (w:=w) e1 (f6 w _) hw ?_
  rw[Bz,h2]
  rw[h2]at h1
  have:[32].length=1:=rfl
  rw[this]
  omega
 have e':=aI e k mn mn (eB (D6 k j vs s true (rs.map jP)) (eB H2 (mc (h vs k) (mc H3 mn))))
 rw[vD]at e'
 unfold EI at e' ⊢
 rw[et]at e'
 exact e'
end Mine
end
section
namespace Mine
noncomputable def iL (xs:List Int):List FV:=xs.map .int
noncomputable def aA (xs:List Int) (k c:Int):List FV:=[.lst (iL xs),.int k,.int c]
noncomputable def lP:FP:={ P0 with pz:=[1505],pu:=[] }
noncomputable def eP (xs:List FV):St→Option PV:=fun st=>oZ TT .len [.f (.lst xs)] st
theorem IT {xs:List FV} (h:xs.length ≤ 10000):∀ st,eP xs st=some (.f (.int xs.length)):=kF h
noncomputable def kX (a b:Int):Option Bool:=(cM .LtE (.f (.int a)) (.f (.int b)))
noncomputable def oG (xs:List Int) (c:Int) (k m:Int):Prop:=∃ i:Nat,(i:Int) < m∧∀ n,run TT 5000 (n + 10) 1505 [.ref 0,.f (.int m)] [.lst (aA xs k c)]=.ok (.f (.int i),[.lst (aA xs (k + 1) c)])
theorem cR (y m:Int) (h:0 < m):∃ i:Nat,(i:Int) < m∧Int.fmod y m=i:=by
 have h1:=Int.fmod_nonneg_of_pos y h
 have h2:=Int.fmod_lt_of_pos y h
 exact⟨(Int.fmod y m).toNat,by omega,by omega⟩
theorem lD (xs:List Int):(iL xs).length=xs.length:=by simp[iL]
theorem Lh:∀ (xs:List Int) (k:Nat),k < xs.length→∃ y,nth (iL xs) k=some (.int y)
 | x::_,0,_=>⟨x,rfl⟩
 | _::xs,k + 1,h=>Lh xs k (by simp only[List.length]at h;omega)
theorem getL {xs:List Int}{k:Nat} (h:k < xs.length) (hl:xs.length ≤ 100):∃ y,∀ st,bJ (.f (.lst (iL xs))) (.f (.int (Int.ofNat k))) st=some (.f (.int y)):=by
 obtain⟨y,e⟩:=Lh xs k h
 refine⟨y,fun st=>?_⟩
 show wM (Int.ofNat k) (iL xs)=_
 have h1:Nat.blt k (iL xs).length=true:=Nat.ble_eq_true_of_le (by rw[lD];exact h)
 have h2:fits k=true:=cO (by omega)
 show(gd (Nat.blt k (iL xs).length) (gd (fits k) (some k))).bind (fun j=>(nth (iL xs) j).bind fun y=>some (PV.f y))=_
 rw[h1,h2]
 show(nth (iL xs) k).bind _=_
 rw[e];rfl
theorem iD {xs:List Int} (hl:xs.length ≤ 100):∀ st,eP (iL xs) st=some (.f (.int xs.length)):=by
 have:=IT (xs:=iL xs) (by rw[lD];omega)
 rw[lD]at this
 exact this
theorem eF {a b:Int}{v:Bool} (h:decide (a ≤ b)=v):kX a b=some v:=by
 show(some (decide (a ≤ b)))=_
 rw[h]
theorem NS (xs:List Int) (c:Int) (hl:xs.length ≤ 100):oG xs c 0 9:=by
 by_cases h:(1:Int) ≤ xs.length
 ·obtain⟨y,hy⟩:=getL (xs:=xs) (k:=0) (by omega) hl
  obtain⟨i,h1,h2⟩:=cR y 9 (by decide)
  refine⟨i,h1,fun n=>?_⟩
  rw[← h2]
  exact aI (P:=lP) (n:=10) (q:=[]) (pu:=[]) (nl:=[]) (ul:=[]) (cuts:=[]) (ps:=[.auto,.auto,.auto,.auto,.v (.f (.int xs.length)),.b true,.auto,.auto,.auto,.v (.f (.int y)),.auto])
   (cl:=[.pv (eP (iL xs)) (.f (.int xs.length)),.pb (kX 1 xs.length) true,.pv (bJ (.f (.lst (iL xs))) (.f (.int (Int.ofNat 0)))) (.f (.int y))]) (by kernel_rfl) n mn mn
   (mc (iD hl) (mc (eF (decide_eq_true h)) (mc hy mn)))
 ·obtain⟨i,h1,h2⟩:=cR (3 + c) 9 (by decide)
  refine⟨i,h1,fun n=>?_⟩
  rw[← h2]
  exact aI (P:=lP) (n:=10) (q:=[]) (pu:=[]) (nl:=[]) (ul:=[]) (cuts:=[]) (ps:=[.auto,.auto,.auto,.auto,.v (.f (.int xs.length)),.b false])
   (cl:=[.pv (eP (iL xs)) (.f (.int xs.length)),.pb (kX 1 xs.length) false]) (by kernel_rfl) n mn mn
   (mc (iD hl) (mc (eF (decide_eq_false h)) mn))
theorem MC (xs:List Int) (c:Int) (hl:xs.length ≤ 100):oG xs c 1 8:=by
 by_cases h:(2:Int) ≤ xs.length
 ·obtain⟨y,hy⟩:=getL (xs:=xs) (k:=1) (by omega) hl
  obtain⟨i,h1,h2⟩:=cR y 8 (by decide)
  refine⟨i,h1,fun n=>?_⟩
  rw[← h2]
  exact aI (P:=lP) (n:=10) (q:=[]) (pu:=[]) (nl:=[]) (ul:=[]) (cuts:=[]) (ps:=[.auto,.auto,.auto,.auto,.v (.f (.int xs.length)),.b true,.auto,.auto,.auto,.v (.f (.int y)),.auto])
   (cl:=[.pv (eP (iL xs)) (.f (.int xs.length)),.pb (kX 2 xs.length) true,.pv (bJ (.f (.lst (iL xs))) (.f (.int (Int.ofNat 1)))) (.f (.int y))]) (by kernel_rfl) n mn mn
   (mc (iD hl) (mc (eF (decide_eq_true h)) (mc hy mn)))
 ·obtain⟨i,h1,h2⟩:=cR (7 + c) 8 (by decide)
  refine⟨i,h1,fun n=>?_⟩
  rw[← h2]
  exact aI (P:=lP) (n:=10) (q:=[]) (pu:=[]) (nl:=[]) (ul:=[]) (cuts:=[]) (ps:=[.auto,.auto,.auto,.auto,.v (.f (.int xs.length)),.b false])
   (cl:=[.pv (eP (iL xs)) (.f (.int xs.length)),.pb (kX 2 xs.length) false]) (by kernel_rfl) n mn mn
   (mc (iD hl) (mc (eF (decide_eq_false h)) mn))
theorem NO (xs:List Int) (c:Int) (hl:xs.length ≤ 100):oG xs c 2 6:=by
 by_cases h:(3:Int) ≤ xs.length
 ·obtain⟨y,hy⟩:=getL (xs:=xs) (k:=2) (by omega) hl
  obtain⟨i,h1,h2⟩:=cR y 6 (by decide)
  refine⟨i,h1,fun n=>?_⟩
  rw[← h2]
  exact aI (P:=lP) (n:=10) (q:=[]) (pu:=[]) (nl:=[]) (ul:=[]) (cuts:=[]) (ps:=[.auto,.auto,.auto,.auto,.v (.f (.int xs.length)),.b true,.auto,.auto,.auto,.v (.f (.int y)),.auto])
   (cl:=[.pv (eP (iL xs)) (.f (.int xs.length)),.pb (kX 3 xs.length) true,.pv (bJ (.f (.lst (iL xs))) (.f (.int (Int.ofNat 2)))) (.f (.int y))]) (by kernel_rfl) n mn mn
   (mc (iD hl) (mc (eF (decide_eq_true h)) (mc hy mn)))
 ·obtain⟨i,h1,h2⟩:=cR (11 + c) 6 (by decide)
  refine⟨i,h1,fun n=>?_⟩
  rw[← h2]
  exact aI (P:=lP) (n:=10) (q:=[]) (pu:=[]) (nl:=[]) (ul:=[]) (cuts:=[]) (ps:=[.auto,.auto,.auto,.auto,.v (.f (.int xs.length)),.b false])
   (cl:=[.pv (eP (iL xs)) (.f (.int xs.length)),.pb (kX 3 xs.length) false]) (by kernel_rfl) n mn mn
   (mc (iD hl) (mc (eF (decide_eq_false h)) mn))
theorem NC (xs:List Int) (c:Int) (hl:xs.length ≤ 100):oG xs c 3 4:=by
 by_cases h:(4:Int) ≤ xs.length
 ·obtain⟨y,hy⟩:=getL (xs:=xs) (k:=3) (by omega) hl
  obtain⟨i,h1,h2⟩:=cR y 4 (by decide)
  refine⟨i,h1,fun n=>?_⟩
  rw[← h2]
  exact aI (P:=lP) (n:=10) (q:=[]) (pu:=[]) (nl:=[]) (ul:=[]) (cuts:=[]) (ps:=[.auto,.auto,.auto,.auto,.v (.f (.int xs.length)),.b true,.auto,.auto,.auto,.v (.f (.int y)),.auto])
   (cl:=[.pv (eP (iL xs)) (.f (.int xs.length)),.pb (kX 4 xs.length) true,.pv (bJ (.f (.lst (iL xs))) (.f (.int (Int.ofNat 3)))) (.f (.int y))]) (by kernel_rfl) n mn mn
   (mc (iD hl) (mc (eF (decide_eq_true h)) (mc hy mn)))
 ·obtain⟨i,h1,h2⟩:=cR (16 + c) 4 (by decide)
  refine⟨i,h1,fun n=>?_⟩
  rw[← h2]
  exact aI (P:=lP) (n:=10) (q:=[]) (pu:=[]) (nl:=[]) (ul:=[]) (cuts:=[]) (ps:=[.auto,.auto,.auto,.auto,.v (.f (.int xs.length)),.b false])
   (cl:=[.pv (eP (iL xs)) (.f (.int xs.length)),.pb (kX 4 xs.length) false]) (by kernel_rfl) n mn mn
   (mc (iD hl) (mc (eF (decide_eq_false h)) mn))
theorem N9 (xs:List Int) (c:Int) (hl:xs.length ≤ 100):oG xs c 4 5:=by
 by_cases h:(5:Int) ≤ xs.length
 ·obtain⟨y,hy⟩:=getL (xs:=xs) (k:=4) (by omega) hl
  obtain⟨i,h1,h2⟩:=cR y 5 (by decide)
  refine⟨i,h1,fun n=>?_⟩
  rw[← h2]
  exact aI (P:=lP) (n:=10) (q:=[]) (pu:=[]) (nl:=[]) (ul:=[]) (cuts:=[]) (ps:=[.auto,.auto,.auto,.auto,.v (.f (.int xs.length)),.b true,.auto,.auto,.auto,.v (.f (.int y)),.auto])
   (cl:=[.pv (eP (iL xs)) (.f (.int xs.length)),.pb (kX 5 xs.length) true,.pv (bJ (.f (.lst (iL xs))) (.f (.int (Int.ofNat 4)))) (.f (.int y))]) (by kernel_rfl) n mn mn
   (mc (iD hl) (mc (eF (decide_eq_true h)) (mc hy mn)))
 ·obtain⟨i,h1,h2⟩:=cR (21 + c) 5 (by decide)
  refine⟨i,h1,fun n=>?_⟩
  rw[← h2]
  exact aI (P:=lP) (n:=10) (q:=[]) (pu:=[]) (nl:=[]) (ul:=[]) (cuts:=[]) (ps:=[.auto,.auto,.auto,.auto,.v (.f (.int xs.length)),.b false])
   (cl:=[.pv (eP (iL xs)) (.f (.int xs.length)),.pb (kX 5 xs.length) false]) (by kernel_rfl) n mn mn
   (mc (iD hl) (mc (eF (decide_eq_false h)) mn))
theorem MU (xs:List Int) (c:Int) (hl:xs.length ≤ 100):oG xs c 5 5:=by
 by_cases h:(6:Int) ≤ xs.length
 ·obtain⟨y,hy⟩:=getL (xs:=xs) (k:=5) (by omega) hl
  obtain⟨i,h1,h2⟩:=cR y 5 (by decide)
  refine⟨i,h1,fun n=>?_⟩
  rw[← h2]
  exact aI (P:=lP) (n:=10) (q:=[]) (pu:=[]) (nl:=[]) (ul:=[]) (cuts:=[]) (ps:=[.auto,.auto,.auto,.auto,.v (.f (.int xs.length)),.b true,.auto,.auto,.auto,.v (.f (.int y)),.auto])
   (cl:=[.pv (eP (iL xs)) (.f (.int xs.length)),.pb (kX 6 xs.length) true,.pv (bJ (.f (.lst (iL xs))) (.f (.int (Int.ofNat 5)))) (.f (.int y))]) (by kernel_rfl) n mn mn
   (mc (iD hl) (mc (eF (decide_eq_true h)) (mc hy mn)))
 ·obtain⟨i,h1,h2⟩:=cR (27 + c) 5 (by decide)
  refine⟨i,h1,fun n=>?_⟩
  rw[← h2]
  exact aI (P:=lP) (n:=10) (q:=[]) (pu:=[]) (nl:=[]) (ul:=[]) (cuts:=[]) (ps:=[.auto,.auto,.auto,.auto,.v (.f (.int xs.length)),.b false])
   (cl:=[.pv (eP (iL xs)) (.f (.int xs.length)),.pb (kX 6 xs.length) false]) (by kernel_rfl) n mn mn
   (mc (iD hl) (mc (eF (decide_eq_false h)) mn))
theorem NP (xs:List Int) (c:Int) (hl:xs.length ≤ 100):oG xs c 6 5:=by
 by_cases h:(7:Int) ≤ xs.length
 ·obtain⟨y,hy⟩:=getL (xs:=xs) (k:=6) (by omega) hl
  obtain⟨i,h1,h2⟩:=cR y 5 (by decide)
  refine⟨i,h1,fun n=>?_⟩
  rw[← h2]
  exact aI (P:=lP) (n:=10) (q:=[]) (pu:=[]) (nl:=[]) (ul:=[]) (cuts:=[]) (ps:=[.auto,.auto,.auto,.auto,.v (.f (.int xs.length)),.b true,.auto,.auto,.auto,.v (.f (.int y)),.auto])
   (cl:=[.pv (eP (iL xs)) (.f (.int xs.length)),.pb (kX 7 xs.length) true,.pv (bJ (.f (.lst (iL xs))) (.f (.int (Int.ofNat 6)))) (.f (.int y))]) (by kernel_rfl) n mn mn
   (mc (iD hl) (mc (eF (decide_eq_true h)) (mc hy mn)))
 ·obtain⟨i,h1,h2⟩:=cR (33 + c) 5 (by decide)
  refine⟨i,h1,fun n=>?_⟩
  rw[← h2]
  exact aI (P:=lP) (n:=10) (q:=[]) (pu:=[]) (nl:=[]) (ul:=[]) (cuts:=[]) (ps:=[.auto,.auto,.auto,.auto,.v (.f (.int xs.length)),.b false])
   (cl:=[.pv (eP (iL xs)) (.f (.int xs.length)),.pb (kX 7 xs.length) false]) (by kernel_rfl) n mn mn
   (mc (iD hl) (mc (eF (decide_eq_false h)) mn))
end Mine
end
section
namespace Mine
noncomputable def vG:FP:={ P0 with mz:=[1524],pu:=[] }
noncomputable def gl (x:String):FV:=match lk (Str.ofString x) TT.glob with
 | some v=>v
 | none=>.none
noncomputable def qD:FV:=gl "_law_leads"
noncomputable def pV:FV:=gl "_law_cores"
noncomputable def f9:FV:=gl "_law_ahead"
noncomputable def b8 (xs:List Int):St:=⟨[],[],[(Str.ofString "script",.f (.lst (iL xs)))],[]⟩
noncomputable def uC (xs:List FV):St→Option PV:=fun st=>oZ TT .sum [.f (.lst xs)] st
noncomputable def wF (n:Int):St→Option PV:=fun _=>((BS .Mult (.str [33]) (.int n))).bind fun z=>some (.f z)
noncomputable def nV (L:Int):FV:=.lst [.int L,.int (L + 1),.int (L - 1),.int 2,.int 0,.int 1]
noncomputable def tN (a b:Int):Option Bool:=(cM .Gt (.f (.int a)) (.f (.int b)))
noncomputable def CD (s:Bool):Option Bool:=(cM .NotEq (.f (.bool s)) (.f (.bool s)))
noncomputable def DT (s:Bool):Option Bool:=(cM .Eq (.f (.bool s)) (.f (.bool s)))
noncomputable def cJ (ts:List FV) (s:Bool):FV:=nd [80,114,111,103,114,97,109] [.lst ts,.bool s]
noncomputable def Ln (j:Nat) (xs zs:List Int) (sm i1 i2 i3 bs dp:Int) (mn:Nat) (b e co bg:List Nat):List Lg:=[.ps (eH false (.f (.lst (iL xs))) none (some 20) (b8 xs)) (.f (.lst (iL zs)),b8 xs),.ps (jR TT .list 1428 [.f (.lst (iL zs))] (b8 xs)) (.f (.lst (iL zs)),b8 xs),.ps (eH false (.f (.lst (iL xs))) none (some 20) (b8 xs)) (.f (.lst (iL zs)),b8 xs),.pv (uC (iL zs)) (.f (.int sm)),.call j 1505 [.ref 0,.f (.int 9)] [.lst (aA zs 0 (Int.fmod sm 997))] (.ok (.f (.int i1),[.lst (aA zs 1 (Int.fmod sm 997))])),.pv (bJ (.f qD) (.f (.int i1))) (.f (.tup [.str b,.str e,.int bs])),.call j 1505 [.ref 0,.f (.int 8)] [.lst (aA zs 1 (Int.fmod sm 997))] (.ok (.f (.int i2),[.lst (aA zs 2 (Int.fmod sm 997))])),.pv (bJ (.f pV) (.f (.int i2))) (.f (.tup [.str co,.int dp])),.call j 1505 [.ref 0,.f (.int 6)] [.lst (aA zs 2 (Int.fmod sm 997))] (.ok (.f (.int i3),[.lst (aA zs 3 (Int.fmod sm 997))])),.pv (bJ (.f (nV (40 - bs - dp))) (.f (.int i3))) (.f (.int (Int.ofNat mn))),.call j 1505 [.ref 0,.f (.int 4)] [.lst (aA zs 3 (Int.fmod sm 997))] (.ok (.f (.int 0),[.lst (aA zs 4 (Int.fmod sm 997))])),.pv (wF (Int.ofNat mn)) (.f (.str bg)),.ct b bg,.ct (b++bg) co,.ct ((b++bg)++co) e,.jn [32] [.str (((b++bg)++co)++e)] (((b++bg)++co)++e)]
theorem Rp (j:Nat) (xs zs:List Int) (sm i1 i2 i3 bs dp:Int) (mn:Nat) (b e co bg:List Nat) (ts:List FV) (s:Bool) (t2:List Nat):dE vG (j + 1) 1524 [.f (.lst (iL xs))] [] [] [] [(1505,[.val (.ok (.f (.int i1),[.lst (aA zs 1 (Int.fmod sm 997))])),.val (.ok (.f (.int i2),[.lst (aA zs 2 (Int.fmod sm 997))])),.val (.ok (.f (.int i3),[.lst (aA zs 3 (Int.fmod sm 997))])),.val (.ok (.f (.int 0),[.lst (aA zs 4 (Int.fmod sm 997))]))]),(1512,[.val (.ok (.f (cJ ts s),[.lst (aA zs 4 (Int.fmod sm 997))])),.val (.ok (.f (cJ ts s),[.lst (aA zs 4 (Int.fmod sm 997))]))]),(1519,[.val (.ok (.f (.bool s),[.lst (aA zs 4 (Int.fmod sm 997))]))]),(527,[.val (.ok (.f (.str t2),[.lst (aA zs 4 (Int.fmod sm 997))])),.val (.ok (.f (.str t2),[.lst (aA zs 4 (Int.fmod sm 997))]))]),(61,[.val (.ok (.f (.bool true),[.lst (aA zs 4 (Int.fmod sm 997))]))])]
  ([.s (.f (.lst (iL zs)),b8 xs),.s (.f (.lst (iL zs)),b8 xs),.s (.f (.lst (iL zs)),b8 xs),.v (.f (.int sm)),.auto,.v (.f (.tup [.str b,.str e,.int bs])),.v (.f (.tup [.str co,.int dp])),.auto,.auto,.auto,.auto,.v (.f (.int (Int.ofNat mn))),.v (.f (.str bg)),.auto,.b false,.auto,.auto,.b false,.auto,.auto,.auto,.b true,.b true])
 = some (.ok (.f (.bool true),[]),[],[],Ln j xs zs sm i1 i2 i3 bs dp mn b e co bg++[.call j 1512 [.f (.str (((b++bg)++co)++e))] [.lst (aA zs 4 (Int.fmod sm 997))] (.ok (.f (cJ ts s),[.lst (aA zs 4 (Int.fmod sm 997))])),.pb (tN (Int.ofNat mn) (40 - bs - dp)) false,.call j 1519 [.f (.lst [])] [.lst (aA zs 4 (Int.fmod sm 997))] (.ok (.f (.bool s),[.lst (aA zs 4 (Int.fmod sm 997))])),.pb (CD s) false,.call j 527 [.f (cJ ts s)] [.lst (aA zs 4 (Int.fmod sm 997))] (.ok (.f (.str t2),[.lst (aA zs 4 (Int.fmod sm 997))])),.call j 1512 [.f (.str t2)] [.lst (aA zs 4 (Int.fmod sm 997))] (.ok (.f (cJ ts s),[.lst (aA zs 4 (Int.fmod sm 997))])),.call j 61 [.f (cJ ts s),.f (cJ ts s)] [.lst (aA zs 4 (Int.fmod sm 997))] (.ok (.f (.bool true),[.lst (aA zs 4 (Int.fmod sm 997))])),.pb (DT s) true,.call j 527 [.f (cJ ts s)] [.lst (aA zs 4 (Int.fmod sm 997))] (.ok (.f (.str t2),[.lst (aA zs 4 (Int.fmod sm 997))])),.pb (xW (.str t2)) true]):=by
 kernel_rfl
theorem QR (j:Nat) (xs zs:List Int) (sm i1 i2 i3 bs dp:Int) (mn:Nat) (b e co bg:List Nat):dE vG (j + 1) 1524 [.f (.lst (iL xs))] [] [] [] [(1505,[.val (.ok (.f (.int i1),[.lst (aA zs 1 (Int.fmod sm 997))])),.val (.ok (.f (.int i2),[.lst (aA zs 2 (Int.fmod sm 997))])),.val (.ok (.f (.int i3),[.lst (aA zs 3 (Int.fmod sm 997))])),.val (.ok (.f (.int 0),[.lst (aA zs 4 (Int.fmod sm 997))]))]),(1512,[.val (.ok (.f .none,[.lst (aA zs 4 (Int.fmod sm 997))]))])]
  ([.s (.f (.lst (iL zs)),b8 xs),.s (.f (.lst (iL zs)),b8 xs),.s (.f (.lst (iL zs)),b8 xs),.v (.f (.int sm)),.auto,.v (.f (.tup [.str b,.str e,.int bs])),.v (.f (.tup [.str co,.int dp])),.auto,.auto,.auto,.auto,.v (.f (.int (Int.ofNat mn))),.v (.f (.str bg)),.auto,.b true,.auto])
 = some (.ok (.f (.bool true),[]),[],[],Ln j xs zs sm i1 i2 i3 bs dp mn b e co bg++[.call j 1512 [.f (.str (((b++bg)++co)++e))] [.lst (aA zs 4 (Int.fmod sm 997))] (.ok (.f .none,[.lst (aA zs 4 (Int.fmod sm 997))])),.pb (tN (Int.ofNat mn) (40 - bs - dp)) true]):=by
 kernel_rfl
noncomputable def KK (j:Nat) (xs zs:List Int) (sm i1 i2 i3 bs dp:Int) (mn:Nat) (b e co bg:List Nat) (q0:Int) (r0:List Nat):List Lg:=[.ps (eH false (.f (.lst (iL xs))) none (some 20) (b8 xs)) (.f (.lst (iL zs)),b8 xs),.ps (jR TT .list 1428 [.f (.lst (iL zs))] (b8 xs)) (.f (.lst (iL zs)),b8 xs),.ps (eH false (.f (.lst (iL xs))) none (some 20) (b8 xs)) (.f (.lst (iL zs)),b8 xs),.pv (uC (iL zs)) (.f (.int sm)),.call j 1505 [.ref 0,.f (.int 9)] [.lst (aA zs 0 (Int.fmod sm 997))] (.ok (.f (.int i1),[.lst (aA zs 1 (Int.fmod sm 997))])),.pv (bJ (.f qD) (.f (.int i1))) (.f (.tup [.str b,.str e,.int bs])),.call j 1505 [.ref 0,.f (.int 8)] [.lst (aA zs 1 (Int.fmod sm 997))] (.ok (.f (.int i2),[.lst (aA zs 2 (Int.fmod sm 997))])),.pv (bJ (.f pV) (.f (.int i2))) (.f (.tup [.str co,.int dp])),.call j 1505 [.ref 0,.f (.int 6)] [.lst (aA zs 2 (Int.fmod sm 997))] (.ok (.f (.int i3),[.lst (aA zs 3 (Int.fmod sm 997))])),.pv (bJ (.f (nV (40 - bs - dp))) (.f (.int i3))) (.f (.int (Int.ofNat mn))),.call j 1505 [.ref 0,.f (.int 4)] [.lst (aA zs 3 (Int.fmod sm 997))] (.ok (.f (.int 1),[.lst (aA zs 4 (Int.fmod sm 997))])),.call j 1505 [.ref 0,.f (.int 5)] [.lst (aA zs 4 (Int.fmod sm 997))] (.ok (.f (.int q0),[.lst (aA zs 5 (Int.fmod sm 997))])),.pv (bJ (.f f9) (.f (.int q0))) (.f (.str r0)),.pv (wF (Int.ofNat mn)) (.f (.str bg)),.ct b bg,.ct (b++bg) co,.ct ((b++bg)++co) e,.jn [32] [.str r0,.str (((b++bg)++co)++e)] ((r0++[32])++(((b++bg)++co)++e))]
theorem RH (j:Nat) (xs zs:List Int) (sm i1 i2 i3 bs dp:Int) (mn:Nat) (b e co bg:List Nat) (q0:Int) (r0:List Nat) (ts:List FV) (s:Bool) (t2:List Nat):dE vG (j + 1) 1524 [.f (.lst (iL xs))] [] [] [] [(1505,[.val (.ok (.f (.int i1),[.lst (aA zs 1 (Int.fmod sm 997))])),.val (.ok (.f (.int i2),[.lst (aA zs 2 (Int.fmod sm 997))])),.val (.ok (.f (.int i3),[.lst (aA zs 3 (Int.fmod sm 997))])),.val (.ok (.f (.int 1),[.lst (aA zs 4 (Int.fmod sm 997))])),.val (.ok (.f (.int q0),[.lst (aA zs 5 (Int.fmod sm 997))]))]),(1512,[.val (.ok (.f (cJ ts s),[.lst (aA zs 5 (Int.fmod sm 997))])),.val (.ok (.f (cJ ts s),[.lst (aA zs 5 (Int.fmod sm 997))]))]),(1519,[.val (.ok (.f (.bool s),[.lst (aA zs 5 (Int.fmod sm 997))]))]),(527,[.val (.ok (.f (.str t2),[.lst (aA zs 5 (Int.fmod sm 997))])),.val (.ok (.f (.str t2),[.lst (aA zs 5 (Int.fmod sm 997))]))]),(61,[.val (.ok (.f (.bool true),[.lst (aA zs 5 (Int.fmod sm 997))]))])]
  ([.s (.f (.lst (iL zs)),b8 xs),.s (.f (.lst (iL zs)),b8 xs),.s (.f (.lst (iL zs)),b8 xs),.v (.f (.int sm)),.auto,.v (.f (.tup [.str b,.str e,.int bs])),.v (.f (.tup [.str co,.int dp])),.auto,.auto,.auto,.auto,.v (.f (.int (Int.ofNat mn))),.v (.f (.str r0)),.v (.f (.str bg)),.auto,.b false,.auto,.auto,.b false,.auto,.auto,.auto,.b true,.b true])
 = some (.ok (.f (.bool true),[]),[],[],KK j xs zs sm i1 i2 i3 bs dp mn b e co bg q0 r0++[.call j 1512 [.f (.str ((r0++[32])++(((b++bg)++co)++e)))] [.lst (aA zs 5 (Int.fmod sm 997))] (.ok (.f (cJ ts s),[.lst (aA zs 5 (Int.fmod sm 997))])),.pb (tN (Int.ofNat mn) (40 - bs - dp)) false,.call j 1519 [.f (.lst [.str r0])] [.lst (aA zs 5 (Int.fmod sm 997))] (.ok (.f (.bool s),[.lst (aA zs 5 (Int.fmod sm 997))])),.pb (CD s) false,.call j 527 [.f (cJ ts s)] [.lst (aA zs 5 (Int.fmod sm 997))] (.ok (.f (.str t2),[.lst (aA zs 5 (Int.fmod sm 997))])),.call j 1512 [.f (.str t2)] [.lst (aA zs 5 (Int.fmod sm 997))] (.ok (.f (cJ ts s),[.lst (aA zs 5 (Int.fmod sm 997))])),.call j 61 [.f (cJ ts s),.f (cJ ts s)] [.lst (aA zs 5 (Int.fmod sm 997))] (.ok (.f (.bool true),[.lst (aA zs 5 (Int.fmod sm 997))])),.pb (DT s) true,.call j 527 [.f (cJ ts s)] [.lst (aA zs 5 (Int.fmod sm 997))] (.ok (.f (.str t2),[.lst (aA zs 5 (Int.fmod sm 997))])),.pb (xW (.str t2)) true]):=by
 kernel_rfl
theorem Qd (j:Nat) (xs zs:List Int) (sm i1 i2 i3 bs dp:Int) (mn:Nat) (b e co bg:List Nat) (q0:Int) (r0:List Nat):dE vG (j + 1) 1524 [.f (.lst (iL xs))] [] [] [] [(1505,[.val (.ok (.f (.int i1),[.lst (aA zs 1 (Int.fmod sm 997))])),.val (.ok (.f (.int i2),[.lst (aA zs 2 (Int.fmod sm 997))])),.val (.ok (.f (.int i3),[.lst (aA zs 3 (Int.fmod sm 997))])),.val (.ok (.f (.int 1),[.lst (aA zs 4 (Int.fmod sm 997))])),.val (.ok (.f (.int q0),[.lst (aA zs 5 (Int.fmod sm 997))]))]),(1512,[.val (.ok (.f .none,[.lst (aA zs 5 (Int.fmod sm 997))]))])]
  ([.s (.f (.lst (iL zs)),b8 xs),.s (.f (.lst (iL zs)),b8 xs),.s (.f (.lst (iL zs)),b8 xs),.v (.f (.int sm)),.auto,.v (.f (.tup [.str b,.str e,.int bs])),.v (.f (.tup [.str co,.int dp])),.auto,.auto,.auto,.auto,.v (.f (.int (Int.ofNat mn))),.v (.f (.str r0)),.v (.f (.str bg)),.auto,.b true,.auto])
 = some (.ok (.f (.bool true),[]),[],[],KK j xs zs sm i1 i2 i3 bs dp mn b e co bg q0 r0++[.call j 1512 [.f (.str ((r0++[32])++(((b++bg)++co)++e)))] [.lst (aA zs 5 (Int.fmod sm 997))] (.ok (.f .none,[.lst (aA zs 5 (Int.fmod sm 997))])),.pb (tN (Int.ofNat mn) (40 - bs - dp)) true]):=by
 kernel_rfl
noncomputable def LH (j:Nat) (xs zs:List Int) (sm i1 i2 i3 bs dp:Int) (mn:Nat) (b e co bg:List Nat) (q0:Int) (r0:List Nat) (q1:Int) (r1:List Nat):List Lg:=[.ps (eH false (.f (.lst (iL xs))) none (some 20) (b8 xs)) (.f (.lst (iL zs)),b8 xs),.ps (jR TT .list 1428 [.f (.lst (iL zs))] (b8 xs)) (.f (.lst (iL zs)),b8 xs),.ps (eH false (.f (.lst (iL xs))) none (some 20) (b8 xs)) (.f (.lst (iL zs)),b8 xs),.pv (uC (iL zs)) (.f (.int sm)),.call j 1505 [.ref 0,.f (.int 9)] [.lst (aA zs 0 (Int.fmod sm 997))] (.ok (.f (.int i1),[.lst (aA zs 1 (Int.fmod sm 997))])),.pv (bJ (.f qD) (.f (.int i1))) (.f (.tup [.str b,.str e,.int bs])),.call j 1505 [.ref 0,.f (.int 8)] [.lst (aA zs 1 (Int.fmod sm 997))] (.ok (.f (.int i2),[.lst (aA zs 2 (Int.fmod sm 997))])),.pv (bJ (.f pV) (.f (.int i2))) (.f (.tup [.str co,.int dp])),.call j 1505 [.ref 0,.f (.int 6)] [.lst (aA zs 2 (Int.fmod sm 997))] (.ok (.f (.int i3),[.lst (aA zs 3 (Int.fmod sm 997))])),.pv (bJ (.f (nV (40 - bs - dp))) (.f (.int i3))) (.f (.int (Int.ofNat mn))),.call j 1505 [.ref 0,.f (.int 4)] [.lst (aA zs 3 (Int.fmod sm 997))] (.ok (.f (.int 2),[.lst (aA zs 4 (Int.fmod sm 997))])),.call j 1505 [.ref 0,.f (.int 5)] [.lst (aA zs 4 (Int.fmod sm 997))] (.ok (.f (.int q0),[.lst (aA zs 5 (Int.fmod sm 997))])),.pv (bJ (.f f9) (.f (.int q0))) (.f (.str r0)),.call j 1505 [.ref 0,.f (.int 5)] [.lst (aA zs 5 (Int.fmod sm 997))] (.ok (.f (.int q1),[.lst (aA zs 6 (Int.fmod sm 997))])),.pv (bJ (.f f9) (.f (.int q1))) (.f (.str r1)),.pv (wF (Int.ofNat mn)) (.f (.str bg)),.ct b bg,.ct (b++bg) co,.ct ((b++bg)++co) e,.jn [32] [.str r0,.str r1,.str (((b++bg)++co)++e)] ((r0++[32])++((r1++[32])++(((b++bg)++co)++e)))]
theorem Rx (j:Nat) (xs zs:List Int) (sm i1 i2 i3 bs dp:Int) (mn:Nat) (b e co bg:List Nat) (q0:Int) (r0:List Nat) (q1:Int) (r1:List Nat) (ts:List FV) (s:Bool) (t2:List Nat):dE vG (j + 1) 1524 [.f (.lst (iL xs))] [] [] [] [(1505,[.val (.ok (.f (.int i1),[.lst (aA zs 1 (Int.fmod sm 997))])),.val (.ok (.f (.int i2),[.lst (aA zs 2 (Int.fmod sm 997))])),.val (.ok (.f (.int i3),[.lst (aA zs 3 (Int.fmod sm 997))])),.val (.ok (.f (.int 2),[.lst (aA zs 4 (Int.fmod sm 997))])),.val (.ok (.f (.int q0),[.lst (aA zs 5 (Int.fmod sm 997))])),.val (.ok (.f (.int q1),[.lst (aA zs 6 (Int.fmod sm 997))]))]),(1512,[.val (.ok (.f (cJ ts s),[.lst (aA zs 6 (Int.fmod sm 997))])),.val (.ok (.f (cJ ts s),[.lst (aA zs 6 (Int.fmod sm 997))]))]),(1519,[.val (.ok (.f (.bool s),[.lst (aA zs 6 (Int.fmod sm 997))]))]),(527,[.val (.ok (.f (.str t2),[.lst (aA zs 6 (Int.fmod sm 997))])),.val (.ok (.f (.str t2),[.lst (aA zs 6 (Int.fmod sm 997))]))]),(61,[.val (.ok (.f (.bool true),[.lst (aA zs 6 (Int.fmod sm 997))]))])]
  ([.s (.f (.lst (iL zs)),b8 xs),.s (.f (.lst (iL zs)),b8 xs),.s (.f (.lst (iL zs)),b8 xs),.v (.f (.int sm)),.auto,.v (.f (.tup [.str b,.str e,.int bs])),.v (.f (.tup [.str co,.int dp])),.auto,.auto,.auto,.auto,.v (.f (.int (Int.ofNat mn))),.v (.f (.str r0)),.v (.f (.str r1)),.v (.f (.str bg)),.auto,.b false,.auto,.auto,.b false,.auto,.auto,.auto,.b true,.b true])
 = some (.ok (.f (.bool true),[]),[],[],LH j xs zs sm i1 i2 i3 bs dp mn b e co bg q0 r0 q1 r1++[.call j 1512 [.f (.str ((r0++[32])++((r1++[32])++(((b++bg)++co)++e))))] [.lst (aA zs 6 (Int.fmod sm 997))] (.ok (.f (cJ ts s),[.lst (aA zs 6 (Int.fmod sm 997))])),.pb (tN (Int.ofNat mn) (40 - bs - dp)) false,.call j 1519 [.f (.lst [.str r0,.str r1])] [.lst (aA zs 6 (Int.fmod sm 997))] (.ok (.f (.bool s),[.lst (aA zs 6 (Int.fmod sm 997))])),.pb (CD s) false,.call j 527 [.f (cJ ts s)] [.lst (aA zs 6 (Int.fmod sm 997))] (.ok (.f (.str t2),[.lst (aA zs 6 (Int.fmod sm 997))])),.call j 1512 [.f (.str t2)] [.lst (aA zs 6 (Int.fmod sm 997))] (.ok (.f (cJ ts s),[.lst (aA zs 6 (Int.fmod sm 997))])),.call j 61 [.f (cJ ts s),.f (cJ ts s)] [.lst (aA zs 6 (Int.fmod sm 997))] (.ok (.f (.bool true),[.lst (aA zs 6 (Int.fmod sm 997))])),.pb (DT s) true,.call j 527 [.f (cJ ts s)] [.lst (aA zs 6 (Int.fmod sm 997))] (.ok (.f (.str t2),[.lst (aA zs 6 (Int.fmod sm 997))])),.pb (xW (.str t2)) true]):=by
 kernel_rfl
theorem Rf (j:Nat) (xs zs:List Int) (sm i1 i2 i3 bs dp:Int) (mn:Nat) (b e co bg:List Nat) (q0:Int) (r0:List Nat) (q1:Int) (r1:List Nat):dE vG (j + 1) 1524 [.f (.lst (iL xs))] [] [] [] [(1505,[.val (.ok (.f (.int i1),[.lst (aA zs 1 (Int.fmod sm 997))])),.val (.ok (.f (.int i2),[.lst (aA zs 2 (Int.fmod sm 997))])),.val (.ok (.f (.int i3),[.lst (aA zs 3 (Int.fmod sm 997))])),.val (.ok (.f (.int 2),[.lst (aA zs 4 (Int.fmod sm 997))])),.val (.ok (.f (.int q0),[.lst (aA zs 5 (Int.fmod sm 997))])),.val (.ok (.f (.int q1),[.lst (aA zs 6 (Int.fmod sm 997))]))]),(1512,[.val (.ok (.f .none,[.lst (aA zs 6 (Int.fmod sm 997))]))])]
  ([.s (.f (.lst (iL zs)),b8 xs),.s (.f (.lst (iL zs)),b8 xs),.s (.f (.lst (iL zs)),b8 xs),.v (.f (.int sm)),.auto,.v (.f (.tup [.str b,.str e,.int bs])),.v (.f (.tup [.str co,.int dp])),.auto,.auto,.auto,.auto,.v (.f (.int (Int.ofNat mn))),.v (.f (.str r0)),.v (.f (.str r1)),.v (.f (.str bg)),.auto,.b true,.auto])
 = some (.ok (.f (.bool true),[]),[],[],LH j xs zs sm i1 i2 i3 bs dp mn b e co bg q0 r0 q1 r1++[.call j 1512 [.f (.str ((r0++[32])++((r1++[32])++(((b++bg)++co)++e))))] [.lst (aA zs 6 (Int.fmod sm 997))] (.ok (.f .none,[.lst (aA zs 6 (Int.fmod sm 997))])),.pb (tN (Int.ofNat mn) (40 - bs - dp)) true]):=by
 kernel_rfl
noncomputable def KS (j:Nat) (xs zs:List Int) (sm i1 i2 i3 bs dp:Int) (mn:Nat) (b e co bg:List Nat) (q0:Int) (r0:List Nat) (q1:Int) (r1:List Nat) (q2:Int) (r2:List Nat):List Lg:=[.ps (eH false (.f (.lst (iL xs))) none (some 20) (b8 xs)) (.f (.lst (iL zs)),b8 xs),.ps (jR TT .list 1428 [.f (.lst (iL zs))] (b8 xs)) (.f (.lst (iL zs)),b8 xs),.ps (eH false (.f (.lst (iL xs))) none (some 20) (b8 xs)) (.f (.lst (iL zs)),b8 xs),.pv (uC (iL zs)) (.f (.int sm)),.call j 1505 [.ref 0,.f (.int 9)] [.lst (aA zs 0 (Int.fmod sm 997))] (.ok (.f (.int i1),[.lst (aA zs 1 (Int.fmod sm 997))])),.pv (bJ (.f qD) (.f (.int i1))) (.f (.tup [.str b,.str e,.int bs])),.call j 1505 [.ref 0,.f (.int 8)] [.lst (aA zs 1 (Int.fmod sm 997))] (.ok (.f (.int i2),[.lst (aA zs 2 (Int.fmod sm 997))])),.pv (bJ (.f pV) (.f (.int i2))) (.f (.tup [.str co,.int dp])),.call j 1505 [.ref 0,.f (.int 6)] [.lst (aA zs 2 (Int.fmod sm 997))] (.ok (.f (.int i3),[.lst (aA zs 3 (Int.fmod sm 997))])),.pv (bJ (.f (nV (40 - bs - dp))) (.f (.int i3))) (.f (.int (Int.ofNat mn))),.call j 1505 [.ref 0,.f (.int 4)] [.lst (aA zs 3 (Int.fmod sm 997))] (.ok (.f (.int 3),[.lst (aA zs 4 (Int.fmod sm 997))])),.call j 1505 [.ref 0,.f (.int 5)] [.lst (aA zs 4 (Int.fmod sm 997))] (.ok (.f (.int q0),[.lst (aA zs 5 (Int.fmod sm 997))])),.pv (bJ (.f f9) (.f (.int q0))) (.f (.str r0)),.call j 1505 [.ref 0,.f (.int 5)] [.lst (aA zs 5 (Int.fmod sm 997))] (.ok (.f (.int q1),[.lst (aA zs 6 (Int.fmod sm 997))])),.pv (bJ (.f f9) (.f (.int q1))) (.f (.str r1)),.call j 1505 [.ref 0,.f (.int 5)] [.lst (aA zs 6 (Int.fmod sm 997))] (.ok (.f (.int q2),[.lst (aA zs 7 (Int.fmod sm 997))])),.pv (bJ (.f f9) (.f (.int q2))) (.f (.str r2)),.pv (wF (Int.ofNat mn)) (.f (.str bg)),.ct b bg,.ct (b++bg) co,.ct ((b++bg)++co) e,.jn [32] [.str r0,.str r1,.str r2,.str (((b++bg)++co)++e)] ((r0++[32])++((r1++[32])++((r2++[32])++(((b++bg)++co)++e))))]
theorem Qz (j:Nat) (xs zs:List Int) (sm i1 i2 i3 bs dp:Int) (mn:Nat) (b e co bg:List Nat) (q0:Int) (r0:List Nat) (q1:Int) (r1:List Nat) (q2:Int) (r2:List Nat) (ts:List FV) (s:Bool) (t2:List Nat):dE vG (j + 1) 1524 [.f (.lst (iL xs))] [] [] [] [(1505,[.val (.ok (.f (.int i1),[.lst (aA zs 1 (Int.fmod sm 997))])),.val (.ok (.f (.int i2),[.lst (aA zs 2 (Int.fmod sm 997))])),.val (.ok (.f (.int i3),[.lst (aA zs 3 (Int.fmod sm 997))])),.val (.ok (.f (.int 3),[.lst (aA zs 4 (Int.fmod sm 997))])),.val (.ok (.f (.int q0),[.lst (aA zs 5 (Int.fmod sm 997))])),.val (.ok (.f (.int q1),[.lst (aA zs 6 (Int.fmod sm 997))])),.val (.ok (.f (.int q2),[.lst (aA zs 7 (Int.fmod sm 997))]))]),(1512,[.val (.ok (.f (cJ ts s),[.lst (aA zs 7 (Int.fmod sm 997))])),.val (.ok (.f (cJ ts s),[.lst (aA zs 7 (Int.fmod sm 997))]))]),(1519,[.val (.ok (.f (.bool s),[.lst (aA zs 7 (Int.fmod sm 997))]))]),(527,[.val (.ok (.f (.str t2),[.lst (aA zs 7 (Int.fmod sm 997))])),.val (.ok (.f (.str t2),[.lst (aA zs 7 (Int.fmod sm 997))]))]),(61,[.val (.ok (.f (.bool true),[.lst (aA zs 7 (Int.fmod sm 997))]))])]
  ([.s (.f (.lst (iL zs)),b8 xs),.s (.f (.lst (iL zs)),b8 xs),.s (.f (.lst (iL zs)),b8 xs),.v (.f (.int sm)),.auto,.v (.f (.tup [.str b,.str e,.int bs])),.v (.f (.tup [.str co,.int dp])),.auto,.auto,.auto,.auto,.v (.f (.int (Int.ofNat mn))),.v (.f (.str r0)),.v (.f (.str r1)),.v (.f (.str r2)),.v (.f (.str bg)),.auto,.b false,.auto,.auto,.b false,.auto,.auto,.auto,.b true,.b true])
 = some (.ok (.f (.bool true),[]),[],[],KS j xs zs sm i1 i2 i3 bs dp mn b e co bg q0 r0 q1 r1 q2 r2++[.call j 1512 [.f (.str ((r0++[32])++((r1++[32])++((r2++[32])++(((b++bg)++co)++e)))))] [.lst (aA zs 7 (Int.fmod sm 997))] (.ok (.f (cJ ts s),[.lst (aA zs 7 (Int.fmod sm 997))])),.pb (tN (Int.ofNat mn) (40 - bs - dp)) false,.call j 1519 [.f (.lst [.str r0,.str r1,.str r2])] [.lst (aA zs 7 (Int.fmod sm 997))] (.ok (.f (.bool s),[.lst (aA zs 7 (Int.fmod sm 997))])),.pb (CD s) false,.call j 527 [.f (cJ ts s)] [.lst (aA zs 7 (Int.fmod sm 997))] (.ok (.f (.str t2),[.lst (aA zs 7 (Int.fmod sm 997))])),.call j 1512 [.f (.str t2)] [.lst (aA zs 7 (Int.fmod sm 997))] (.ok (.f (cJ ts s),[.lst (aA zs 7 (Int.fmod sm 997))])),.call j 61 [.f (cJ ts s),.f (cJ ts s)] [.lst (aA zs 7 (Int.fmod sm 997))] (.ok (.f (.bool true),[.lst (aA zs 7 (Int.fmod sm 997))])),.pb (DT s) true,.call j 527 [.f (cJ ts s)] [.lst (aA zs 7 (Int.fmod sm 997))] (.ok (.f (.str t2),[.lst (aA zs 7 (Int.fmod sm 997))])),.pb (xW (.str t2)) true]):=by
 kernel_rfl
theorem RG (j:Nat) (xs zs:List Int) (sm i1 i2 i3 bs dp:Int) (mn:Nat) (b e co bg:List Nat) (q0:Int) (r0:List Nat) (q1:Int) (r1:List Nat) (q2:Int) (r2:List Nat):dE vG (j + 1) 1524 [.f (.lst (iL xs))] [] [] [] [(1505,[.val (.ok (.f (.int i1),[.lst (aA zs 1 (Int.fmod sm 997))])),.val (.ok (.f (.int i2),[.lst (aA zs 2 (Int.fmod sm 997))])),.val (.ok (.f (.int i3),[.lst (aA zs 3 (Int.fmod sm 997))])),.val (.ok (.f (.int 3),[.lst (aA zs 4 (Int.fmod sm 997))])),.val (.ok (.f (.int q0),[.lst (aA zs 5 (Int.fmod sm 997))])),.val (.ok (.f (.int q1),[.lst (aA zs 6 (Int.fmod sm 997))])),.val (.ok (.f (.int q2),[.lst (aA zs 7 (Int.fmod sm 997))]))]),(1512,[.val (.ok (.f .none,[.lst (aA zs 7 (Int.fmod sm 997))]))])]
  ([.s (.f (.lst (iL zs)),b8 xs),.s (.f (.lst (iL zs)),b8 xs),.s (.f (.lst (iL zs)),b8 xs),.v (.f (.int sm)),.auto,.v (.f (.tup [.str b,.str e,.int bs])),.v (.f (.tup [.str co,.int dp])),.auto,.auto,.auto,.auto,.v (.f (.int (Int.ofNat mn))),.v (.f (.str r0)),.v (.f (.str r1)),.v (.f (.str r2)),.v (.f (.str bg)),.auto,.b true,.auto])
 = some (.ok (.f (.bool true),[]),[],[],KS j xs zs sm i1 i2 i3 bs dp mn b e co bg q0 r0 q1 r1 q2 r2++[.call j 1512 [.f (.str ((r0++[32])++((r1++[32])++((r2++[32])++(((b++bg)++co)++e)))))] [.lst (aA zs 7 (Int.fmod sm 997))] (.ok (.f .none,[.lst (aA zs 7 (Int.fmod sm 997))])),.pb (tN (Int.ofNat mn) (40 - bs - dp)) true]):=by
 kernel_rfl
end Mine
end
section
namespace Mine
inductive Cr where
 | c0 | c1 | c2 | c3 | c4 | c5 | c6 | c7 | c8 | c9 | c10 | c11 | c12
noncomputable def Cr.txt:Cr→List Nat
 | .c0=>[48]
 | .c1=>[102,117,110,99,116,105,111,110,32,40,41,32,123,34,117,115,101,92,120,50,48,115,116,114,105,99,116,34,59,125]
 | .c2=>[102,117,110,99,116,105,111,110,32,40,41,32,123,40,34,117,115,101,32,115,116,114,105,99,116,34,41,59,32,34,117,115,101,32,115,116,114,105,99,116,34,59,125]
 | .c3=>[102,117,110,99,116,105,111,110,32,103,40,41,32,123,40,123,125,41,32,43,32,49,59,125]
 | .c4=>[110,101,119,32,40,102,40,41,46,97,41,40,49,41]
 | .c5=>[110,101,119,32,40,110,101,119,32,40,102,40,41,46,97,41,40,41,46,98,41,40,41]
 | .c6=>[102,117,110,99,116,105,111,110,32,40,41,32,123,40,102,117,110,99,116,105,111,110,32,40,41,32,123,125,41,46,97,59,125]
 | .c7=>[110,101,119,32,40,102,40,41,41,91,91,48,93,93,40,41]
 | .c8=>[102,117,110,99,116,105,111,110,32,40,41,32,123,34,117,115,101,32,115,116,114,105,99,116,34,59,125]
 | .c9=>[102,117,110,99,116,105,111,110,32,40,41,32,123,34,117,115,101,92,120,50,48,115,116,114,105,99,116,34,59,32,34,117,115,101,92,120,50,48,115,116,114,105,99,116,34,59,125]
 | .c10=>[102,117,110,99,116,105,111,110,32,40,41,32,123,34,117,115,101,32,115,116,114,105,99,116,34,59,32,34,117,115,101,32,115,116,114,105,99,116,34,59,125]
 | .c11=>[110,101,119,32,40,102,40,41,41,46,97,40,49,41]
 | .c12=>[110,101,119,32,110,101,119,32,40,102,40,41,41,46,97,40,41,46,98,40,41]
noncomputable def Cr.tok:Cr→Int→Int→FV
 | .c0=>aK cD (.int 0) true
 | .c1=>aK aL (.str [102,117,110,99,116,105,111,110]) true
 | .c2=>aK aL (.str [102,117,110,99,116,105,111,110]) true
 | .c3=>aK aL (.str [102,117,110,99,116,105,111,110]) true
 | .c4=>aK aL (.str [110,101,119]) true
 | .c5=>aK aL (.str [110,101,119]) true
 | .c6=>aK aL (.str [102,117,110,99,116,105,111,110]) true
 | .c7=>aK aL (.str [110,101,119]) true
 | .c8=>aK aL (.str [102,117,110,99,116,105,111,110]) true
 | .c9=>aK aL (.str [102,117,110,99,116,105,111,110]) true
 | .c10=>aK aL (.str [102,117,110,99,116,105,111,110]) true
 | .c11=>aK aL (.str [110,101,119]) true
 | .c12=>aK aL (.str [110,101,119]) true
noncomputable def Cr.len:Cr→Nat
 | .c0=>1
 | .c1=>8
 | .c2=>8
 | .c3=>8
 | .c4=>3
 | .c5=>3
 | .c6=>8
 | .c7=>3
 | .c8=>8
 | .c9=>8
 | .c10=>8
 | .c11=>3
 | .c12=>3
noncomputable def Cr.fst (c:Cr) (b:Bool):TD:=⟨c.tok,b.toNat,b.toNat + c.len⟩
noncomputable def Cr.ds:Cr→List TD
 | .c0=>Oi
 | .c1=>HN
 | .c2=>GE
 | .c3=>G0
 | .c4=>H4
 | .c5=>HF
 | .c6=>HZ
 | .c7=>HV
 | .c8=>HT
 | .c9=>Gd
 | .c10=>BF
 | .c11=>AU
 | .c12=>Bi
noncomputable def Cr.X (s:Bool):Cr→FV
 | .c0=>X0 s
 | .c1=>X1 s
 | .c2=>X2 s
 | .c3=>X3 s
 | .c4=>X4 s
 | .c5=>X5 s
 | .c6=>X6 s
 | .c7=>X7 s
 | .c8=>X8 s
 | .c9=>X9 s
 | .c10=>OQ s
 | .c11=>O5 s
 | .c12=>OJ s
noncomputable def Cr.deep:Cr→Nat
 | .c0=>0
 | .c1=>3
 | .c2=>4
 | .c3=>4
 | .c4=>2
 | .c5=>4
 | .c6=>5
 | .c7=>3
 | .c8=>3
 | .c9=>3
 | .c10=>3
 | .c11=>2
 | .c12=>3
noncomputable def Et.hd:Et→Nat
 | .semi=>59
 | .rp=>41
 | .rb=>93
 | .col=>32
theorem Lz (s:Bool) (x s0 e0:Int):∀ (c:Cr) (E:Et),x + (c.deep:Nat) ≤ 40→b9 1158 73 (c.tok s0 e0) c.ds E.td (c.X s) s x
 | .c0,E,h=>Mr E (Ql s s0 e0 x h)
 | .c1,E,h=>oA E (Rd s s0 e0 x h)
 | .c2,E,h=>oA E (Rj s s0 e0 x h)
 | .c3,E,h=>oA E (Rz s s0 e0 x h)
 | .c4,E,h=>s7 E (R8 s s0 e0 x h)
 | .c5,E,h=>s7 E (RO s s0 e0 x h)
 | .c6,E,h=>oA E (QQ s s0 e0 x h)
 | .c7,E,h=>s7 E (Qu s s0 e0 x h)
 | .c8,E,h=>oA E (QO s s0 e0 x h)
 | .c9,E,h=>oA E (R3 s s0 e0 x h)
 | .c10,E,h=>oA E (PG s s0 e0 x h)
 | .c11,E,h=>s7 E (Os s s0 e0 x h)
 | .c12,E,h=>s7 E (PZ s s0 e0 x h)
noncomputable def Cr.dr:Cr→List TD
 | .c1=>O4
 | .c2=>OT
 | .c3=>Of
 | .c4=>OH
 | .c5=>OP
 | .c6=>OY
 | .c7=>O2
 | _=>[]
inductive Cr.Own:Cr→Prop
 | c1:Cr.Own .c1
 | c2:Cr.Own .c2
 | c3:Cr.Own .c3
 | c4:Cr.Own .c4
 | c5:Cr.Own .c5
 | c6:Cr.Own .c6
 | c7:Cr.Own .c7
theorem Nd (s:Bool) (x s0 e0:Int) {c:Cr} (o:c.Own) (h:x + (c.deep:Nat)=41):bK 1158 73 (c.tok s0 e0) c.dr s x:=by
 cases o
 ·exact sH (QP s s0 e0 x h)
 ·exact sH (Q9 s s0 e0 x h)
 ·exact sH (Qs s s0 e0 x h)
 ·exact xY (Q0 s s0 e0 x h)
 ·exact xY (RP s s0 e0 x h)
 ·exact sH (Rb s s0 e0 x h)
 ·exact xY (QM s s0 e0 x h)
theorem aJ {w r1:List Nat}{d:TD}{ds:List TD}{r':List Nat} (hn:w.length=d.n) (h:bB (w++r1) d) (t:bG r1 ds r'):bG (w++r1) (d::ds) r':=⟨w,r1,rfl,hn,h,t⟩
theorem aB {c:Nat}{r1:List Nat}{d:TD}{ds:List TD}{r':List Nat} (hn:1=d.n) (h:bB (c::r1) d) (t:bG r1 ds r'):bG (c::r1) (d::ds) r':=aJ (w:=[c]) hn h t
noncomputable def bl:Bool→List Nat
 | false=>[]
 | true=>[32]
theorem bG.cut:∀ {d1 d2:List TD}{r r':List Nat},bG r (d1++d2) r'→∃ r1,bG r d1 r1∧bG r1 d2 r'
 | [],_,r,_,h=>⟨r,rfl,h⟩
 | d::d1,d2,r,r',⟨w,q,e,n,x,h⟩=>by
  obtain⟨r1,h1,h2⟩:=h.cut
  exact⟨r1,⟨w,q,e,n,x,h1⟩,h2⟩
theorem ML (r:List Nat):bG (102::117::110::99::116::105::111::110::32::40::41::32::123::34::117::115::101::92::120::50::48::115::116::114::105::99::116::34::59::125::r) (Cr.fst .c1 false::HN) r:=aJ (w:=[102,117,110,99,116,105,111,110]) rfl (bH _) (aJ (w:=[32,40]) rfl (bL _) (aB rfl (aM _) (aJ (w:=[32,123]) rfl (cX _) (aJ (w:=[34,117,115,101,92,120,50,48,115,116,114,105,99,116,34]) rfl (sQ _) (aB rfl (aT _) (aB rfl (bQ _) (rfl)))))))
theorem NQ (r:List Nat):bG (32::102::117::110::99::116::105::111::110::32::40::41::32::123::34::117::115::101::92::120::50::48::115::116::114::105::99::116::34::59::125::r) (Cr.fst .c1 true::HN) r:=aJ (w:=[32,102,117,110,99,116,105,111,110]) rfl (cV _) (aJ (w:=[32,40]) rfl (bL _) (aB rfl (aM _) (aJ (w:=[32,123]) rfl (cX _) (aJ (w:=[34,117,115,101,92,120,50,48,115,116,114,105,99,116,34]) rfl (sQ _) (aB rfl (aT _) (aB rfl (bQ _) (rfl)))))))
theorem MV (r:List Nat):bG (102::117::110::99::116::105::111::110::32::40::41::32::123::40::34::117::115::101::32::115::116::114::105::99::116::34::41::59::32::34::117::115::101::32::115::116::114::105::99::116::34::59::125::r) (Cr.fst .c2 false::GE) r:=aJ (w:=[102,117,110,99,116,105,111,110]) rfl (bH _) (aJ (w:=[32,40]) rfl (bL _) (aB rfl (aM _) (aJ (w:=[32,123]) rfl (cX _) (aB rfl (bD _) (aJ (w:=[34,117,115,101,32,115,116,114,105,99,116,34]) rfl (kN _) (aB rfl (aM _) (aB rfl (aT _) (aJ (w:=[32,34,117,115,101,32,115,116,114,105,99,116,34]) rfl (pL _) (aB rfl (aT _) (aB rfl (bQ _) (rfl)))))))))))
theorem MK (r:List Nat):bG (32::102::117::110::99::116::105::111::110::32::40::41::32::123::40::34::117::115::101::32::115::116::114::105::99::116::34::41::59::32::34::117::115::101::32::115::116::114::105::99::116::34::59::125::r) (Cr.fst .c2 true::GE) r:=aJ (w:=[32,102,117,110,99,116,105,111,110]) rfl (cV _) (aJ (w:=[32,40]) rfl (bL _) (aB rfl (aM _) (aJ (w:=[32,123]) rfl (cX _) (aB rfl (bD _) (aJ (w:=[34,117,115,101,32,115,116,114,105,99,116,34]) rfl (kN _) (aB rfl (aM _) (aB rfl (aT _) (aJ (w:=[32,34,117,115,101,32,115,116,114,105,99,116,34]) rfl (pL _) (aB rfl (aT _) (aB rfl (bQ _) (rfl)))))))))))
theorem Mg (r:List Nat):bG (102::117::110::99::116::105::111::110::32::103::40::41::32::123::40::123::125::41::32::43::32::49::59::125::r) (Cr.fst .c3 false::G0) r:=aJ (w:=[102,117,110,99,116,105,111,110]) rfl (bH _) (aJ (w:=[32,103]) rfl (yK _) (aB rfl (bD _) (aB rfl (aM _) (aJ (w:=[32,123]) rfl (cX _) (aB rfl (bD _) (aB rfl (jQ _) (aB rfl (bQ _) (aB rfl (aM _) (aJ (w:=[32,43]) rfl (mE _) (aJ (w:=[32,49]) rfl (qU _) (aB rfl (aT _) (aB rfl (bQ _) (rfl)))))))))))))
theorem Ni (r:List Nat):bG (32::102::117::110::99::116::105::111::110::32::103::40::41::32::123::40::123::125::41::32::43::32::49::59::125::r) (Cr.fst .c3 true::G0) r:=aJ (w:=[32,102,117,110,99,116,105,111,110]) rfl (cV _) (aJ (w:=[32,103]) rfl (yK _) (aB rfl (bD _) (aB rfl (aM _) (aJ (w:=[32,123]) rfl (cX _) (aB rfl (bD _) (aB rfl (jQ _) (aB rfl (bQ _) (aB rfl (aM _) (aJ (w:=[32,43]) rfl (mE _) (aJ (w:=[32,49]) rfl (qU _) (aB rfl (aT _) (aB rfl (bQ _) (rfl)))))))))))))
theorem Mc (r:List Nat):bG (110::101::119::32::40::102::40::41::46::97::41::40::49::41::r) (Cr.fst .c4 false::H4) r:=aJ (w:=[110,101,119]) rfl (eZ _) (aJ (w:=[32,40]) rfl (bL _) (aB rfl (eM _) (aB rfl (bD _) (aB rfl (aM _) (aB rfl (cL _) (aB rfl (nX _) (aB rfl (aM _) (aB rfl (bD _) (aB rfl (jG _) (aB rfl (aM _) (rfl)))))))))))
theorem N5 (r:List Nat):bG (32::110::101::119::32::40::102::40::41::46::97::41::40::49::41::r) (Cr.fst .c4 true::H4) r:=aJ (w:=[32,110,101,119]) rfl (eY _) (aJ (w:=[32,40]) rfl (bL _) (aB rfl (eM _) (aB rfl (bD _) (aB rfl (aM _) (aB rfl (cL _) (aB rfl (nX _) (aB rfl (aM _) (aB rfl (bD _) (aB rfl (jG _) (aB rfl (aM _) (rfl)))))))))))
theorem MY (r:List Nat):bG (110::101::119::32::40::110::101::119::32::40::102::40::41::46::97::41::40::41::46::98::41::40::41::r) (Cr.fst .c5 false::HF) r:=aJ (w:=[110,101,119]) rfl (eZ _) (aJ (w:=[32,40]) rfl (bL _) (aJ (w:=[110,101,119]) rfl (eZ _) (aJ (w:=[32,40]) rfl (bL _) (aB rfl (eM _) (aB rfl (bD _) (aB rfl (aM _) (aB rfl (cL _) (aB rfl (nX _) (aB rfl (aM _) (aB rfl (bD _) (aB rfl (aM _) (aB rfl (lN _) (aB rfl (w9 _) (aB rfl (aM _) (aB rfl (bD _) (aB rfl (aM _) (rfl)))))))))))))))))
theorem N6 (r:List Nat):bG (32::110::101::119::32::40::110::101::119::32::40::102::40::41::46::97::41::40::41::46::98::41::40::41::r) (Cr.fst .c5 true::HF) r:=aJ (w:=[32,110,101,119]) rfl (eY _) (aJ (w:=[32,40]) rfl (bL _) (aJ (w:=[110,101,119]) rfl (eZ _) (aJ (w:=[32,40]) rfl (bL _) (aB rfl (eM _) (aB rfl (bD _) (aB rfl (aM _) (aB rfl (cL _) (aB rfl (nX _) (aB rfl (aM _) (aB rfl (bD _) (aB rfl (aM _) (aB rfl (lN _) (aB rfl (w9 _) (aB rfl (aM _) (aB rfl (bD _) (aB rfl (aM _) (rfl)))))))))))))))))
theorem Mh (r:List Nat):bG (102::117::110::99::116::105::111::110::32::40::41::32::123::40::102::117::110::99::116::105::111::110::32::40::41::32::123::125::41::46::97::59::125::r) (Cr.fst .c6 false::HZ) r:=aJ (w:=[102,117,110,99,116,105,111,110]) rfl (bH _) (aJ (w:=[32,40]) rfl (bL _) (aB rfl (aM _) (aJ (w:=[32,123]) rfl (cX _) (aB rfl (bD _) (aJ (w:=[102,117,110,99,116,105,111,110]) rfl (bH _) (aJ (w:=[32,40]) rfl (bL _) (aB rfl (aM _) (aJ (w:=[32,123]) rfl (cX _) (aB rfl (bQ _) (aB rfl (aM _) (aB rfl (cL _) (aB rfl (sI _) (aB rfl (aT _) (aB rfl (bQ _) (rfl)))))))))))))))
theorem Nv (r:List Nat):bG (32::102::117::110::99::116::105::111::110::32::40::41::32::123::40::102::117::110::99::116::105::111::110::32::40::41::32::123::125::41::46::97::59::125::r) (Cr.fst .c6 true::HZ) r:=aJ (w:=[32,102,117,110,99,116,105,111,110]) rfl (cV _) (aJ (w:=[32,40]) rfl (bL _) (aB rfl (aM _) (aJ (w:=[32,123]) rfl (cX _) (aB rfl (bD _) (aJ (w:=[102,117,110,99,116,105,111,110]) rfl (bH _) (aJ (w:=[32,40]) rfl (bL _) (aB rfl (aM _) (aJ (w:=[32,123]) rfl (cX _) (aB rfl (bQ _) (aB rfl (aM _) (aB rfl (cL _) (aB rfl (sI _) (aB rfl (aT _) (aB rfl (bQ _) (rfl)))))))))))))))
theorem Nx (r:List Nat):bG (110::101::119::32::40::102::40::41::41::91::91::48::93::93::40::41::r) (Cr.fst .c7 false::HV) r:=aJ (w:=[110,101,119]) rfl (eZ _) (aJ (w:=[32,40]) rfl (bL _) (aB rfl (eM _) (aB rfl (bD _) (aB rfl (aM _) (aB rfl (aM _) (aB rfl (pE _) (aB rfl (pE _) (aB rfl (oV _) (aB rfl (pA _) (aB rfl (pA _) (aB rfl (bD _) (aB rfl (aM _) (rfl)))))))))))))
theorem MT (r:List Nat):bG (32::110::101::119::32::40::102::40::41::41::91::91::48::93::93::40::41::r) (Cr.fst .c7 true::HV) r:=aJ (w:=[32,110,101,119]) rfl (eY _) (aJ (w:=[32,40]) rfl (bL _) (aB rfl (eM _) (aB rfl (bD _) (aB rfl (aM _) (aB rfl (aM _) (aB rfl (pE _) (aB rfl (pE _) (aB rfl (oV _) (aB rfl (pA _) (aB rfl (pA _) (aB rfl (bD _) (aB rfl (aM _) (rfl)))))))))))))
theorem MA (r:List Nat):bG (102::117::110::99::116::105::111::110::32::40::41::32::123::34::117::115::101::32::115::116::114::105::99::116::34::59::125::r) (Cr.fst .c8 false::HT) r:=aJ (w:=[102,117,110,99,116,105,111,110]) rfl (bH _) (aJ (w:=[32,40]) rfl (bL _) (aB rfl (aM _) (aJ (w:=[32,123]) rfl (cX _) (aJ (w:=[34,117,115,101,32,115,116,114,105,99,116,34]) rfl (kN _) (aB rfl (aT _) (aB rfl (bQ _) (rfl)))))))
theorem MN (r:List Nat):bG (32::102::117::110::99::116::105::111::110::32::40::41::32::123::34::117::115::101::32::115::116::114::105::99::116::34::59::125::r) (Cr.fst .c8 true::HT) r:=aJ (w:=[32,102,117,110,99,116,105,111,110]) rfl (cV _) (aJ (w:=[32,40]) rfl (bL _) (aB rfl (aM _) (aJ (w:=[32,123]) rfl (cX _) (aJ (w:=[34,117,115,101,32,115,116,114,105,99,116,34]) rfl (kN _) (aB rfl (aT _) (aB rfl (bQ _) (rfl)))))))
theorem NW (r:List Nat):bG (102::117::110::99::116::105::111::110::32::40::41::32::123::34::117::115::101::92::120::50::48::115::116::114::105::99::116::34::59::32::34::117::115::101::92::120::50::48::115::116::114::105::99::116::34::59::125::r) (Cr.fst .c9 false::Gd) r:=aJ (w:=[102,117,110,99,116,105,111,110]) rfl (bH _) (aJ (w:=[32,40]) rfl (bL _) (aB rfl (aM _) (aJ (w:=[32,123]) rfl (cX _) (aJ (w:=[34,117,115,101,92,120,50,48,115,116,114,105,99,116,34]) rfl (sQ _) (aB rfl (aT _) (aJ (w:=[32,34,117,115,101,92,120,50,48,115,116,114,105,99,116,34]) rfl (xC _) (aB rfl (aT _) (aB rfl (bQ _) (rfl)))))))))
theorem Nk (r:List Nat):bG (32::102::117::110::99::116::105::111::110::32::40::41::32::123::34::117::115::101::92::120::50::48::115::116::114::105::99::116::34::59::32::34::117::115::101::92::120::50::48::115::116::114::105::99::116::34::59::125::r) (Cr.fst .c9 true::Gd) r:=aJ (w:=[32,102,117,110,99,116,105,111,110]) rfl (cV _) (aJ (w:=[32,40]) rfl (bL _) (aB rfl (aM _) (aJ (w:=[32,123]) rfl (cX _) (aJ (w:=[34,117,115,101,92,120,50,48,115,116,114,105,99,116,34]) rfl (sQ _) (aB rfl (aT _) (aJ (w:=[32,34,117,115,101,92,120,50,48,115,116,114,105,99,116,34]) rfl (xC _) (aB rfl (aT _) (aB rfl (bQ _) (rfl)))))))))
theorem JN (r:List Nat):bG (102::117::110::99::116::105::111::110::32::40::41::32::123::34::117::115::101::32::115::116::114::105::99::116::34::59::32::34::117::115::101::32::115::116::114::105::99::116::34::59::125::r) (Cr.fst .c10 false::BF) r:=aJ (w:=[102,117,110,99,116,105,111,110]) rfl (bH _) (aJ (w:=[32,40]) rfl (bL _) (aB rfl (aM _) (aJ (w:=[32,123]) rfl (cX _) (aJ (w:=[34,117,115,101,32,115,116,114,105,99,116,34]) rfl (kN _) (aB rfl (aT _) (aJ (w:=[32,34,117,115,101,32,115,116,114,105,99,116,34]) rfl (pL _) (aB rfl (aT _) (aB rfl (bQ _) (rfl)))))))))
theorem KM (r:List Nat):bG (32::102::117::110::99::116::105::111::110::32::40::41::32::123::34::117::115::101::32::115::116::114::105::99::116::34::59::32::34::117::115::101::32::115::116::114::105::99::116::34::59::125::r) (Cr.fst .c10 true::BF) r:=aJ (w:=[32,102,117,110,99,116,105,111,110]) rfl (cV _) (aJ (w:=[32,40]) rfl (bL _) (aB rfl (aM _) (aJ (w:=[32,123]) rfl (cX _) (aJ (w:=[34,117,115,101,32,115,116,114,105,99,116,34]) rfl (kN _) (aB rfl (aT _) (aJ (w:=[32,34,117,115,101,32,115,116,114,105,99,116,34]) rfl (pL _) (aB rfl (aT _) (aB rfl (bQ _) (rfl)))))))))
theorem LW (r:List Nat):bG (110::101::119::32::40::102::40::41::41::46::97::40::49::41::r) (Cr.fst .c11 false::AU) r:=aJ (w:=[110,101,119]) rfl (eZ _) (aJ (w:=[32,40]) rfl (bL _) (aB rfl (eM _) (aB rfl (bD _) (aB rfl (aM _) (aB rfl (aM _) (aB rfl (cL _) (aB rfl (kO _) (aB rfl (bD _) (aB rfl (jG _) (aB rfl (aM _) (rfl)))))))))))
theorem J8 (r:List Nat):bG (32::110::101::119::32::40::102::40::41::41::46::97::40::49::41::r) (Cr.fst .c11 true::AU) r:=aJ (w:=[32,110,101,119]) rfl (eY _) (aJ (w:=[32,40]) rfl (bL _) (aB rfl (eM _) (aB rfl (bD _) (aB rfl (aM _) (aB rfl (aM _) (aB rfl (cL _) (aB rfl (kO _) (aB rfl (bD _) (aB rfl (jG _) (aB rfl (aM _) (rfl)))))))))))
theorem Kl (r:List Nat):bG (110::101::119::32::110::101::119::32::40::102::40::41::41::46::97::40::41::46::98::40::41::r) (Cr.fst .c12 false::Bi) r:=aJ (w:=[110,101,119]) rfl (eZ _) (aJ (w:=[32,110,101,119]) rfl (eY _) (aJ (w:=[32,40]) rfl (bL _) (aB rfl (eM _) (aB rfl (bD _) (aB rfl (aM _) (aB rfl (aM _) (aB rfl (cL _) (aB rfl (kO _) (aB rfl (bD _) (aB rfl (aM _) (aB rfl (lN _) (aB rfl (wO _) (aB rfl (bD _) (aB rfl (aM _) (rfl)))))))))))))))
theorem Kv (r:List Nat):bG (32::110::101::119::32::110::101::119::32::40::102::40::41::41::46::97::40::41::46::98::40::41::r) (Cr.fst .c12 true::Bi) r:=aJ (w:=[32,110,101,119]) rfl (eY _) (aJ (w:=[32,110,101,119]) rfl (eY _) (aJ (w:=[32,40]) rfl (bL _) (aB rfl (eM _) (aB rfl (bD _) (aB rfl (aM _) (aB rfl (aM _) (aB rfl (cL _) (aB rfl (kO _) (aB rfl (bD _) (aB rfl (aM _) (aB rfl (lN _) (aB rfl (wO _) (aB rfl (bD _) (aB rfl (aM _) (rfl)))))))))))))))
theorem GS (r:List Nat):∀ (c:Cr) (E:Et) (b:Bool),(c=.c0→E=.rb→b=false)→bG (bl b++(c.txt++(E.hd::r))) (c.fst b::c.ds) (E.hd::r)
 | .c0,.semi,false,h=>aJ (w:=[48]) rfl (y4 _) rfl
 | .c0,.semi,true,h=>aJ (w:=[32,48]) rfl (qW _) rfl
 | .c0,.rp,false,h=>aJ (w:=[48]) rfl (Co _) rfl
 | .c0,.rp,true,h=>aJ (w:=[32,48]) rfl (D8 _) rfl
 | .c0,.rb,false,h=>aJ (w:=[48]) rfl (oV _) rfl
 | .c0,.rb,true,h=>absurd (h rfl rfl) (by decide)
 | .c0,.col,false,h=>aJ (w:=[48]) rfl (DU _) rfl
 | .c0,.col,true,h=>aJ (w:=[32,48]) rfl (CT _) rfl
 | .c1,_,false,_=>ML _
 | .c1,_,true,_=>NQ _
 | .c2,_,false,_=>MV _
 | .c2,_,true,_=>MK _
 | .c3,_,false,_=>Mg _
 | .c3,_,true,_=>Ni _
 | .c4,_,false,_=>Mc _
 | .c4,_,true,_=>N5 _
 | .c5,_,false,_=>MY _
 | .c5,_,true,_=>N6 _
 | .c6,_,false,_=>Mh _
 | .c6,_,true,_=>Nv _
 | .c7,_,false,_=>Nx _
 | .c7,_,true,_=>MT _
 | .c8,_,false,_=>MA _
 | .c8,_,true,_=>MN _
 | .c9,_,false,_=>NW _
 | .c9,_,true,_=>Nk _
 | .c10,_,false,_=>JN _
 | .c10,_,true,_=>KM _
 | .c11,_,false,_=>LW _
 | .c11,_,true,_=>J8 _
 | .c12,_,false,_=>Kl _
 | .c12,_,true,_=>Kv _
noncomputable def mU (c:Cr) (b:Bool):Nat→TD
 | 0=>c.fst b
 | _ + 1=>match b with
  | false=>pY
  | true=>sR
theorem MP (b:Bool) (c:Cr) (r:List Nat):bB ((bl b++[33])++(c.txt++r)) (mU c b 1):=by
 cases b<;>cases c
 ·exact Ej _
 ·exact gW _
 ·exact gW _
 ·exact gW _
 ·exact lA _
 ·exact lA _
 ·exact gW _
 ·exact lA _
 ·exact gW _
 ·exact gW _
 ·exact gW _
 ·exact lA _
 ·exact lA _
 ·exact E6 _
 ·exact gU _
 ·exact gU _
 ·exact gU _
 ·exact kW _
 ·exact kW _
 ·exact gU _
 ·exact kW _
 ·exact gU _
 ·exact gU _
 ·exact gU _
 ·exact kW _
 ·exact kW _
theorem J5 (b:Bool) (c:Cr) (r:List Nat):bB ((bl b++[33])++(33::r)) (mU c b 1):=by
 cases b
 ·exact Cv _
 ·exact By _
theorem Fz (r:List Nat) (c:Cr) (E:Et):∀ (k:Nat) (b:Bool),(c=.c0→E=.rb→b=false)→bG (bl b++a8 k (c.txt++(E.hd::r))) (mU c b k::(gJ (c.fst false) c.ds k).2) (E.hd::r)
 | 0,b,h=>GS r c E b h
 | 1,b,h=>by
  have:=GS r c E false (fun _ _=>rfl)
  have e:bl b++a8 1 (c.txt++(E.hd::r))=(bl b++[33])++(c.txt++(E.hd::r)):=by simp[a8]
  rw[e]
  exact aJ (by cases b<;>rfl) (MP b c _) this
 | k + 2,b,h=>by
  have:=Fz r c E (k + 1) false (fun _ _=>rfl)
  have e:bl b++a8 (k + 2) (c.txt++(E.hd::r))=(bl b++[33])++(33::a8 k (c.txt++(E.hd::r))):=by simp[a8]
  rw[e]
  exact aJ (by cases b<;>rfl) (J5 b c _) this
theorem uH (c:Cr) (b:Bool) (k:Nat):(mU c b k).tok=(gJ (c.fst false) c.ds k).1.tok:=by
 cases k<;>cases b<;>rfl
inductive Ld where
 | l0 | l1 | l2 | l3 | l4 | l5 | l6 | l7 | l8
noncomputable def Ld.preT:Ld→List Nat
 | .l0=>[123,125,41,32,43]
 | .l1=>[123,125,41,46,97,32,61]
 | .l2=>[102,117,110,99,116,105,111,110,32,40,41,32,123,125,41,46,99,97,108,108,40,116,104,105,115,44]
 | .l3=>[123,125,41,91]
 | .l4=>[123,125,41,44]
 | .l5=>[102,117,110,99,116,105,111,110,32,40,41,32,123,125,41,32,63]
 | .l6=>[123,125,41,46,97,40,49,41,40]
 | .l7=>[102,117,110,99,116,105,111,110,32,102,40,41,32,123,125,41,40,41,32,124,124]
 | .l8=>[123,125,41,46,97,43,43,44]
noncomputable def Ld.tr:Ld→Bool
 | .l0=>true
 | .l1=>true
 | .l2=>true
 | .l3=>false
 | .l4=>true
 | .l5=>true
 | .l6=>false
 | .l7=>true
 | .l8=>true
noncomputable def Ld.E:Ld→Et
 | .l0=>.semi
 | .l1=>.semi
 | .l2=>.rp
 | .l3=>.rb
 | .l4=>.semi
 | .l5=>.col
 | .l6=>.rp
 | .l7=>.semi
 | .l8=>.semi
noncomputable def Ld.rest:Ld→List Nat
 | .l0=>[]
 | .l1=>[]
 | .l2=>[59]
 | .l3=>[59]
 | .l4=>[]
 | .l5=>[58,32,48,59]
 | .l6=>[59]
 | .l7=>[]
 | .l8=>[]
noncomputable def Ld.pre:Ld→List TD
 | .l0=>Fw
 | .l1=>FQ
 | .l2=>nO
 | .l3=>Ee
 | .l4=>F0
 | .l5=>EP
 | .l6=>nK
 | .l7=>F8
 | .l8=>FH
noncomputable def Ld.post:Ld→List TD
 | .l0=>HJ
 | .l1=>HI
 | .l2=>r9
 | .l3=>GZ
 | .l4=>Gl
 | .l5=>HY
 | .l6=>sY
 | .l7=>Gw
 | .l8=>HS
noncomputable def Ld.base:Ld→Nat
 | .l0=>2
 | .l1=>3
 | .l2=>3
 | .l3=>3
 | .l4=>2
 | .l5=>3
 | .l6=>3
 | .l7=>2
 | .l8=>2
noncomputable def Ld.M (s:Bool) (X:FV):Ld→FV
 | .l0=>M0 s X
 | .l1=>M1 s X
 | .l2=>M2 s X
 | .l3=>M3 s X
 | .l4=>M4 s X
 | .l5=>M5 s X
 | .l6=>M6 s X
 | .l7=>M7 s X
 | .l8=>M8 s X
theorem Lc (R:List Nat):∀ l:Ld,bG (l.preT++(bl l.tr++R)) l.pre (bl l.tr++R)
 | .l0=>aB rfl (jQ _) (aB rfl (bQ _) (aB rfl (aM _) (aJ (w:=[32,43]) rfl (mE _) (rfl))))
 | .l1=>aB rfl (jQ _) (aB rfl (bQ _) (aB rfl (aM _) (aB rfl (cL _) (aB rfl (EQ _) (aJ (w:=[32,61]) rfl (Dn _) (rfl))))))
 | .l2=>aJ (w:=[102,117,110,99,116,105,111,110]) rfl (bH _) (aJ (w:=[32,40]) rfl (bL _) (aB rfl (aM _) (aJ (w:=[32,123]) rfl (cX _) (aB rfl (bQ _) (aB rfl (aM _) (aB rfl (DZ _) (aJ (w:=[99,97,108,108]) rfl (y0 _) (aB rfl (bD _) (aJ (w:=[116,104,105,115]) rfl (xB _) (aB rfl (tQ _) (rfl)))))))))))
 | .l3=>aB rfl (jQ _) (aB rfl (bQ _) (aB rfl (aM _) (aB rfl (pE _) (rfl))))
 | .l4=>aB rfl (jQ _) (aB rfl (bQ _) (aB rfl (aM _) (aB rfl (tQ _) (rfl))))
 | .l5=>aJ (w:=[102,117,110,99,116,105,111,110]) rfl (bH _) (aJ (w:=[32,40]) rfl (bL _) (aB rfl (aM _) (aJ (w:=[32,123]) rfl (cX _) (aB rfl (bQ _) (aB rfl (aM _) (aJ (w:=[32,63]) rfl (H9 _) (rfl)))))))
 | .l6=>aB rfl (jQ _) (aB rfl (bQ _) (aB rfl (aM _) (aB rfl (cL _) (aB rfl (kO _) (aB rfl (bD _) (aB rfl (jG _) (aB rfl (aM _) (aB rfl (bD _) (rfl)))))))))
 | .l7=>aJ (w:=[102,117,110,99,116,105,111,110]) rfl (bH _) (aJ (w:=[32,102]) rfl (Eo _) (aB rfl (bD _) (aB rfl (aM _) (aJ (w:=[32,123]) rfl (cX _) (aB rfl (bQ _) (aB rfl (aM _) (aB rfl (bD _) (aB rfl (aM _) (aJ (w:=[32,124,124]) rfl (DW _) (rfl))))))))))
 | .l8=>aB rfl (jQ _) (aB rfl (bQ _) (aB rfl (aM _) (aB rfl (cL _) (aB rfl (BE _) (aJ (w:=[43,43]) rfl (BD _) (aB rfl (tQ _) (rfl)))))))
theorem Lw:∀ l:Ld,bG (l.E.hd::l.rest) (l.E.td::(l.post++[a9])) []
 | .l0=>aJ (w:=[59]) rfl (aT _) (aJ (w:=[]) rfl f0 rfl)
 | .l1=>aJ (w:=[59]) rfl (aT _) (aJ (w:=[]) rfl f0 rfl)
 | .l2=>aJ (w:=[41]) rfl (aM _) (aJ (w:=[59]) rfl (aT _) (aJ (w:=[]) rfl f0 rfl))
 | .l3=>aJ (w:=[93]) rfl (pA _) (aJ (w:=[59]) rfl (aT _) (aJ (w:=[]) rfl f0 rfl))
 | .l4=>aJ (w:=[59]) rfl (aT _) (aJ (w:=[]) rfl f0 rfl)
 | .l5=>aJ (w:=[32,58]) rfl (Hy _) (aJ (w:=[32,48]) rfl (qW _) (aJ (w:=[59]) rfl (aT _) (aJ (w:=[]) rfl f0 rfl)))
 | .l6=>aJ (w:=[41]) rfl (aM _) (aJ (w:=[59]) rfl (aT _) (aJ (w:=[]) rfl f0 rfl))
 | .l7=>aJ (w:=[59]) rfl (aT _) (aJ (w:=[]) rfl f0 rfl)
 | .l8=>aJ (w:=[59]) rfl (aT _) (aJ (w:=[]) rfl f0 rfl)
noncomputable def FT (d:TD):Prop:=d.tok=aK aW (.str [33]) true∨d.tok=aK cD (.int 0) true∨d.tok=aK aL (.str [102,117,110,99,116,105,111,110]) true∨d.tok=aK aL (.str [110,101,119]) true
theorem xJ (c:Cr) (b:Bool) (k:Nat):FT (mU c b k):=by
 cases k with
 | zero=>cases c<;>first | exact .inl rfl | exact .inr (.inl rfl) | exact .inr (.inr (.inl rfl)) | exact .inr (.inr (.inr rfl))
 | succ n=>cases b<;>exact .inl rfl
theorem Nc (s:Bool) (j:Nat) (tc:TD) (ht:FT tc) (ds:List TD) (X:FV) (s0 e0:Int):∀ l:Ld,(∀ s0 e0,b9 1158 (j + 73) (tc.tok s0 e0) ds l.E.td X s (l.base:Nat))→b9 1259 (j + 113) (aK aW (.str [40]) true s0 e0) ((l.pre++[tc])++((ds++[l.E.td])++l.post)) a9 (l.M s X) s 0
 | .l0,H=>RK s j tc ds X H s0 e0
 | .l1,H=>Qp s j tc ds X H s0 e0
 | .l2,H=>by
  obtain⟨tok,b,n⟩:=tc
  rcases ht with h | h | h | h<;>simp only at h<;>subst h
  ·exact N7 s j b n ds X H s0 e0
  ·exact NA s j b n ds X H s0 e0
  ·exact Nt s j b n ds X H s0 e0
  ·exact Mt s j b n ds X H s0 e0
 | .l3,H=>Qx s j tc ds X H s0 e0
 | .l4,H=>Qr s j tc ds X H s0 e0
 | .l5,H=>Qe s j tc ds X H s0 e0
 | .l6,H=>by
  obtain⟨tok,b,n⟩:=tc
  rcases ht with h | h | h | h<;>simp only at h<;>subst h
  ·exact NI s j b n ds X H s0 e0
  ·exact MH s j b n ds X H s0 e0
  ·exact NF s j b n ds X H s0 e0
  ·exact Mz s j b n ds X H s0 e0
 | .l7,H=>RD s j tc ds X H s0 e0
 | .l8,H=>QJ s j tc ds X H s0 e0
theorem HK (s:Bool) (j:Nat) (tc:TD) (ht:FT tc) (ds:List TD) (s0 e0:Int):∀ l:Ld,(∀ s0 e0,bK 1158 (j + 73) (tc.tok s0 e0) ds s (l.base:Nat))→bK 1259 (j + 113) (aK aW (.str [40]) true s0 e0) ((l.pre++[tc])++ds) s 0
 | .l0,H=>Qa s j tc ds H s0 e0
 | .l1,H=>RJ s j tc ds H s0 e0
 | .l2,H=>by
  obtain⟨tok,b,n⟩:=tc
  rcases ht with h | h | h | h<;>simp only at h<;>subst h
  ·exact Ly s j b n ds H s0 e0
  ·exact Ny s j b n ds H s0 e0
  ·exact NV s j b n ds H s0 e0
  ·exact Nj s j b n ds H s0 e0
 | .l3,H=>RI s j tc ds H s0 e0
 | .l4,H=>Ru s j tc ds H s0 e0
 | .l5,H=>Q6 s j tc ds H s0 e0
 | .l6,H=>by
  obtain⟨tok,b,n⟩:=tc
  rcases ht with h | h | h | h<;>simp only at h<;>subst h
  ·exact My s j b n ds H s0 e0
  ·exact Mm s j b n ds H s0 e0
  ·exact Mo s j b n ds H s0 e0
  ·exact Np s j b n ds H s0 e0
 | .l7,H=>Rk s j tc ds H s0 e0
 | .l8,H=>R4 s j tc ds H s0 e0
end Mine
end
section
namespace Mine
noncomputable def uO (l:Ld) (c:Cr) (k:Nat):List TD:=(l.pre++[mU c l.tr k])++(((gJ (c.fst false) c.ds k).2++[l.E.td])++l.post)
noncomputable def mR (l:Ld) (c:Cr) (k:Nat):List Nat:=l.preT++(bl l.tr++a8 k (c.txt++(l.E.hd::l.rest)))
theorem NK:∀ l:Ld,l.E=.rb→l.tr=false
 | .l3,_=>rfl
theorem Ci (l:Ld) (c:Cr) (k:Nat):bG (mR l c k) (uO l c k++[a9]) []:=by
 have h1:=Lc (a8 k (c.txt++(l.E.hd::l.rest))) l
 have h2:=Fz l.rest c l.E k l.tr (fun _ e=>NK l e)
 have h3:=Lw l
 have:=h1.app (h2.app h3)
 have e:l.pre++(mU c l.tr k::(gJ (c.fst false) c.ds k).2++(l.E.td::(l.post++[a9])))=uO l c k++[a9]:=by simp[uO]
 rw[e]at this
 exact this
theorem IJ (l:Ld) (c:Cr) (k:Nat) (s:Bool) (h:(l.base:Int) + (k:Nat) + (c.deep:Nat) ≤ 40) (s0 e0:Int):b9 1259 (2 * k + 113) (aK aW (.str [40]) true s0 e0) (uO l c k) a9 (l.M s (fV (c.X s) k)) s 0:=by
 refine Nc s (2 * k) (mU c l.tr k) (xJ c l.tr k) _ _ s0 e0 l (fun s0 e0=>?_)
 rw[uH]
 have:=xE (d0:=c.fst false) (ds:=c.ds) (E:=l.E.td) (X:=c.X s) (s:=s) k (l.base:Nat) (by omega) (fun s0 e0=>Lz s _ s0 e0 c l.E h) s0 e0
 rw[show 73 + 2 * k=2 * k + 73 by omega]at this
 exact this
theorem I7 (l:Ld) (c:Cr) (k:Nat) (s:Bool) (o:c=.c0∨c.Own) (h:(l.base:Int) + (k:Nat) + (c.deep:Nat)=41) (hk:1 ≤ k):∃ ds,(∃ more,uO l c k=ds++more)∧∀ s0 e0,bK 1259 (2 * k + 113) (aK aW (.str [40]) true s0 e0) ds s 0:=by
 rcases o with rfl | o
 ·obtain⟨k',rfl⟩:∃ k',k=k' + 1:=⟨k - 1,by omega⟩
  refine⟨(l.pre++[mU .c0 l.tr (k' + 1)])++(gJ gB [] (k' + 1)).2,?_,fun s0 e0=>?_⟩
  ·have e:∀ k,(gJ (Cr.fst .c0 false) (Cr.ds .c0) k).2=(gJ gB [] k).2:=by
    intro k;induction k with
    | zero=>rfl
    | succ k ih=>show _::_=_::_;rw[ih];rfl
   refine⟨[l.E.td]++l.post,?_⟩
   simp only[uO,e,List.append_assoc]
  ·refine HK s (2 * (k' + 1)) (mU .c0 l.tr (k' + 1)) (xJ _ _ _) _ s0 e0 l (fun s0 e0=>?_)
   rw[uH]
   have:=tL (s:=s) k' (l.base:Nat) (by have:(Cr.deep .c0:Int)=0:=rfl;omega) s0 e0
   rw[show 75 + 2 * k'=2 * (k' + 1) + 73 by omega]at this
   exact this
 ·refine⟨(l.pre++[mU c l.tr k])++(gJ (c.fst false) c.dr k).2,?_,fun s0 e0=>?_⟩
  ·have hd:∃ q,c.ds=c.dr++q:=⟨c.ds.drop c.dr.length,by cases o<;>rfl⟩
   obtain⟨q,hq⟩:=hd
   have e:∀ k,(gJ (c.fst false) c.ds k).2=(gJ (c.fst false) c.dr k).2++q:=by
    intro k;induction k with
    | zero=>exact hq
    | succ k ih =>
     show(gJ _ _ k).1::_=(gJ _ _ k).1::(_++q)
     rw[ih]
     congr 1
     clear ih
     cases k<;>rfl
   refine⟨q++([l.E.td]++l.post),?_⟩
   simp only[uO,e,List.append_assoc]
  ·refine HK s (2 * k) (mU c l.tr k) (xJ _ _ _) _ s0 e0 l (fun s0 e0=>?_)
   rw[show(mU c l.tr k).tok=(gJ (c.fst false) c.dr k).1.tok by rw[uH];cases k<;>rfl]
   have hdp:1 ≤ c.deep:=by cases o<;>decide
   have:=wC (d0:=c.fst false) (ds:=c.dr) (s:=s) k (l.base:Nat) (by omega) (fun s0 e0=>Nd s _ s0 e0 o h) s0 e0
   rw[show 73 + 2 * k=2 * k + 73 by omega]at this
   exact this
noncomputable def aF.rT:aF→List Nat
 | .p=>[34,117,115,101,32,115,116,114,105,99,116,34,41,59]
 | _=>[59]
theorem LL (R:List Nat):∀ r:aF,bG (r.rT++R) r.ds R
 | .e=>aJ (w:=[59]) rfl (aT _) rfl
 | .u=>aJ (w:=[59]) rfl (aT _) rfl
 | .a=>aJ (w:=[59]) rfl (aT _) rfl
 | .n=>aJ (w:=[59]) rfl (aT _) rfl
 | .p=>aJ (w:=[34,117,115,101,32,115,116,114,105,99,116,34]) rfl (kN _) (aJ (w:=[41]) rfl (aM _) (aJ (w:=[59]) rfl (aT _) rfl))
noncomputable def Dj (R:List Nat):List aF→List Nat
 | []=>R
 | r::rs=>r.rT++(32::jt rs (40::R))
theorem CU (R:List Nat):∀ rs:List aF,(jt rs (40::R)).drop (d8 rs).n=Dj R rs
 | []=>rfl
 | r::rs=>by cases r<;>rfl
theorem zS (R:List Nat):∀ rs:List aF,(d8 rs).n ≤ (jt rs (40::R)).length
 | []=>by show 1 ≤ _;simp[jt]
 | r::rs=>by cases r<;>simp only[jt,d8,aF.fst,aF.len,aF.txt,List.length_append,List.length_cons]<;>omega
theorem IL (R:List Nat):∀ rs:List aF,bG (32::jt rs (40::R)) [d6 rs] (Dj R rs)
 | []=>aJ (w:=[32,40]) rfl (bL _) rfl
 | .e::rs=>aJ (w:=[32,34,117,115,101,92,120,50,48,115,116,114,105,99,116,34]) (d:=aF.fst .e 1) rfl (xC _) rfl
 | .u::rs=>aJ (w:=[32,34,117,115,101,32,115,116,114,105,99,116,34]) (d:=aF.fst .u 1) rfl (pL _) rfl
 | .a::rs=>aJ (w:=[32,34,97,34]) (d:=aF.fst .a 1) rfl (KY _) rfl
 | .n::rs=>aJ (w:=[32,97]) (d:=aF.fst .n 1) rfl (A6 _) rfl
 | .p::rs=>aJ (w:=[32,40]) (d:=aF.fst .p 1) rfl (bL _) rfl
theorem t3 (R:List Nat):∀ rs:List aF,bG (Dj R rs) (eG rs) R
 | []=>rfl
 | r::rs=>((LL _ r).app (IL R rs)).app (t3 R rs)
theorem CR (R:List Nat):∀ rs:List aF,oL (jt rs (40::R)) (d8 rs)
 | []=>CF _
 | .e::rs=>KG _
 | .u::rs=>J4 _
 | .a::rs=>JV _
 | .n::rs=>Ao _
 | .p::rs=>CF _
noncomputable def dA (rs:List aF) (l:Ld) (c:Cr) (k:Nat):List Nat:=jt rs (40::mR l c k)
theorem AH {rs:List aF} (hl:rs.length ≤ 3) (l:Ld) (c:Cr) (k:Nat) (h:(l.base:Int) + (k:Nat) + (c.deep:Nat) ≤ 40) (hf:fits (dA rs l c k).length=true)
  (hL:∀ x ∈ cF rs (l.M (bS rs true false) (fV (c.X (bS rs true false)) k)),uD x) (n:Nat) :
  run TT 5000 (n + (2 * k + 116)) 1478 [.f (.str (dA rs l c k))] []=.ok (.f (u6 (cF rs (l.M (bS rs true false) (fV (c.X (bS rs true false)) k))) (bS rs true false)),[]) :=
 E3 hl (r0:=dA rs l c k) (r1:=[]) (dsM:=uO l c k) (j:=2 * k) ⟨[],rfl,rfl,hf⟩ (CR _ rs) (zS _ rs)
  (by rw[show(dA rs l c k).drop (d8 rs).n=Dj (mR l c k) rs from CU _ rs];exact(t3 _ rs).app (Ci l c k))
  (fun s0 e0=>IJ l c k (bS rs true false) h s0 e0) hL n
theorem IY {rs:List aF} (hl:rs.length ≤ 3) (l:Ld) (c:Cr) (k:Nat) (o:c=.c0∨c.Own) (h:(l.base:Int) + (k:Nat) + (c.deep:Nat)=41) (hk:1 ≤ k) (hf:fits (dA rs l c k).length=true) (n:Nat) :
  run TT 5000 (n + (2 * k + 116)) 1478 [.f (.str (dA rs l c k))] []=.raise:=by
 obtain⟨ds,⟨more,e⟩,hR⟩:=I7 l c k (bS rs true false) o h hk
 have ht:=Ci l c k
 rw[e,List.append_assoc]at ht
 obtain⟨r1,h1,_⟩:=ht.cut
 exact Fc hl (r0:=dA rs l c k) (r1:=r1) (dsM:=ds) (j:=2 * k) ⟨[],rfl,rfl,hf⟩ (CR _ rs) (zS _ rs)
  (by rw[show(dA rs l c k).drop (d8 rs).n=Dj (mR l c k) rs from CU _ rs];exact(t3 _ rs).app h1) hR n
end Mine
end
section
namespace Mine
local macro_rules
 | `(tactic| trivial)=>`(tactic| repeat' first
   | exact eT.nil
   | exact iK.nil
   | exact hG.nil
   | exact Tr.none
   | exact Tr.bool _
   | exact Tr.int _
   | exact Tr.str _
   | apply eT.node
   | (apply eT.leaf;first | exact fZ.none | exact fZ.bool _ | exact fZ.int _ | exact fZ.str _)
   | apply eT.lst
   | apply Lo.mk
   | apply iK.cons
   | apply Tr.node
   | apply Tr.lst
   | apply hG.cons
   | exact Nat.le_of_ble_eq_true rfl)
noncomputable def jC (X:FV):Prop:=(∃ k q,X=nd k q)∧(∃ c,c ≤ 100∧∀ N,Lo X (N + 10) c)∧∃ m,m ≤ 200∧Tr X m
theorem Ry (s:Bool):jC (X0 s):=by
 unfold X0
 refine⟨⟨_,_,rfl⟩,?_,?_⟩
 ·apply Exists.intro
  apply And.intro
  case right=>intro N;trivial
  ·decide
 ·apply Exists.intro
  apply And.intro
  case right=>trivial
  ·decide
theorem Q8 (s:Bool):jC (X1 s):=by
 unfold X1
 refine⟨⟨_,_,rfl⟩,?_,?_⟩
 ·apply Exists.intro
  apply And.intro
  case right=>intro N;trivial
  ·decide
 ·apply Exists.intro
  apply And.intro
  case right=>trivial
  ·decide
theorem Q3 (s:Bool):jC (X2 s):=by
 unfold X2
 refine⟨⟨_,_,rfl⟩,?_,?_⟩
 ·apply Exists.intro
  apply And.intro
  case right=>intro N;trivial
  ·decide
 ·apply Exists.intro
  apply And.intro
  case right=>trivial
  ·decide
theorem Q4 (s:Bool):jC (X3 s):=by
 unfold X3
 refine⟨⟨_,_,rfl⟩,?_,?_⟩
 ·apply Exists.intro
  apply And.intro
  case right=>intro N;trivial
  ·decide
 ·apply Exists.intro
  apply And.intro
  case right=>trivial
  ·decide
theorem Rg (s:Bool):jC (X4 s):=by
 unfold X4
 refine⟨⟨_,_,rfl⟩,?_,?_⟩
 ·apply Exists.intro
  apply And.intro
  case right=>intro N;trivial
  ·decide
 ·apply Exists.intro
  apply And.intro
  case right=>trivial
  ·decide
theorem R5 (s:Bool):jC (X5 s):=by
 unfold X5
 refine⟨⟨_,_,rfl⟩,?_,?_⟩
 ·apply Exists.intro
  apply And.intro
  case right=>intro N;trivial
  ·decide
 ·apply Exists.intro
  apply And.intro
  case right=>trivial
  ·decide
theorem Rl (s:Bool):jC (X6 s):=by
 unfold X6
 refine⟨⟨_,_,rfl⟩,?_,?_⟩
 ·apply Exists.intro
  apply And.intro
  case right=>intro N;trivial
  ·decide
 ·apply Exists.intro
  apply And.intro
  case right=>trivial
  ·decide
theorem Ra (s:Bool):jC (X7 s):=by
 unfold X7
 refine⟨⟨_,_,rfl⟩,?_,?_⟩
 ·apply Exists.intro
  apply And.intro
  case right=>intro N;trivial
  ·decide
 ·apply Exists.intro
  apply And.intro
  case right=>trivial
  ·decide
end Mine
end
section
namespace Mine
local macro_rules
 | `(tactic| trivial)=>`(tactic| repeat' first
   | assumption
   | exact eT.nil
   | exact iK.nil
   | exact hG.nil
   | exact Tr.none
   | exact Tr.bool _
   | exact Tr.int _
   | exact Tr.str _
   | apply eT.node
   | (apply eT.leaf;first | exact fZ.none | exact fZ.bool _ | exact fZ.int _ | exact fZ.str _)
   | apply eT.lst
   | apply Lo.mk
   | apply iK.cons
   | apply Tr.node
   | apply Tr.lst
   | apply hG.cons
   | exact Nat.le_of_ble_eq_true rfl)
theorem Cg {X:FV} (h:∃ k q,X=nd k q):∀ k,∃ a b,fV X k=nd a b
 | 0=>h
 | _ + 1=>⟨_,_,rfl⟩
theorem Ce {X:FV}{c:Nat} (hn:∃ k q,X=nd k q) (h:∀ N,Lo X (N + 10) c):∀ k N,Lo (fV X k) (N + k + 10) (c + k)
 | 0,N=>h N
 | k + 1,N=>by
  have:=Ce hn h k N
  obtain⟨a,b,e⟩:=Cg hn k
  show Lo (sN (fV X k)) _ _
  rw[e]at this ⊢
  have r:Lo (sN (nd a b)) (N + k + 10 + 1) (c + k + 0 + 1):=Lo.mk (.leaf (.str _) (.node .nil)) (Nat.le_of_ble_eq_true rfl) (Nat.le_of_ble_eq_true rfl) (.cons (c:=c + k) (d:=0) this .nil)
  rw[show N + (k + 1) + 10=N + k + 10 + 1 by omega]
  exact r
theorem C5 {X:FV}{m:Nat} (h:Tr X m):∀ k,Tr (fV X k) (m + 2 * k)
 | 0=>h
 | k + 1=>by
  have r:Tr (sN (fV X k)) (1 + (m + 2 * k + 0) + 1):=.node (.cons (.str _) (.cons (C5 h k) .nil))
  rw[show m + 2 * (k + 1)=1 + (m + 2 * k + 0) + 1 by omega]
  exact r
noncomputable def kQ (M:FV):Prop:=(∃ c,c ≤ 300∧Lo M 70 c)∧∃ m,m ≤ 500∧Tr M m
noncomputable def CY (Y:FV):Prop:=(∃ k q,Y=nd k q)∧(∃ c,c ≤ 200∧∀ N,Lo Y (N + 60) c)∧∃ m,m ≤ 300∧Tr Y m
theorem Bg {X:FV} (h:jC X) (k:Nat) (hk:k ≤ 45):CY (fV X k):=by
 obtain⟨hn,⟨c,hc,hl⟩,m,hm,ht⟩:=h
 refine⟨Cg hn k,⟨c + k,by omega,fun N=>?_⟩,m + 2 * k,by omega,C5 ht k⟩
 have:=Ce hn hl k (N + (50 - k))
 rw[show N + (50 - k) + k + 10=N + 60 by omega]at this
 exact this
theorem E1 (s:Bool) {Y:FV} (h:CY Y) (l:Ld):kQ (l.M s Y):=by
 obtain⟨⟨k,q,rfl⟩,⟨c,hc,hl⟩,m,hm,ht⟩:=h
 have h6:Lo (nd k q) 66 c:=hl 6
 have h7:Lo (nd k q) 67 c:=hl 7
 have h8:Lo (nd k q) 68 c:=hl 8
 clear hl
 cases l
 all_goals
  refine⟨?_,?_⟩
  ·apply Exists.intro
   apply And.intro
   case right =>
    first | unfold Ld.M M0 | unfold Ld.M M1 | unfold Ld.M M2 | unfold Ld.M M3 | unfold Ld.M M4 | unfold Ld.M M5 | unfold Ld.M M6 | unfold Ld.M M7 | unfold Ld.M M8
    trivial
   ·omega
  ·apply Exists.intro
   apply And.intro
   case right =>
    first | unfold Ld.M M0 | unfold Ld.M M1 | unfold Ld.M M2 | unfold Ld.M M3 | unfold Ld.M M4 | unfold Ld.M M5 | unfold Ld.M M6 | unfold Ld.M M7 | unfold Ld.M M8
    trivial
   ·omega
theorem Cz (r:aF):kQ r.tree:=by
 cases r
 all_goals
  refine⟨?_,?_⟩
  ·apply Exists.intro
   apply And.intro
   case right =>
    show Lo (nd [69,120,112,114] [nd _ [.str _]]) 70 _
    trivial
   ·decide
  ·apply Exists.intro
   apply And.intro
   case right =>
    show Tr (nd [69,120,112,114] [nd _ [.str _]]) _
    trivial
   ·decide
theorem kQ.low {M:FV} (h:kQ M):uD M:=by
 obtain⟨⟨c,hc,hl⟩,_⟩:=h
 exact JC hl (by omega) (by omega)
theorem Cp {M:FV} (h:kQ M):∀ rs:List aF,∃ m,m ≤ 500 + 500 * rs.length∧hG (cF rs M) m
 | []=>by
  obtain⟨_,m,hm,ht⟩:=h
  exact⟨m + 0,by simp;omega,.cons ht .nil⟩
 | r::rs=>by
  obtain⟨m,hm,ht⟩:=Cp h rs
  obtain⟨_,m',hm',ht'⟩:=Cz r
  exact⟨m' + m,by simp only[List.length];omega,.cons ht' ht⟩
theorem Ls {M:FV} (h:kQ M) {rs:List aF} (hl:rs.length ≤ 3) (s:Bool):∃ m,m ≤ 4000∧Tr (u6 (cF rs M) s) m:=by
 obtain⟨m,hm,ht⟩:=Cp h rs
 exact⟨((m + 1) + (1 + 0)) + 1,by omega,.node (.cons (.lst ht) (.cons (.bool s) .nil))⟩
theorem uV {M:FV} (h:kQ M) (rs:List aF):∀ x ∈ cF rs M,uD x:=by
 intro x hx
 rcases List.mem_append.1 hx with hx | hx
 ·obtain⟨r,_,rfl⟩:=List.mem_map.1 hx
  exact(Cz r).low
 ·cases hx with
  | head=>exact h.low
  | tail _ h=>cases h
theorem pR (a b:List Nat):∀ k,a8 k (a++b)=a8 k a++b
 | 0=>rfl
 | k + 1=>by show 33::a8 k (a++b)=_;rw[pR a b k];rfl
noncomputable def Ld.sw:Ld→List Nat→List Nat
 | .l0=>KE | .l1=>L5 | .l2=>L3 | .l3=>JU | .l4=>Jw | .l5=>KB | .l6=>LM | .l7=>K9 | .l8=>JQ
theorem Mp (w:List Nat) (l:Ld):l.sw w=40::(l.preT++(bl l.tr++(w++(l.E.hd::l.rest)))):=by
 cases l<;>simp[Ld.sw,KE,L5,L3,JU,Jw,KB,LM,K9,JQ,Ld.preT,Ld.tr,bl,Ld.E,Et.hd,Ld.rest]
theorem Nu (l:Ld) (c:Cr) (k:Nat):l.sw (a8 k c.txt)=40::mR l c k:=by
 rw[Mp,← pR];rfl
theorem P7 (l:Ld) (s:Bool) (j:Nat) (X:FV) (w:List Nat) (hw:w.length ≤ 2000) (H:∀ b:Int,b ≤ 13→d7 (j + 25) X b w):iF (j + 50) (l.M s X) (l.sw w):=by
 cases l
 ·exact Qg s j X w hw (H _ (by decide))
 ·exact Rw s j X w hw (H _ (by decide))
 ·exact Rc s j X w hw (H _ (by decide))
 ·exact RR s j X w hw (H _ (by decide))
 ·exact QL s j X w hw (H _ (by decide))
 ·exact RN s j X w hw (H _ (by decide))
 ·exact QU s j X w hw (H _ (by decide))
 ·exact Qw s j X w hw (H _ (by decide))
 ·exact Q2 s j X w hw (H _ (by decide))
inductive e8 where
 | o0 | o1 | o2 | o3 | o4 | o5 | o6 | o7
noncomputable def e8.c:e8→Cr
 | .o0=>.c0 | .o1=>.c1 | .o2=>.c2 | .o3=>.c3 | .o4=>.c4 | .o5=>.c5 | .o6=>.c6 | .o7=>.c7
noncomputable def e8.c2 (s:Bool):e8→Cr
 | .o0=>.c0 | .o1=>(match s with | true=>.c8 | false=>.c1) | .o2=>(match s with | true=>.c10 | false=>.c9) | .o3=>.c3 | .o4=>.c11 | .o5=>.c12 | .o6=>.c6 | .o7=>.c7
theorem L7 (o:e8):o.c=.c0∨o.c.Own:=by
 cases o
 ·exact .inl rfl
 all_goals exact .inr (by constructor)
theorem Gg (s:Bool) (o:e8):(o.c2 s).X s=o.c.X s:=by cases o<;>cases s<;>rfl
theorem Fp (s:Bool) (o:e8):(o.c2 s).deep ≤ o.c.deep:=by cases o<;>cases s<;>decide
theorem yV (s:Bool) (o:e8):jC (o.c.X s):=by
 cases o
 ·exact Ry s
 ·exact Q8 s
 ·exact Q3 s
 ·exact Q4 s
 ·exact Rg s
 ·exact R5 s
 ·exact Rl s
 ·exact Ra s
theorem Kh (s:Bool) (o:e8) (b:Int) (h:b ≤ 13):d7 45 (o.c.X s) b (o.c2 s).txt:=by
 cases o
 ·exact RB s b h
 ·cases s
  ·exact OL false b h
  ·exact OL true b h
 ·cases s
  ·exact Oc false b h
  ·exact Oc true b h
 ·exact QV s b h
 ·exact RV s b h
 ·exact Rh s b h
 ·exact RT s b h
 ·exact Qm s b h
theorem sS (c:Cr):c.txt.length ≤ 100:=by cases c<;>decide
theorem sU (l:Ld):l.preT.length ≤ 100∧l.rest.length ≤ 100:=by cases l<;>decide
theorem nG (l:Ld) (c:Cr) (k:Nat):(mR l c k).length ≤ 400 + k:=by
 have h1:=sS c
 have h2:=sU l
 have h3:(bl l.tr).length ≤ 1:=by cases l<;>decide
 unfold mR
 simp only[List.length_append,fW,List.length_cons]
 omega
theorem Db (w:List Nat):∀ rs:List aF,(jt rs w).length ≤ 20 * rs.length + w.length
 | []=>by simp[jt]
 | r::rs=>by
  have:=Db w rs
  have:r.txt.length ≤ 16:=by cases r<;>decide
  simp only[jt,List.length_append,List.length_cons,List.length_nil]
  omega
theorem tZ {rs:List aF} (hl:rs.length ≤ 3) (l:Ld) (c:Cr) (k:Nat) (hk:k ≤ 50):fits (dA rs l c k).length=true:=by
 have h1:=Db (40::mR l c k) rs
 have h2:=nG l c k
 unfold dA
 simp only[List.length_cons]at h1
 exact cO (by omega)
noncomputable def Ld.kd:Ld→List Nat
 | .l0=>[66,105,110,97,114,121] | .l1=>[65,115,115,105,103,110] | .l2=>[67,97,108,108] | .l3=>[73,110,100,101,120] | .l4=>[67,111,109,109,97] | .l5=>[67,111,110,100] | .l6=>[67,97,108,108] | .l7=>[76,111,103,105,99,97,108] | .l8=>[67,111,109,109,97]
theorem K5 (s:Bool) (X:FV) (l:Ld):∃ ps,l.M s X=u4 (nd l.kd ps):=by
 cases l<;>exact⟨_,rfl⟩
theorem Mx (l:Ld):gF l.kd [83,116,114]=false:=by cases l<;>rfl
theorem Lp:fM.map (fun rs=>bS (b7 (bS rs true false) true rs) true false)=fM.map (fun rs=>bS rs true false):=by kernel_rfl
theorem CG (rs:List aF) (h:rs.length ≤ 3):bS (b7 (bS rs true false) true rs) true false=bS rs true false:=List.map_inj_left.mp Lp rs (nM rs h)
theorem Ch (s h:Bool) (r:aF):(lC s h r).tree=r.tree:=by cases r<;>cases s<;>cases h<;>rfl
theorem mI (s:Bool) (M:FV):∀ (h:Bool) (rs:List aF),cF (b7 s h rs) M=cF rs M
 | _,[]=>rfl
 | h,r::rs=>by
  show(lC s h r).tree::cF (b7 s (h&&kS r) rs) M=r.tree::cF rs M
  rw[Ch,mI s M _ rs]
theorem B2 (s:Bool) {rs:List aF} (h:rs.length ≤ 3):(b7 s true rs).length ≤ 3:=by rw[pJ];exact h
noncomputable def tW (rs:List aF):List FV:=rs.map fun r=>.str r.txt
theorem Ak (vs:List FV):fM.map (fun rs=>dE Pc 10 1519 [.f (.lst (tW rs))] [.lst vs] [] [] [] [])=fM.map (fun rs=>some (.ok (.f (.bool (bS rs true false)),[.lst vs]),[],[],[])):=by kernel_rfl
theorem lH (vs:List FV) (k:Nat) (rs:List aF) (h:rs.length ≤ 3):run TT 5000 (k + 10) 1519 [.f (.lst (tW rs))] [.lst vs]=.ok (.f (.bool (bS rs true false)),[.lst vs]) :=
 aI (P:=Pc) (n:=10) (List.map_inj_left.mp (Ak vs) rs (nM rs h)) k mn mn mn
theorem HU (C:bW) (t:List Nat) (vs:List FV):cG TT C 5000 1512 [.f (.str t)] [.lst vs]=cG TT (fun _ _ _=>C 1478 [.f (.str t)] []) 5000 1512 [.f (.str t)] [.lst vs]:=by kernel_rfl
theorem GW {n:Nat}{t:List Nat}{x:FV} (h:run TT 5000 n 1478 [.f (.str t)] []=.ok (.f x,[])) (vs:List FV):run TT 5000 (n + 1) 1512 [.f (.str t)] [.lst vs]=.ok (.f x,[.lst vs]):=by
 show cG TT (run TT 5000 n) 5000 1512 [.f (.str t)] [.lst vs]=_
 rw[HU,h]
 kernel_rfl
theorem MZ {n:Nat}{t:List Nat} (h:run TT 5000 n 1478 [.f (.str t)] []=.raise) (vs:List FV):run TT 5000 (n + 1) 1512 [.f (.str t)] [.lst vs]=.ok (.f .none,[.lst vs]):=by
 show cG TT (run TT 5000 n) 5000 1512 [.f (.str t)] [.lst vs]=_
 rw[HU,h]
 kernel_rfl
end Mine
end
section
namespace Mine
theorem cZ {α:Type}{p:α→Prop}:∀ e ∈ ([]:List α),p e:=fun _ h=>nomatch h
theorem NZ (xs:List Int):cut (iL xs) none (some 20)=iL (xs.take 20):=by
 unfold cut
 simp only[Option.elim,List.drop_zero,Nat.sub_zero]
 have:clipAt (iL xs).length 20=min 20 xs.length:=by rw[← lD xs];exact rM _ 20
 rw[this]
 unfold iL
 rw[List.map_take]
 rw[List.take_eq_take_iff]
 simp
theorem qH {xs:List Int} (h:xs.length ≤ 63) (st:St):eH false (.f (.lst (iL xs))) none (some 20) st=some (.f (.lst (iL (xs.take 20))),st):=by
 show gd (fits (iL xs).length) (gS false false (cut (iL xs) none (some 20)) st)=_
 rw[cO (by rw[lD];omega),NZ]
 show gS false false (iL (xs.take 20)) st=_
 unfold gS
 rw[cO (by rw[lD];simp;omega)];rfl
theorem tI {xs:List Int} (h:xs.length ≤ 63) (st:St):jR TT .list 1428 [.f (.lst (iL xs))] st=some (.f (.lst (iL xs)),st):=by
 have e:jR TT .list 1428 [.f (.lst (iL xs))] st=gS false false (iL xs) st:=by kernel_rfl
 rw[e]
 unfold gS
 rw[cO (by rw[lD];omega)];rfl
theorem CH:∀ xs:List Int,∃ s,yD (iL xs)=some s
 | []=>⟨0,rfl⟩
 | x::xs=>by
  obtain⟨s,e⟩:=CH xs
  refine⟨x + s,?_⟩
  show(yD (iL xs)).bind (fun j=>some (x + j))=_
  rw[e];rfl
theorem MS (xs:List Int):∃ s,∀ st,uC (iL xs) st=some (.f (.int s)):=by
 obtain⟨s,e⟩:=CH xs
 refine⟨s,fun st=>?_⟩
 show(yD (iL xs)).bind (fun i=>some (PV.f (.int i)))=_
 rw[e];rfl
theorem IS (i:Nat) (h:(i:Int) < 9):∃ l:Ld,∀ st,bJ (.f qD) (.f (.int (i:Nat))) st=some (.f (.tup [.str (40::(l.preT++bl l.tr)),.str (l.E.hd::l.rest),.int (l.base:Nat)])):=by
 match i,h with
 | 0,_=>exact⟨.l0,fun st=>by kernel_rfl⟩
 | 1,_=>exact⟨.l1,fun st=>by kernel_rfl⟩
 | 2,_=>exact⟨.l2,fun st=>by kernel_rfl⟩
 | 3,_=>exact⟨.l3,fun st=>by kernel_rfl⟩
 | 4,_=>exact⟨.l4,fun st=>by kernel_rfl⟩
 | 5,_=>exact⟨.l5,fun st=>by kernel_rfl⟩
 | 6,_=>exact⟨.l6,fun st=>by kernel_rfl⟩
 | 7,_=>exact⟨.l7,fun st=>by kernel_rfl⟩
 | 8,_=>exact⟨.l8,fun st=>by kernel_rfl⟩
 | n + 9,h=>omega
theorem Iq (i:Nat) (h:(i:Int) < 8):∃ o:e8,∀ st,bJ (.f pV) (.f (.int (i:Nat))) st=some (.f (.tup [.str o.c.txt,.int (o.c.deep:Nat)])):=by
 match i,h with
 | 0,_=>exact⟨.o0,fun st=>by kernel_rfl⟩
 | 1,_=>exact⟨.o1,fun st=>by kernel_rfl⟩
 | 2,_=>exact⟨.o2,fun st=>by kernel_rfl⟩
 | 3,_=>exact⟨.o3,fun st=>by kernel_rfl⟩
 | 4,_=>exact⟨.o4,fun st=>by kernel_rfl⟩
 | 5,_=>exact⟨.o5,fun st=>by kernel_rfl⟩
 | 6,_=>exact⟨.o6,fun st=>by kernel_rfl⟩
 | 7,_=>exact⟨.o7,fun st=>by kernel_rfl⟩
 | n + 8,h=>omega
theorem w1 (i:Nat) (h:(i:Int) < 5):∃ r:aF,∀ st,bJ (.f f9) (.f (.int (i:Nat))) st=some (.f (.str r.txt)):=by
 match i,h with
 | 0,_=>exact⟨.e,fun st=>by kernel_rfl⟩
 | 1,_=>exact⟨.p,fun st=>by kernel_rfl⟩
 | 2,_=>exact⟨.u,fun st=>by kernel_rfl⟩
 | 3,_=>exact⟨.a,fun st=>by kernel_rfl⟩
 | 4,_=>exact⟨.n,fun st=>by kernel_rfl⟩
 | n + 5,h=>omega
theorem IC (i:Nat) (h:(i:Int) < 6) (L:Int) (hL:3 ≤ L):∃ mn:Nat,(mn:Int) ≤ L + 1∧∀ st,bJ (.f (nV L)) (.f (.int (i:Nat))) st=some (.f (.int (Int.ofNat mn))):=by
 have g:∀ (i:Nat) (y:Int),nth [FV.int L,.int (L + 1),.int (L - 1),.int 2,.int 0,.int 1] i=some (.int y)→i < 6→∀ st,bJ (.f (nV L)) (.f (.int (i:Nat))) st=some (.f (.int y)):=by
  intro i y e hi st
  have h1:Nat.blt i [FV.int L,.int (L + 1),.int (L - 1),.int 2,.int 0,.int 1].length=true:=Nat.ble_eq_true_of_le hi
  have h2:fits i=true:=cO (by omega)
  show(gd (Nat.blt i [FV.int L,.int (L + 1),.int (L - 1),.int 2,.int 0,.int 1].length) (gd (fits i) (some i))).bind (fun j=>(nth [FV.int L,.int (L + 1),.int (L - 1),.int 2,.int 0,.int 1] j).bind fun y=>some (PV.f y))=_
  rw[h1,h2]
  show(nth [FV.int L,.int (L + 1),.int (L - 1),.int 2,.int 0,.int 1] i).bind _=_
  rw[e];rfl
 have c:∀ y:Int,0 ≤ y→Int.ofNat y.toNat=y:=fun y h=>Int.toNat_of_nonneg h
 match i,h with
 | 0,_=>exact⟨L.toNat,by omega,by rw[c L (by omega)];exact g 0 _ rfl (by omega)⟩
 | 1,_=>exact⟨(L + 1).toNat,by omega,by rw[c (L + 1) (by omega)];exact g 1 _ rfl (by omega)⟩
 | 2,_=>exact⟨(L - 1).toNat,by omega,by rw[c (L - 1) (by omega)];exact g 2 _ rfl (by omega)⟩
 | 3,_=>exact⟨2,by omega,g 3 _ rfl (by omega)⟩
 | 4,_=>exact⟨0,by omega,g 4 _ rfl (by omega)⟩
 | 5,_=>exact⟨1,by omega,g 5 _ rfl (by omega)⟩
 | n + 6,h=>omega
theorem pU (n:Nat) (h:n ≤ 1000):∀ st,wF (Int.ofNat n) st=some (.f (.str (a8 n []))):=by
 intro st
 show(gd (Nat.blt n 1000000) (some (FV.str ((List.replicate n [33]).flatten)))).bind (fun z=>some (PV.f z))=_
 have h1:Nat.blt n 1000000=true:=Nat.ble_eq_true_of_le (by omega)
 rw[h1]
 have e:∀ n,(List.replicate n [33]).flatten=a8 n []:=by
  intro n;induction n with
  | zero=>rfl
  | succ n ih=>rw[List.replicate_succ,List.flatten_cons,ih];rfl
 rw[e];rfl
theorem o9 (l:Ld) (c:Cr) (k:Nat):(((40::(l.preT++bl l.tr))++a8 k [])++c.txt)++(l.E.hd::l.rest)=40::mR l c k:=by
 have:=pR [] (c.txt++(l.E.hd::l.rest)) k
 unfold mR
 rw[List.nil_append]at this
 rw[this]
 simp only[List.cons_append,List.append_assoc]
theorem xP (b:Bool):(bl b).length ≤ 1:=by cases b<;>decide
theorem AW (l:Ld) (k:Nat) (h:k ≤ 100):fits ((40::(l.preT++bl l.tr)).length + (a8 k []).length)=true:=by
 have h1:=sU l;have h2:=xP l.tr
 refine cO ?_
 simp only[List.length_append,List.length_cons,fW,List.length_nil];omega
theorem AV (l:Ld) (c:Cr) (k:Nat) (h:k ≤ 100):fits (((40::(l.preT++bl l.tr))++a8 k []).length + c.txt.length)=true:=by
 have h1:=sU l;have h2:=xP l.tr;have h3:=sS c
 refine cO ?_
 simp only[List.length_append,List.length_cons,fW,List.length_nil];omega
theorem Bd (l:Ld) (c:Cr) (k:Nat) (h:k ≤ 100):fits ((((40::(l.preT++bl l.tr))++a8 k [])++c.txt).length + (l.E.hd::l.rest).length)=true:=by
 have h1:=sU l;have h2:=xP l.tr;have h3:=sS c
 refine cO ?_
 simp only[List.length_append,List.length_cons,fW,List.length_nil];omega
theorem qO (l:Ld) (o:e8):l.base ≤ 3∧2 ≤ l.base∧o.c.deep ≤ 5:=by
 refine⟨?_,?_,?_⟩
 ·cases l<;>decide
 ·cases l<;>decide
 ·cases o<;>decide
theorem jL {a b:Int}{v:Bool} (h:decide (b < a)=v):tN a b=some v:=by
 show(some (decide (b < a)))=_
 rw[h]
theorem sP (s:Bool):CD s=some false:=by cases s<;>rfl
theorem s6 (s:Bool):DT s=some true:=by cases s<;>rfl
section
variable {rs:List aF} (hl:rs.length ≤ 3) (l:Ld) (o:e8) (mn:Nat) (h:(l.base:Int) + (mn:Nat) + (o.c.deep:Nat) ≤ 40) (vs:List FV) (k:Nat)
include hl h
theorem v5:run TT 5000 (k + 219) 1512 [.f (.str (dA rs l o.c mn))] [.lst vs]=.ok (.f (u6 (cF rs (l.M (bS rs true false) (fV (o.c.X (bS rs true false)) mn))) (bS rs true false)),[.lst vs]):=by
 have hb:=qO l o
 have hM:=E1 (bS rs true false) (Bg (yV (bS rs true false) o) mn (by omega)) l
 have:=AH hl l o.c mn h (tZ hl l o.c mn (by omega)) (uV hM rs) (k + 218 - (2 * mn + 116))
 rw[show k + 218 - (2 * mn + 116) + (2 * mn + 116)=k + 218 by omega]at this
 exact GW this vs
theorem v0:run TT 5000 (k + 219) 1512 [.f (.str (dA (b7 (bS rs true false) true rs) l (o.c2 (bS rs true false)) mn))] [.lst vs]=.ok (.f (u6 (cF rs (l.M (bS rs true false) (fV (o.c.X (bS rs true false)) mn))) (bS rs true false)),[.lst vs]):=by
 have hb:=qO l o
 have hd:=Fp (bS rs true false) o
 have hl2:=B2 (bS rs true false) hl
 have hM:=E1 (bS rs true false) (Bg (yV (bS rs true false) o) mn (by omega)) l
 have:=AH hl2 l (o.c2 (bS rs true false)) mn (by omega) (tZ hl2 l _ mn (by omega)) (by
  rw[CG rs hl,Gg,mI];exact uV hM rs) (k + 218 - (2 * mn + 116))
 rw[show k + 218 - (2 * mn + 116) + (2 * mn + 116)=k + 218 by omega,CG rs hl,Gg,mI]at this
 exact GW this vs
theorem lZ:run TT 5000 (k + 219) 527 [.f (u6 (cF rs (l.M (bS rs true false) (fV (o.c.X (bS rs true false)) mn))) (bS rs true false))] [.lst vs]=.ok (.f (.str (dA (b7 (bS rs true false) true rs) l (o.c2 (bS rs true false)) mn)),[.lst vs]):=by
 have hb:=qO l o
 generalize hs:bS rs true false=s
 have hc:=sS (o.c2 s)
 have h1:∀ b:Int,b ≤ 13→d7 (20 + 3 * mn + 25) (fV (o.c.X s) mn) b (a8 mn (o.c2 s).txt):=fun b hb'=>by
  have:=yS (by omega) (Kh s o) mn (by omega) b hb'
  rw[show 45 + 3 * mn=20 + 3 * mn + 25 by omega]at this
  exact this
 have h2:=P7 l s (20 + 3 * mn) _ _ (by rw[fW];omega) h1
 rw[Nu]at h2
 obtain⟨ps,e⟩:=K5 s (fV (o.c.X s) mn) l
 rw[e]at h2 ⊢
 have hw:(40::mR l (o.c2 s) mn).length ≤ 2000:=by have:=nG l (o.c2 s) mn;simp only[List.length_cons];omega
 have:=JJ hl s (Mx l) hw h2 vs (k + 219 - (20 + 3 * mn + 52))
 rw[show k + 219 - (20 + 3 * mn + 52) + (20 + 3 * mn + 52)=k + 219 by omega]at this
 exact this
theorem vY:run TT 5000 (k + 219) 61 [.f (u6 (cF rs (l.M (bS rs true false) (fV (o.c.X (bS rs true false)) mn))) (bS rs true false)),.f (u6 (cF rs (l.M (bS rs true false) (fV (o.c.X (bS rs true false)) mn))) (bS rs true false))] [.lst vs]=.ok (.f (.bool true),[.lst vs]):=by
 have hb:=qO l o
 have hM:=E1 (bS rs true false) (Bg (yV (bS rs true false) o) mn (by omega)) l
 obtain⟨m,hm,ht⟩:=Ls hM hl (bS rs true false)
 rw[show k + 219=(k + 212) + 7 by omega]
 exact JB ht hm vs (k + 212)
end
theorem v6 {rs:List aF} (hl:rs.length ≤ 3) (l:Ld) (o:e8) (mn:Nat) (h:(l.base:Int) + (mn:Nat) + (o.c.deep:Nat)=41) (vs:List FV) (k:Nat):run TT 5000 (k + 219) 1512 [.f (.str (dA rs l o.c mn))] [.lst vs]=.ok (.f .none,[.lst vs]):=by
 have hb:=qO l o
 have:=IY hl l o.c mn (L7 o) h (by omega) (tZ hl l o.c mn (by omega)) (k + 218 - (2 * mn + 116))
 rw[show k + 218 - (2 * mn + 116) + (2 * mn + 116)=k + 218 by omega]at this
 exact MZ this vs
structure Dg (xs zs:List Int) (sm:Int) (i1 i2 i3:Nat) (l:Ld) (o:e8) (mn:Nat):Prop where
 hzs:zs=xs.take 20
 hx:xs.length ≤ 63
 hsm:∀ st,uC (iL zs) st=some (.f (.int sm))
 p1:∀ n,run TT 5000 (n + 10) 1505 [.ref 0,.f (.int 9)] [.lst (aA zs 0 (Int.fmod sm 997))]=.ok (.f (.int i1),[.lst (aA zs (0 + 1) (Int.fmod sm 997))])
 p2:∀ n,run TT 5000 (n + 10) 1505 [.ref 0,.f (.int 8)] [.lst (aA zs 1 (Int.fmod sm 997))]=.ok (.f (.int i2),[.lst (aA zs (1 + 1) (Int.fmod sm 997))])
 p3:∀ n,run TT 5000 (n + 10) 1505 [.ref 0,.f (.int 6)] [.lst (aA zs 2 (Int.fmod sm 997))]=.ok (.f (.int i3),[.lst (aA zs (2 + 1) (Int.fmod sm 997))])
 hi1:∀ st,bJ (.f qD) (.f (.int (i1:Nat))) st=some (.f (.tup [.str (40::(l.preT++bl l.tr)),.str (l.E.hd::l.rest),.int (l.base:Nat)]))
 hi2:∀ st,bJ (.f pV) (.f (.int (i2:Nat))) st=some (.f (.tup [.str o.c.txt,.int (o.c.deep:Nat)]))
 hi3:∀ st,bJ (.f (nV (40 - (l.base:Nat) - (o.c.deep:Nat)))) (.f (.int (i3:Nat))) st=some (.f (.int (Int.ofNat mn)))
 hmn:(mn:Int) ≤ 40 - (l.base:Nat) - (o.c.deep:Nat) + 1
theorem Kg {xs zs:List Int}{sm:Int}{i1 i2 i3:Nat}{l:Ld}{o:e8}{mn:Nat} (h:Dg xs zs sm i1 i2 i3 l o mn) (p4:∀ n,run TT 5000 (n + 10) 1505 [.ref 0,.f (.int 4)] [.lst (aA zs 3 (Int.fmod sm 997))]=.ok (.f (.int 0),[.lst (aA zs (3 + 1) (Int.fmod sm 997))])) (k:Nat):run TT 5000 (k + 220) 1524 [.f (.lst (iL xs))] []=.ok (.f (.bool true),[]):=by
 obtain⟨hzs,hx,hsm,p1,p2,p3,hi1,hi2,hi3,hmn⟩:=h
 have hb:=qO l o
 have h1:∀ st,eH false (.f (.lst (iL xs))) none (some 20) st=some (.f (.lst (iL zs)),st):=fun st=>by rw[hzs];exact qH hx st
 have h2:∀ st,jR TT .list 1428 [.f (.lst (iL zs))] st=some (.f (.lst (iL zs)),st):=fun st=>tI (by rw[hzs];simp;omega) st
 have hj:oO [32] [.str ((((40::(l.preT++bl l.tr))++a8 mn [])++o.c.txt)++(l.E.hd::l.rest))]=some (.f (.str ((((40::(l.preT++bl l.tr))++a8 mn [])++o.c.txt)++(l.E.hd::l.rest)))):=by
  rw[o9]
  obtain⟨n,e1,e2⟩:=eR (40::mR l o.c mn) ([]:List aF)
  have e3:=nG l o.c mn
  refine fK (w:=[]) e1 (f6 (40::mR l o.c mn) ([]:List aF)) (by decide) ?_
  simp only[List.length_cons,List.length_nil]at e2 e3 ⊢
  omega
 have hT:((((40::(l.preT++bl l.tr))++a8 mn [])++o.c.txt)++(l.E.hd::l.rest))=(dA ([]:List aF) l o.c mn):=by rw[o9];rfl
 have hD:∀ x ∈ Ln 219 xs zs sm i1 i2 i3 (l.base:Nat) (o.c.deep:Nat) mn (40::(l.preT++bl l.tr)) (l.E.hd::l.rest) o.c.txt (a8 mn []),P0.Holds k x:=mc (h1 _) (mc (h2 _) (mc (h1 _) (mc hsm (mc (p1 _) (mc hi1 (mc (p2 _) (mc hi2 (mc (p3 _) (mc hi3 (mc (p4 _) (mc (pU mn (by omega)) (mc (AW l mn (by omega)) (mc (AV l o.c mn (by omega)) (mc (Bd l o.c mn (by omega)) (mc hj (cZ))))))))))))))))
 have hl:([]:List aF).length ≤ 3:=Nat.le_of_ble_eq_true rfl
 by_cases hm:(mn:Int) ≤ 40 - (l.base:Nat) - (o.c.deep:Nat)
 ·have hh:(l.base:Int) + (mn:Nat) + (o.c.deep:Nat) ≤ 40:=by omega
  have H:=Rp 219 xs zs sm i1 i2 i3 (l.base:Nat) (o.c.deep:Nat) mn (40::(l.preT++bl l.tr)) (l.E.hd::l.rest) o.c.txt (a8 mn []) (cF ([]:List aF) (l.M (bS ([]:List aF) true false) (fV (o.c.X (bS ([]:List aF) true false)) mn))) (bS ([]:List aF) true false) (dA (b7 (bS ([]:List aF) true false) true ([]:List aF)) l (o.c2 (bS ([]:List aF) true false)) mn)
  rw[hT]at H hj
  exact aI H k cZ cZ (eB hD (mc (v5 hl l o mn hh _ k) (mc (jL (decide_eq_false (by show ¬ (_ < Int.ofNat mn);simp only[Int.ofNat_eq_natCast];omega))) (mc (by show run TT 5000 (k + 219) 1519 [.f (.lst (tW ([]:List aF)))] _=_;rw[show k + 219=(k + 209) + 10 by omega];exact lH _ (k + 209) ([]:List aF) hl) (mc (sP _) (mc (lZ hl l o mn hh _ k) (mc (v0 hl l o mn hh _ k) (mc (vY hl l o mn hh _ k) (mc (s6 _) (mc (lZ hl l o mn hh _ k) (mc (mV (.str _)) cZ)))))))))))
 ·have hh:(l.base:Int) + (mn:Nat) + (o.c.deep:Nat)=41:=by omega
  have H:=QR 219 xs zs sm i1 i2 i3 (l.base:Nat) (o.c.deep:Nat) mn (40::(l.preT++bl l.tr)) (l.E.hd::l.rest) o.c.txt (a8 mn [])
  rw[hT]at H hj
  exact aI H k cZ cZ (eB hD (mc (v6 hl l o mn hh _ k) (mc (jL (decide_eq_true (by show _ < Int.ofNat mn;simp only[Int.ofNat_eq_natCast];omega))) cZ)))
theorem Kd {xs zs:List Int}{sm:Int}{i1 i2 i3:Nat}{l:Ld}{o:e8}{mn:Nat} (h:Dg xs zs sm i1 i2 i3 l o mn) (p4:∀ n,run TT 5000 (n + 10) 1505 [.ref 0,.f (.int 4)] [.lst (aA zs 3 (Int.fmod sm 997))]=.ok (.f (.int 1),[.lst (aA zs (3 + 1) (Int.fmod sm 997))])) (q0:Nat) (hq0:∀ n,run TT 5000 (n + 10) 1505 [.ref 0,.f (.int 5)] [.lst (aA zs 4 (Int.fmod sm 997))]=.ok (.f (.int q0),[.lst (aA zs (4 + 1) (Int.fmod sm 997))])) (r0:aF) (hr0:∀ st,bJ (.f f9) (.f (.int (q0:Nat))) st=some (.f (.str (r0).txt))) (k:Nat):run TT 5000 (k + 220) 1524 [.f (.lst (iL xs))] []=.ok (.f (.bool true),[]):=by
 obtain⟨hzs,hx,hsm,p1,p2,p3,hi1,hi2,hi3,hmn⟩:=h
 have hb:=qO l o
 have h1:∀ st,eH false (.f (.lst (iL xs))) none (some 20) st=some (.f (.lst (iL zs)),st):=fun st=>by rw[hzs];exact qH hx st
 have h2:∀ st,jR TT .list 1428 [.f (.lst (iL zs))] st=some (.f (.lst (iL zs)),st):=fun st=>tI (by rw[hzs];simp;omega) st
 have hj:oO [32] [.str (r0).txt,.str ((((40::(l.preT++bl l.tr))++a8 mn [])++o.c.txt)++(l.E.hd::l.rest))]=some (.f (.str (((r0).txt++[32])++((((40::(l.preT++bl l.tr))++a8 mn [])++o.c.txt)++(l.E.hd::l.rest))))):=by
  rw[o9]
  obtain⟨n,e1,e2⟩:=eR (40::mR l o.c mn) ([r0]:List aF)
  have e3:=nG l o.c mn
  refine fK (w:=[]) e1 (f6 (40::mR l o.c mn) ([r0]:List aF)) (by decide) ?_
  simp only[List.length_cons,List.length_nil]at e2 e3 ⊢
  omega
 have hT:(((r0).txt++[32])++((((40::(l.preT++bl l.tr))++a8 mn [])++o.c.txt)++(l.E.hd::l.rest)))=(dA ([r0]:List aF) l o.c mn):=by rw[o9];rfl
 have hD:∀ x ∈ KK 219 xs zs sm i1 i2 i3 (l.base:Nat) (o.c.deep:Nat) mn (40::(l.preT++bl l.tr)) (l.E.hd::l.rest) o.c.txt (a8 mn []) q0 (r0).txt,P0.Holds k x:=mc (h1 _) (mc (h2 _) (mc (h1 _) (mc hsm (mc (p1 _) (mc hi1 (mc (p2 _) (mc hi2 (mc (p3 _) (mc hi3 (mc (p4 _) (mc (hq0 _) (mc hr0 (mc (pU mn (by omega)) (mc (AW l mn (by omega)) (mc (AV l o.c mn (by omega)) (mc (Bd l o.c mn (by omega)) (mc hj (cZ))))))))))))))))))
 have hl:([r0]:List aF).length ≤ 3:=Nat.le_of_ble_eq_true rfl
 by_cases hm:(mn:Int) ≤ 40 - (l.base:Nat) - (o.c.deep:Nat)
 ·have hh:(l.base:Int) + (mn:Nat) + (o.c.deep:Nat) ≤ 40:=by omega
  have H:=RH 219 xs zs sm i1 i2 i3 (l.base:Nat) (o.c.deep:Nat) mn (40::(l.preT++bl l.tr)) (l.E.hd::l.rest) o.c.txt (a8 mn []) q0 (r0).txt (cF ([r0]:List aF) (l.M (bS ([r0]:List aF) true false) (fV (o.c.X (bS ([r0]:List aF) true false)) mn))) (bS ([r0]:List aF) true false) (dA (b7 (bS ([r0]:List aF) true false) true ([r0]:List aF)) l (o.c2 (bS ([r0]:List aF) true false)) mn)
  rw[hT]at H hj
  exact aI H k cZ cZ (eB hD (mc (v5 hl l o mn hh _ k) (mc (jL (decide_eq_false (by show ¬ (_ < Int.ofNat mn);simp only[Int.ofNat_eq_natCast];omega))) (mc (by show run TT 5000 (k + 219) 1519 [.f (.lst (tW ([r0]:List aF)))] _=_;rw[show k + 219=(k + 209) + 10 by omega];exact lH _ (k + 209) ([r0]:List aF) hl) (mc (sP _) (mc (lZ hl l o mn hh _ k) (mc (v0 hl l o mn hh _ k) (mc (vY hl l o mn hh _ k) (mc (s6 _) (mc (lZ hl l o mn hh _ k) (mc (mV (.str _)) cZ)))))))))))
 ·have hh:(l.base:Int) + (mn:Nat) + (o.c.deep:Nat)=41:=by omega
  have H:=Qd 219 xs zs sm i1 i2 i3 (l.base:Nat) (o.c.deep:Nat) mn (40::(l.preT++bl l.tr)) (l.E.hd::l.rest) o.c.txt (a8 mn []) q0 (r0).txt
  rw[hT]at H hj
  exact aI H k cZ cZ (eB hD (mc (v6 hl l o mn hh _ k) (mc (jL (decide_eq_true (by show _ < Int.ofNat mn;simp only[Int.ofNat_eq_natCast];omega))) cZ)))
theorem Jl {xs zs:List Int}{sm:Int}{i1 i2 i3:Nat}{l:Ld}{o:e8}{mn:Nat} (h:Dg xs zs sm i1 i2 i3 l o mn) (p4:∀ n,run TT 5000 (n + 10) 1505 [.ref 0,.f (.int 4)] [.lst (aA zs 3 (Int.fmod sm 997))]=.ok (.f (.int 2),[.lst (aA zs (3 + 1) (Int.fmod sm 997))])) (q0:Nat) (hq0:∀ n,run TT 5000 (n + 10) 1505 [.ref 0,.f (.int 5)] [.lst (aA zs 4 (Int.fmod sm 997))]=.ok (.f (.int q0),[.lst (aA zs (4 + 1) (Int.fmod sm 997))])) (r0:aF) (hr0:∀ st,bJ (.f f9) (.f (.int (q0:Nat))) st=some (.f (.str (r0).txt))) (q1:Nat) (hq1:∀ n,run TT 5000 (n + 10) 1505 [.ref 0,.f (.int 5)] [.lst (aA zs 5 (Int.fmod sm 997))]=.ok (.f (.int q1),[.lst (aA zs (5 + 1) (Int.fmod sm 997))])) (r1:aF) (hr1:∀ st,bJ (.f f9) (.f (.int (q1:Nat))) st=some (.f (.str (r1).txt))) (k:Nat):run TT 5000 (k + 220) 1524 [.f (.lst (iL xs))] []=.ok (.f (.bool true),[]):=by
 obtain⟨hzs,hx,hsm,p1,p2,p3,hi1,hi2,hi3,hmn⟩:=h
 have hb:=qO l o
 have h1:∀ st,eH false (.f (.lst (iL xs))) none (some 20) st=some (.f (.lst (iL zs)),st):=fun st=>by rw[hzs];exact qH hx st
 have h2:∀ st,jR TT .list 1428 [.f (.lst (iL zs))] st=some (.f (.lst (iL zs)),st):=fun st=>tI (by rw[hzs];simp;omega) st
 have hj:oO [32] [.str (r0).txt,.str (r1).txt,.str ((((40::(l.preT++bl l.tr))++a8 mn [])++o.c.txt)++(l.E.hd::l.rest))]=some (.f (.str (((r0).txt++[32])++(((r1).txt++[32])++((((40::(l.preT++bl l.tr))++a8 mn [])++o.c.txt)++(l.E.hd::l.rest)))))):=by
  rw[o9]
  obtain⟨n,e1,e2⟩:=eR (40::mR l o.c mn) ([r0,r1]:List aF)
  have e3:=nG l o.c mn
  refine fK (w:=[]) e1 (f6 (40::mR l o.c mn) ([r0,r1]:List aF)) (by decide) ?_
  simp only[List.length_cons,List.length_nil]at e2 e3 ⊢
  omega
 have hT:(((r0).txt++[32])++(((r1).txt++[32])++((((40::(l.preT++bl l.tr))++a8 mn [])++o.c.txt)++(l.E.hd::l.rest))))=(dA ([r0,r1]:List aF) l o.c mn):=by rw[o9];rfl
 have hD:∀ x ∈ LH 219 xs zs sm i1 i2 i3 (l.base:Nat) (o.c.deep:Nat) mn (40::(l.preT++bl l.tr)) (l.E.hd::l.rest) o.c.txt (a8 mn []) q0 (r0).txt q1 (r1).txt,P0.Holds k x:=mc (h1 _) (mc (h2 _) (mc (h1 _) (mc hsm (mc (p1 _) (mc hi1 (mc (p2 _) (mc hi2 (mc (p3 _) (mc hi3 (mc (p4 _) (mc (hq0 _) (mc hr0 (mc (hq1 _) (mc hr1 (mc (pU mn (by omega)) (mc (AW l mn (by omega)) (mc (AV l o.c mn (by omega)) (mc (Bd l o.c mn (by omega)) (mc hj (cZ))))))))))))))))))))
 have hl:([r0,r1]:List aF).length ≤ 3:=Nat.le_of_ble_eq_true rfl
 by_cases hm:(mn:Int) ≤ 40 - (l.base:Nat) - (o.c.deep:Nat)
 ·have hh:(l.base:Int) + (mn:Nat) + (o.c.deep:Nat) ≤ 40:=by omega
  have H:=Rx 219 xs zs sm i1 i2 i3 (l.base:Nat) (o.c.deep:Nat) mn (40::(l.preT++bl l.tr)) (l.E.hd::l.rest) o.c.txt (a8 mn []) q0 (r0).txt q1 (r1).txt (cF ([r0,r1]:List aF) (l.M (bS ([r0,r1]:List aF) true false) (fV (o.c.X (bS ([r0,r1]:List aF) true false)) mn))) (bS ([r0,r1]:List aF) true false) (dA (b7 (bS ([r0,r1]:List aF) true false) true ([r0,r1]:List aF)) l (o.c2 (bS ([r0,r1]:List aF) true false)) mn)
  rw[hT]at H hj
  exact aI H k cZ cZ (eB hD (mc (v5 hl l o mn hh _ k) (mc (jL (decide_eq_false (by show ¬ (_ < Int.ofNat mn);simp only[Int.ofNat_eq_natCast];omega))) (mc (by show run TT 5000 (k + 219) 1519 [.f (.lst (tW ([r0,r1]:List aF)))] _=_;rw[show k + 219=(k + 209) + 10 by omega];exact lH _ (k + 209) ([r0,r1]:List aF) hl) (mc (sP _) (mc (lZ hl l o mn hh _ k) (mc (v0 hl l o mn hh _ k) (mc (vY hl l o mn hh _ k) (mc (s6 _) (mc (lZ hl l o mn hh _ k) (mc (mV (.str _)) cZ)))))))))))
 ·have hh:(l.base:Int) + (mn:Nat) + (o.c.deep:Nat)=41:=by omega
  have H:=Rf 219 xs zs sm i1 i2 i3 (l.base:Nat) (o.c.deep:Nat) mn (40::(l.preT++bl l.tr)) (l.E.hd::l.rest) o.c.txt (a8 mn []) q0 (r0).txt q1 (r1).txt
  rw[hT]at H hj
  exact aI H k cZ cZ (eB hD (mc (v6 hl l o mn hh _ k) (mc (jL (decide_eq_true (by show _ < Int.ofNat mn;simp only[Int.ofNat_eq_natCast];omega))) cZ)))
theorem L6 {xs zs:List Int}{sm:Int}{i1 i2 i3:Nat}{l:Ld}{o:e8}{mn:Nat} (h:Dg xs zs sm i1 i2 i3 l o mn) (p4:∀ n,run TT 5000 (n + 10) 1505 [.ref 0,.f (.int 4)] [.lst (aA zs 3 (Int.fmod sm 997))]=.ok (.f (.int 3),[.lst (aA zs (3 + 1) (Int.fmod sm 997))])) (q0:Nat) (hq0:∀ n,run TT 5000 (n + 10) 1505 [.ref 0,.f (.int 5)] [.lst (aA zs 4 (Int.fmod sm 997))]=.ok (.f (.int q0),[.lst (aA zs (4 + 1) (Int.fmod sm 997))])) (r0:aF) (hr0:∀ st,bJ (.f f9) (.f (.int (q0:Nat))) st=some (.f (.str (r0).txt))) (q1:Nat) (hq1:∀ n,run TT 5000 (n + 10) 1505 [.ref 0,.f (.int 5)] [.lst (aA zs 5 (Int.fmod sm 997))]=.ok (.f (.int q1),[.lst (aA zs (5 + 1) (Int.fmod sm 997))])) (r1:aF) (hr1:∀ st,bJ (.f f9) (.f (.int (q1:Nat))) st=some (.f (.str (r1).txt))) (q2:Nat) (hq2:∀ n,run TT 5000 (n + 10) 1505 [.ref 0,.f (.int 5)] [.lst (aA zs 6 (Int.fmod sm 997))]=.ok (.f (.int q2),[.lst (aA zs (6 + 1) (Int.fmod sm 997))])) (r2:aF) (hr2:∀ st,bJ (.f f9) (.f (.int (q2:Nat))) st=some (.f (.str (r2).txt))) (k:Nat):run TT 5000 (k + 220) 1524 [.f (.lst (iL xs))] []=.ok (.f (.bool true),[]):=by
 obtain⟨hzs,hx,hsm,p1,p2,p3,hi1,hi2,hi3,hmn⟩:=h
 have hb:=qO l o
 have h1:∀ st,eH false (.f (.lst (iL xs))) none (some 20) st=some (.f (.lst (iL zs)),st):=fun st=>by rw[hzs];exact qH hx st
 have h2:∀ st,jR TT .list 1428 [.f (.lst (iL zs))] st=some (.f (.lst (iL zs)),st):=fun st=>tI (by rw[hzs];simp;omega) st
 have hj:oO [32] [.str (r0).txt,.str (r1).txt,.str (r2).txt,.str ((((40::(l.preT++bl l.tr))++a8 mn [])++o.c.txt)++(l.E.hd::l.rest))]=some (.f (.str (((r0).txt++[32])++(((r1).txt++[32])++(((r2).txt++[32])++((((40::(l.preT++bl l.tr))++a8 mn [])++o.c.txt)++(l.E.hd::l.rest))))))):=by
  rw[o9]
  obtain⟨n,e1,e2⟩:=eR (40::mR l o.c mn) ([r0,r1,r2]:List aF)
  have e3:=nG l o.c mn
  refine fK (w:=[]) e1 (f6 (40::mR l o.c mn) ([r0,r1,r2]:List aF)) (by decide) ?_
  simp only[List.length_cons,List.length_nil]at e2 e3 ⊢
  omega
 have hT:(((r0).txt++[32])++(((r1).txt++[32])++(((r2).txt++[32])++((((40::(l.preT++bl l.tr))++a8 mn [])++o.c.txt)++(l.E.hd::l.rest)))))=(dA ([r0,r1,r2]:List aF) l o.c mn):=by rw[o9];rfl
 have hD:∀ x ∈ KS 219 xs zs sm i1 i2 i3 (l.base:Nat) (o.c.deep:Nat) mn (40::(l.preT++bl l.tr)) (l.E.hd::l.rest) o.c.txt (a8 mn []) q0 (r0).txt q1 (r1).txt q2 (r2).txt,P0.Holds k x:=mc (h1 _) (mc (h2 _) (mc (h1 _) (mc hsm (mc (p1 _) (mc hi1 (mc (p2 _) (mc hi2 (mc (p3 _) (mc hi3 (mc (p4 _) (mc (hq0 _) (mc hr0 (mc (hq1 _) (mc hr1 (mc (hq2 _) (mc hr2 (mc (pU mn (by omega)) (mc (AW l mn (by omega)) (mc (AV l o.c mn (by omega)) (mc (Bd l o.c mn (by omega)) (mc hj (cZ))))))))))))))))))))))
 have hl:([r0,r1,r2]:List aF).length ≤ 3:=Nat.le_of_ble_eq_true rfl
 by_cases hm:(mn:Int) ≤ 40 - (l.base:Nat) - (o.c.deep:Nat)
 ·have hh:(l.base:Int) + (mn:Nat) + (o.c.deep:Nat) ≤ 40:=by omega
  have H:=Qz 219 xs zs sm i1 i2 i3 (l.base:Nat) (o.c.deep:Nat) mn (40::(l.preT++bl l.tr)) (l.E.hd::l.rest) o.c.txt (a8 mn []) q0 (r0).txt q1 (r1).txt q2 (r2).txt (cF ([r0,r1,r2]:List aF) (l.M (bS ([r0,r1,r2]:List aF) true false) (fV (o.c.X (bS ([r0,r1,r2]:List aF) true false)) mn))) (bS ([r0,r1,r2]:List aF) true false) (dA (b7 (bS ([r0,r1,r2]:List aF) true false) true ([r0,r1,r2]:List aF)) l (o.c2 (bS ([r0,r1,r2]:List aF) true false)) mn)
  rw[hT]at H hj
  exact aI H k cZ cZ (eB hD (mc (v5 hl l o mn hh _ k) (mc (jL (decide_eq_false (by show ¬ (_ < Int.ofNat mn);simp only[Int.ofNat_eq_natCast];omega))) (mc (by show run TT 5000 (k + 219) 1519 [.f (.lst (tW ([r0,r1,r2]:List aF)))] _=_;rw[show k + 219=(k + 209) + 10 by omega];exact lH _ (k + 209) ([r0,r1,r2]:List aF) hl) (mc (sP _) (mc (lZ hl l o mn hh _ k) (mc (v0 hl l o mn hh _ k) (mc (vY hl l o mn hh _ k) (mc (s6 _) (mc (lZ hl l o mn hh _ k) (mc (mV (.str _)) cZ)))))))))))
 ·have hh:(l.base:Int) + (mn:Nat) + (o.c.deep:Nat)=41:=by omega
  have H:=RG 219 xs zs sm i1 i2 i3 (l.base:Nat) (o.c.deep:Nat) mn (40::(l.preT++bl l.tr)) (l.E.hd::l.rest) o.c.txt (a8 mn []) q0 (r0).txt q1 (r1).txt q2 (r2).txt
  rw[hT]at H hj
  exact aI H k cZ cZ (eB hD (mc (v6 hl l o mn hh _ k) (mc (jL (decide_eq_true (by show _ < Int.ofNat mn;simp only[Int.ofNat_eq_natCast];omega))) cZ)))
theorem Df (xs:List Int) (hx:xs.length ≤ 63) (k:Nat):run TT 5000 (k + 220) 1524 [.f (.lst (iL xs))] []=.ok (.f (.bool true),[]):=by
 generalize hzs:xs.take 20=zs
 have hz:zs.length ≤ 100:=by rw[← hzs];simp;omega
 obtain⟨sm,hsm⟩:=MS zs
 obtain⟨i1,b1,p1⟩:=NS zs (Int.fmod sm 997) hz
 obtain⟨i2,b2,p2⟩:=MC zs (Int.fmod sm 997) hz
 obtain⟨i3,b3,p3⟩:=NO zs (Int.fmod sm 997) hz
 obtain⟨i4,b4,p4⟩:=NC zs (Int.fmod sm 997) hz
 obtain⟨q0,c0,hq0⟩:=N9 zs (Int.fmod sm 997) hz
 obtain⟨q1,c1,hq1⟩:=MU zs (Int.fmod sm 997) hz
 obtain⟨q2,c2,hq2⟩:=NP zs (Int.fmod sm 997) hz
 obtain⟨l,hi1⟩:=IS i1 b1
 obtain⟨o,hi2⟩:=Iq i2 b2
 have hb:=qO l o
 obtain⟨mn,hmn,hi3⟩:=IC i3 b3 (40 - (l.base:Nat) - (o.c.deep:Nat)) (by omega)
 obtain⟨r0,hr0⟩:=w1 q0 c0
 obtain⟨r1,hr1⟩:=w1 q1 c1
 obtain⟨r2,hr2⟩:=w1 q2 c2
 have H:Dg xs zs sm i1 i2 i3 l o mn:=⟨hzs.symm,hx,hsm,p1,p2,p3,hi1,hi2,hi3,hmn⟩
 match i4,b4,p4 with
 | 0,_,p4=>exact Kg H p4 k
 | 1,_,p4=>exact Kd H p4 q0 hq0 r0 hr0 k
 | 2,_,p4=>exact Jl H p4 q0 hq0 r0 hr0 q1 hq1 r1 hr1 k
 | 3,_,p4=>exact L6 H p4 q0 hq0 r0 hr0 q1 hq1 r1 hr1 q2 hq2 r2 hr2 k
 | n + 4,b,_=>omega
end Mine
end
section
namespace Mine
abbrev lw:OpenLaw:=PySem.Challenge.rw_rg0187_01
noncomputable def qv:Program:=view pw [162]
noncomputable def v9:List Str:=pw.boundNames.filter fun n=>n != ("law" : Str)
noncomputable def Fg (P:Params):BT :=
 ([boot_o_1 P,boot_o_2 P,boot_o_3 P,boot_o_4 P,boot_o_5 P,boot_o_6 P,boot_o_7 P,boot_o_8 P,boot_o_9 P,boot_o_10 P].foldl (fun (x:BT × Nat) o=>(x.1.ins x.2 o,x.2 + 1)) (BT.nil.ins 0 (boot_o_0 P),1)).1
noncomputable def Qf (P:Params) (os:OsState):SharedT:=⟨Fg P,11,(boot_heap P).life,#[],boot_drawn,boot_toks,os⟩
theorem QH (P:Params) (os:OsState):(Qf P os).abs=⟨boot_heap P,#[],boot_drawn,boot_toks,os⟩:=by kernel_rfl
theorem QI (w:World):(importEnds treeTable (opening pw) w 700 (start (opening pw)).1 (start (opening pw)).2).map (fun s=>(s.heap,s.gens,s.drawn,s.toks))=some (boot_heap w.params,#[],boot_drawn,boot_toks):=by
 rw[PySem.W.Fast.te10274390034422433532,PySem.W.Fast.te14364793385576792824,PySem.W.Fast.te1435165496053646825]
 kernel_rfl
theorem F5 (s:Shared):fenceModules? pw s=some s:=by kernel_rfl
theorem IH (P:Params):((boot_heap P).isNs mainGlobals&&(#[]:Array GenState).size == 0,(boot_heap P).objs.size,(boot_heap P).nsMap mainGlobals "__annotations__")=(true,11,some (Value.ref 6)):=by kernel_rfl
theorem SB:importedModules pw.main.body=[]:=by kernel_rfl
theorem Q1:chainsOk qv=true:=by kernel_rfl
theorem RW:(opening pw).tameTopW=true:=by kernel_rfl
theorem Qt:(bearImports (behindTheImports pw))=false:=by kernel_rfl
theorem Q7:frees lw.row.toRowW=true:=by kernel_rfl
theorem df:(defOf qv lw.row.name).isSome=true:=by kernel_rfl
noncomputable def dd:DefRec × List (Str × Expr):=(defOf qv lw.row.name).get df
theorem Ky:defOf qv lw.row.name=some (dd.1,dd.2):=by kernel_rfl
theorem hp:pw.theDef lw.row.name=some (dd.1.params,dd.1.body,dd.1.scope):=by kernel_rfl
theorem hk:kwWritten? dd.1.params.kwonlyargs dd.1.params.kw_defaults=some dd.2:=by kernel_rfl
end Mine
end
section
namespace Mine
open TablesWhole
theorem b0 {a b:Bool} (h:a=true) (h':b=true):(a&&b)=true:=by rw[h,h'];rfl
theorem LJ {A:Alg Bool} (hb:A.both=fun a b=>a&&b) {t:Scope}{cx:TablesWhole.Ctx}{sc:Scope}{r:List Stmt} (h':wSs A t cx sc r=true) (l:List Stmt):wSs A t cx sc l=true→wSs A t cx sc (l++r)=true:=by
 induction l with
 | nil=>exact fun _=>h'
 | cons s l ih =>
  intro h
  rw[wSs,hb]at h
  show wSs A t cx sc (s::(l++r))=true
  rw[wSs,hb]
  exact b0 (Bool.and_eq_true_iff.mp h).1 (ih (Bool.and_eq_true_iff.mp h).2)
theorem L9 {A:Alg Bool} (hb:A.both=fun a b=>a&&b) {t:Scope}{cx:TablesWhole.Ctx}{sc:Scope}{l:List Stmt} (n:Nat) (h:wSs A t cx sc (l.take n)=true) (h':wSs A t cx sc (l.drop n)=true):wSs A t cx sc l=true:=by
 have q:=LJ hb h' _ h
 rwa [List.take_append_drop]at q
theorem Hb:wSs gather pw.main.scope ⟨pw.main.scope,[],[],[],none⟩ pw.main.scope pw.main.body=[]:=by
 rw[PySem.W.Fast.te16421684217811934046,PySem.W.Fast.te12652042256554560961]
 kernel_rfl
theorem E8:noTwice pw.main.scope=true:=by rw[PySem.W.Fast.te8331962902438777018];kernel_rfl
noncomputable def dR (A:Alg Bool) (i n:Nat):Prop:=wSs A pw.main.scope ⟨pw.main.scope,[],[],[],none⟩ pw.main.scope ((pw.main.body.drop i).take n)=true
theorem kA {A:Alg Bool} (hb:A.both=fun a b=>a&&b) {i n:Nat} (h:dR A i n) (h':wSs A pw.main.scope ⟨pw.main.scope,[],[],[],none⟩ pw.main.scope (pw.main.body.drop (i + n))=true):wSs A pw.main.scope ⟨pw.main.scope,[],[],[],none⟩ pw.main.scope (pw.main.body.drop i)=true :=
 L9 hb n h (by rw[List.drop_drop];exact h')
theorem GQ {A:Alg Bool} (hb:A.both=fun a b=>a&&b) (hu:A.unit=true) (h1:∀ s,A.enter s=true) (h2:∀ x s n,A.check x s n true=true) (h3:wSs A pw.main.scope ⟨pw.main.scope,[],[],[],none⟩ pw.main.scope (pw.main.body.drop 0)=true):wModule A pw.main=true:=by
 unfold wModule
 rw[Hb,E8]
 show A.both _ (A.both _ (A.both _ A.unit))=true
 rw[h1,h2,hb,hu]
 exact b0 rfl (b0 rfl (b0 h3 rfl))
theorem DL {A:Alg Bool} (hu:A.unit=true) {n:Nat} (h:(pw.main.body.drop n).isEmpty=true):wSs A pw.main.scope ⟨pw.main.scope,[],[],[],none⟩ pw.main.scope (pw.main.body.drop n)=true:=by
 rw[List.isEmpty_iff.mp h,wSs,hu]
end Mine
end
section
namespace Mine
theorem PK:dR TablesWhole.holds 0 100:=by unfold dR;rw[PySem.W.Fast.te16421684217811934046];kernel_rfl
theorem Pj:dR TablesWhole.holds 100 38:=by unfold dR;rw[PySem.W.Fast.te16421684217811934046];kernel_rfl
theorem PQ:dR TablesWhole.holds 138 15:=by unfold dR;rw[PySem.W.Fast.te16421684217811934046];kernel_rfl
theorem QF:dR TablesWhole.holds 153 20:=by unfold dR;rw[PySem.W.Fast.te16421684217811934046];kernel_rfl
theorem N8 {p:Program} (h:TablesWhole.wModule TablesWhole.holds p.main=true) (h1:p.modules=[]) (h2:p.parses=[]) (h3:p.harvested=[]):p.tablesWhole=true:=by
 unfold Program.tablesWhole TablesWhole.wProgram
 rw[h1,h2,h3,h]
 rfl
theorem QG:TablesWhole.wSs TablesWhole.holds pw.main.scope ⟨pw.main.scope,[],[],[],none⟩ pw.main.scope (pw.main.body.drop 0)=true :=
 kA rfl PK (kA rfl Pj (kA rfl PQ (kA rfl QF (DL rfl (by kernel_rfl)))))
theorem Pe:TablesWhole.wModule TablesWhole.holds pw.main=true:=GQ (A:=TablesWhole.holds) rfl rfl (fun _=>rfl) (fun _ _ _=>rfl) QG
theorem Ms:pw.tablesWhole=true :=
 N8 Pe (by kernel_rfl) (by kernel_rfl) (by kernel_rfl)
theorem IZ:pw.bare:=⟨by kernel_rfl,by kernel_rfl,by kernel_rfl,by kernel_rfl,by kernel_rfl,Ms⟩
theorem Mk:lw.row.toRowW.promised:=by w_witness2
end Mine
end
section
namespace Mine
noncomputable def fS (i:Nat) (j:Option Nat):Stmt:=match nth pw.main.body i with
 | some s=>(match j with
  | none=>s
  | some j=>(match nth (jO s) j with
   | some t=>t
   | none=>.Pass default))
 | none=>.Pass default
noncomputable def fD (s:Stmt) (name qual:Str) (g:Addr) (de dc mo co ct:Value) (b:Addr):FuncData:=match s with
 | .FunctionDef _ a bd _ _ _ sc _ _ _=>⟨name,qual,a,.stmts bd,sc,g,[],de,.none,dc,mo,none,co,ct,b⟩
 | _=>default
noncomputable def vs (t:Nat):List Str→List Value
 | []=>[]
 | x::r=>.str x t::vs (t + 1) r
noncomputable def wv:List Int→List Value
 | []=>[]
 | .ofNat n::r=>.int n 0::wv r
 | .negSucc n::r=>.ref (n + 1)::wv r
noncomputable def tp (l:List Value):Obj:=⟨.type "tuple",none,.seq l.toArray 0,#[]⟩
noncomputable def fl (l:List Value):Obj:=⟨.none,none,.fields l.toArray,#[]⟩
noncomputable def fN (s:Stmt):Str:=match s with
 | .FunctionDef n _ _ _ _ _ _ _ _ _=>n
 | _=>default
noncomputable def de (P:Params) (x:Str) (t:Nat) (v:Value):DictEntry:=⟨PyData.keyHash P x,.str x t,v⟩
noncomputable def db (P:Params) (x:String) (t:Nat):DictEntry:=⟨PyData.keyHash P (Str.ofString x),.str (Str.ofString x) t,.builtin x⟩
noncomputable def gr (i:Nat) (j:Option Nat) (q:Str) (A:Nat) (mo:Value) (t:Nat) (V:List Str) (L c k:Int) (W:List Value):List Obj :=
 let s:=fS i j
 let z:=V.length
 let co (a b:Value) (d:Nat):Obj:=⟨.type "code",none,.fields #[.str (fN s) t,.str q (t + 1),.str "/claim/cut.py" (t + 2),.int L 0,.int c 0,.int 0 0,.int 0 0,.int 3 0,.ref A,.bool true,.int k 0,.ref (A + 1),.none,a,b,.ref (A + d),.int (t + 3 + z:Nat) 0,.int L 0,.str "/claim/cut.py" (t + 4 + z)],#[]⟩
 let fd:Obj:=⟨.none,none,.func (fD s (fN s) q 0 .none .none .none .none .none 0),#[]⟩
 let fu (d:Nat):Obj:=⟨.type "function",none,.func (fD s (fN s) q 3 .none .none mo (.ref (A + d)) .none 0),#[]⟩
 match V with
 | []=>[tp [],fl W,fd,co .none .none 2,fu 3]
 | _::_=>[tp [],fl W,tp (vs (t + 3) V),tp [],fd,co (.ref (A + 2)) (.ref (A + 3)) 4,fu 5]
noncomputable def gf (i:Nat) (A:Nat) (mo:Value) (t:Nat) (V:List Str) (L c k:Int) (W:List Value):List Obj:=gr i none (fN (fS i none)) A mo t V L c k W
noncomputable def m0:Value:=.str "js.nodes" 187
noncomputable def m1:Value:=.str "js.chars" 258
noncomputable def m2:Value:=.str "js.dbits" 422
noncomputable def m3:Value:=.str "js.numshow" 556
noncomputable def m4:Value:=.str "js.printwords" 674
noncomputable def m5:Value:=.str "js.printer" 845
noncomputable def m6:Value:=.str "js.escapes" 1064
noncomputable def m7:Value:=.str "js.numparse" 1137
noncomputable def m8:Value:=.str "js.tokens" 1171
noncomputable def m9:Value:=.str "js.values" 1417
noncomputable def iQ:Value:=.str "js.lexer" 1450
noncomputable def lO:Value:=.str "js.strictness" 1653
noncomputable def iN:Value:=.str "js.parse_base" 1802
noncomputable def gH:Value:=.str "js.parse_expr" 1971
noncomputable def nA:Value:=.str "js.parse_simple" 2247
noncomputable def zZ:Value:=.str "js.parse_literal" 2386
noncomputable def oX:Value:=.str "js.parse_stmt" 2468
noncomputable def Rm:Value:=.str "js.parser" 2595
noncomputable def DN:Value:=.str "law_rg0187_01" 2606
noncomputable def Qv (P:Params):List Obj:=[⟨.type "dict",none,.dict #[de P "__name__" 1 (.str "builtins" 160),de P "__doc__" 2 (.builtin "builtins.__doc__:str#opaque"),de P "__package__" 3 (.builtin "builtins.__package__:str#opaque"),de P "__loader__" 4 (.builtin "builtins.__loader__:shared#opaque"),de P "__spec__" 5 (.builtin "builtins.__spec__#opaque"),db P "__build_class__" 6,db P "__import__" 7,db P "abs" 8,db P "all" 9,db P "any" 10,db P "ascii" 11,db P "bin" 12,db P "breakpoint" 13,db P "callable" 14,db P "chr" 15,db P "compile" 16,db P "delattr" 17,db P "dir" 18,db P "divmod" 19,db P "eval" 20,db P "exec" 21,db P "format" 22,db P "getattr" 23,db P "globals" 24,db P "hasattr" 25,db P "hash" 26,db P "hex" 27,db P "id" 28,db P "input" 29,db P "isinstance" 30,db P "issubclass" 31,db P "iter" 32,db P "aiter" 33,db P "len" 34,db P "locals" 35,db P "max" 36,db P "min" 37,db P "next" 38,db P "anext" 39,db P "oct" 40,db P "ord" 41,db P "pow" 42,db P "print" 43,db P "repr" 44,db P "round" 45,db P "setattr" 46,db P "sorted" 47,db P "sum" 48,db P "vars" 49,de P "None" 50 .none,de P "Ellipsis" 51 .ellipsis,de P "NotImplemented" 52 .notImplemented,de P "False" 53 (.bool false),de P "True" 54 (.bool true),de P "bool" 55 (.type "bool"),de P "memoryview" 56 (.type "memoryview"),de P "bytearray" 57 (.type "bytearray"),de P "bytes" 58 (.type "bytes"),de P "classmethod" 59 (.type "classmethod"),de P "complex" 60 (.type "complex"),de P "dict" 61 (.type "dict"),de P "enumerate" 62 (.type "enumerate"),de P "filter" 63 (.type "filter"),de P "float" 64 (.type "float"),de P "frozenset" 65 (.type "frozenset"),de P "property" 66 (.type "property"),de P "int" 67 (.type "int"),de P "list" 68 (.type "list"),de P "map" 69 (.type "map"),de P "object" 70 (.type "object"),de P "range" 71 (.type "range"),de P "reversed" 72 (.type "reversed"),de P "set" 73 (.type "set"),de P "slice" 74 (.type "slice"),de P "staticmethod" 75 (.type "staticmethod"),de P "str" 76 (.type "str"),de P "super" 77 (.type "super"),de P "tuple" 78 (.type "tuple"),de P "type" 79 (.type "type"),de P "zip" 80 (.type "zip"),de P "__debug__" 81 (.bool true),de P "BaseException" 82 (.type "BaseException"),de P "BaseExceptionGroup" 83 (.type "BaseExceptionGroup"),de P "Exception" 84 (.type "Exception"),de P "GeneratorExit" 85 (.type "GeneratorExit"),de P "KeyboardInterrupt" 86 (.type "KeyboardInterrupt"),de P "SystemExit" 87 (.type "SystemExit"),de P "ArithmeticError" 88 (.type "ArithmeticError"),de P "AssertionError" 89 (.type "AssertionError"),de P "AttributeError" 90 (.type "AttributeError"),de P "BufferError" 91 (.type "BufferError"),de P "EOFError" 92 (.type "EOFError"),de P "ImportError" 93 (.type "ImportError"),de P "LookupError" 94 (.type "LookupError"),de P "MemoryError" 95 (.type "MemoryError"),de P "NameError" 96 (.type "NameError"),de P "OSError" 97 (.type "OSError"),de P "ReferenceError" 98 (.type "ReferenceError"),de P "RuntimeError" 99 (.type "RuntimeError"),de P "StopAsyncIteration" 100 (.type "StopAsyncIteration"),de P "StopIteration" 101 (.type "StopIteration"),de P "SyntaxError" 102 (.type "SyntaxError"),de P "SystemError" 103 (.type "SystemError"),de P "TypeError" 104 (.type "TypeError"),de P "ValueError" 105 (.type "ValueError"),de P "Warning" 106 (.type "Warning"),de P "FloatingPointError" 107 (.type "FloatingPointError"),de P "OverflowError" 108 (.type "OverflowError"),de P "ZeroDivisionError" 109 (.type "ZeroDivisionError"),de P "BytesWarning" 110 (.type "BytesWarning"),de P "DeprecationWarning" 111 (.type "DeprecationWarning"),de P "EncodingWarning" 112 (.type "EncodingWarning"),de P "FutureWarning" 113 (.type "FutureWarning"),de P "ImportWarning" 114 (.type "ImportWarning"),de P "PendingDeprecationWarning" 115 (.type "PendingDeprecationWarning"),de P "ResourceWarning" 116 (.type "ResourceWarning"),de P "RuntimeWarning" 117 (.type "RuntimeWarning"),de P "SyntaxWarning" 118 (.type "SyntaxWarning"),de P "UnicodeWarning" 119 (.type "UnicodeWarning"),de P "UserWarning" 120 (.type "UserWarning"),de P "BlockingIOError" 121 (.type "BlockingIOError"),de P "ChildProcessError" 122 (.type "ChildProcessError"),de P "ConnectionError" 123 (.type "ConnectionError"),de P "FileExistsError" 124 (.type "FileExistsError"),de P "FileNotFoundError" 125 (.type "FileNotFoundError"),de P "InterruptedError" 126 (.type "InterruptedError"),de P "IsADirectoryError" 127 (.type "IsADirectoryError"),de P "NotADirectoryError" 128 (.type "NotADirectoryError"),de P "PermissionError" 129 (.type "PermissionError"),de P "ProcessLookupError" 130 (.type "ProcessLookupError"),de P "TimeoutError" 131 (.type "TimeoutError"),de P "IndentationError" 132 (.type "IndentationError"),de P "_IncompleteInputError" 133 (.type "_IncompleteInputError"),de P "IndexError" 134 (.type "IndexError"),de P "KeyError" 135 (.type "KeyError"),de P "ModuleNotFoundError" 136 (.type "ModuleNotFoundError"),de P "NotImplementedError" 137 (.type "NotImplementedError"),de P "PythonFinalizationError" 138 (.type "PythonFinalizationError"),de P "RecursionError" 139 (.type "RecursionError"),de P "UnboundLocalError" 140 (.type "UnboundLocalError"),de P "UnicodeError" 141 (.type "UnicodeError"),de P "BrokenPipeError" 142 (.type "BrokenPipeError"),de P "ConnectionAbortedError" 143 (.type "ConnectionAbortedError"),de P "ConnectionRefusedError" 144 (.type "ConnectionRefusedError"),de P "ConnectionResetError" 145 (.type "ConnectionResetError"),de P "TabError" 146 (.type "TabError"),de P "UnicodeDecodeError" 147 (.type "UnicodeDecodeError"),de P "UnicodeEncodeError" 148 (.type "UnicodeEncodeError"),de P "UnicodeTranslateError" 149 (.type "UnicodeTranslateError"),de P "ExceptionGroup" 150 (.type "ExceptionGroup"),de P "EnvironmentError" 151 (.type "OSError"),de P "IOError" 152 (.type "OSError"),db P "open" 153,de P "quit" 154 (.builtin "builtins.quit#opaque"),de P "exit" 155 (.builtin "builtins.exit#opaque"),de P "copyright" 156 (.builtin "builtins.copyright#opaque"),de P "credits" 157 (.builtin "builtins.credits#opaque"),de P "license" 158 (.builtin "builtins.license#opaque"),de P "help" 159 (.builtin "builtins.help#opaque")] 159,#[]⟩,⟨.type "dict",none,.dict #[de P "builtins" 162 (.ref 4),de P "__main__" 163 (.ref 5)] 2,#[]⟩,⟨.none,none,.dict #[de P "type.__subclasses__.Exception.0" 1446 (.int (697) 0),de P "type.__subclasses__.Exception.n" 1447 (.int (1) 0)] 2,#[]⟩,⟨.type "dict",none,.dict #[de P "__name__" 165 (.str "law_rg0187_01" 2606),de P "__doc__" 166 .none,de P "__package__" 167 .none,de P "__loader__" 168 (.builtin "__main__.__loader__#opaque"),de P "__spec__" 169 .none,de P "__annotations__" 170 (.ref 6),de P "__builtins__" 171 (.ref 4),de P "__file__" 173 (.str "/claim/cut.py" 172),de P "__cached__" 174 .none,de P "Node" 222 (.ref 31),de P "children" 232 (.ref 42),de P "is_too_high" 238 (.ref 47),de P "same_kind" 246 (.ref 54),de P "same_tree" 257 (.ref 61),de P "BLANKS" 271 (.ref 62),de P "LINE_ENDS" 276 (.ref 63),de P "LETTERS" 341 (.ref 96),de P "PARTS" 354 (.ref 103),de P "is_among" 364 (.ref 110),de P "is_white" 371 (.ref 117),de P "is_line_end" 378 (.ref 124),de P "is_digit" 385 (.ref 131),de P "is_octal_digit" 392 (.ref 138),de P "hex_value" 399 (.ref 145),de P "is_id_start" 406 (.ref 152),de P "is_id_part" 413 (.ref 159),de P "is_name" 421 (.ref 166),de P "SIGN_BIT" 427 (.int (9223372036854775808) 426),de P "FRACTION_BITS" 429 (.int (52) 428),de P "FRACTION_MASK" 435 (.int (4503599627370495) 434),de P "HIDDEN_BIT_dbits" 439 (.int (4503599627370496) 438),de P "EXPONENT_MASK" 441 (.int (2047) 440),de P "EXPONENT_SHIFT" 443 (.int (1075) 442),de P "LEAST_POWER_dbits" 446 (.int (-1074) 445),de P "ZERO" 448 (.int (0) 447),de P "INF" 452 (.int (9218868437227405312) 451),de P "width" 461 (.ref 173),de P "pack" 470 (.ref 180),de P "is_negative" 477 (.ref 187),de P "is_nan" 484 (.ref 194),de P "is_inf" 491 (.ref 201),de P "is_zero" 498 (.ref 208),de P "signed" 506 (.ref 215),de P "parts" 516 (.ref 222),de P "quotient" 525 (.ref 229),de P "round_ratio" 538 (.ref 236),de P "assembled" 548 (.ref 243),de P "from_int" 555 (.ref 250),de P "LEAST_POWER_numshow" 560 (.int (-1074) 559),de P "HIDDEN_BIT_numshow" 564 (.int (4503599627370496) 563),de P "scaled" 575 (.ref 257),de P "decimal_place" 584 (.ref 264),de P "first_place" 597 (.ref 482),de P "first_place_numshow" 598 (.ref 271),de P "shortest" 619 (.ref 278),de P "last_figure" 630 (.ref 285),de P "signed_exponent" 637 (.ref 292),de P "with_exponent" 646 (.ref 299),de P "laid_out" 655 (.ref 306),de P "without_figures" 662 (.ref 313),de P "show" 672 (.ref 527),de P "show_numshow" 673 (.ref 320),de P "ESCAPED" 700 (.ref 321),de P "FIGURES" 702 (.str "0123456789abcdef" 701),de P "STRENGTHS" 772 (.ref 322),de P "COMMA" 780 (.int (0) 773),de P "ASSIGN" 781 (.int (1) 774),de P "COND" 782 (.int (2) 775),de P "UNARY" 783 (.int (13) 776),de P "POSTFIX" 784 (.int (14) 777),de P "CALL" 785 (.int (15) 778),de P "MEMBER" 786 (.int (16) 779),de P "OTHERS" 797 (.ref 328),de P "hex_figures" 807 (.ref 335),de P "show_text" 817 (.ref 342),de P "show_name" 823 (.ref 347),de P "show_key" 830 (.ref 354),de P "show_bits" 837 (.ref 361),de P "strength" 844 (.ref 368),de P "PLAIN" 853 (.ref 369),de P "FIRST_PLACES" 871 (.ref 370),de P "show_expression" 881 (.ref 382),de P "show_bare" 887 (.ref 387),de P "show_array" 893 (.ref 392),de P "show_property" 903 (.ref 399),de P "show_list" 909 (.ref 404),de P "show_access" 920 (.ref 411),de P "show_taken" 927 (.ref 418),de P "show_made" 934 (.ref 425),de P "show_operation" 940 (.ref 430),de P "show_unary" 949 (.ref 437),de P "show_function" 957 (.ref 444),de P "show_body" 963 (.ref 449),de P "show_code" 974 (.ref 456),de P "show_statements" 980 (.ref 461),de P "show_vars" 992 (.ref 468),de P "show_free" 999 (.ref 475),de P "first_place_printer" 1007 (.ref 482),de P "guarded" 1016 (.ref 489),de P "show_statement" 1026 (.ref 496),de P "show_leave" 1035 (.ref 503),de P "show_loop" 1041 (.ref 508),de P "show_switch" 1047 (.ref 513),de P "show_try" 1055 (.ref 520),de P "show_printer" 1063 (.ref 527),de P "SINGLE" 1084 (.ref 528),de P "code_at" 1092 (.ref 535),de P "hex_at" 1104 (.ref 542),de P "line_end_size" 1112 (.ref 549),de P "octal_escape" 1123 (.ref 556),de P "read_escape" 1136 (.ref 563),de P "FARTHEST" 1140 (.int (400) 1139),de P "figure_of" 1147 (.ref 570),de P "worth" 1159 (.ref 577),de P "from_decimal" 1170 (.ref 584),de P "KEYWORDS" 1209 (.ref 585),de P "PUNCTS" 1258 (.ref 586),de P "PUNCT_TABLE" 1358 (.ref 640),de P "Token" 1399 (.ref 662),de P "is_keyword" 1406 (.ref 673),de P "punct_at" 1416 (.ref 680),de P "SyntaxFail" 1449 (.ref 697),de P "Lexer" 1652 (.ref 843),de P "STRICT_WORDS" 1664 (.ref 848),de P "RESTRICTED" 1667 (.ref 849),de P "TARGETS" 1671 (.ref 850),de P "name_fault" 1679 (.ref 857),de P "binding_fault" 1687 (.ref 864),de P "first_twice" 1696 (.ref 871),de P "params_fault" 1708 (.ref 878),de P "target_fault" 1717 (.ref 885),de P "delete_fault" 1725 (.ref 892),de P "octal_fault" 1733 (.ref 899),de P "entry_fault" 1744 (.ref 906),de P "accessor_fault" 1753 (.ref 913),de P "Jumps" 1801 (.ref 945),de P "MOST_NESTED" 1805 (.int (40) 1804),de P "MOST_LEVELS" 1807 (.int (120) 1806),de P "TokenTaker" 1970 (.ref 1085),de P "PRIORITY" 2042 (.ref 1090),de P "ASSIGNING" 2055 (.ref 1092),de P "UNARY_SIGNS" 2060 (.ref 1093),de P "UNARY_WORDS" 2064 (.ref 1094),de P "STEPS" 2067 (.ref 1095),de P "ExprParser" 2246 (.ref 1231),de P "SimpleParser" 2385 (.ref 1332),de P "LiteralParser" 2467 (.ref 1386),de P "LOOP_WORDS" 2473 (.ref 1389),de P "StmtParser" 2594 (.ref 1469),de P "parse" 2605 (.ref 1478),de P "_law_leads" 2635 (.ref 1488),de P "_law_cores" 2652 (.ref 1497),de P "_law_ahead" 2658 (.ref 1498),de P "_law_pick" 2666 (.ref 1505),de P "_law_read" 2673 (.ref 1512),de P "_law_is_strict" 2681 (.ref 1519),de P "law" 2687 (.ref 1524)] 157,#[]⟩,⟨.type "module",(some 0),.plain,#[]⟩,⟨.type "module",(some 3),.plain,#[]⟩,⟨.type "dict",none,.dict #[] 0,#[]⟩,tp [],fl [],⟨.type "code",none,.fields #[.str "<module>" 176,.str "<module>" 177,.str "/claim/cut.py" 178,.int (1) 0,.int (0) 0,.int (0) 0,.int (0) 0,.int (0) 0,.ref 7,.bool false,.int (175) 0,.ref 8,.none,.none,.none,.none,.int (179) 0,.int (1) 0,.str "/claim/cut.py" 180],#[]⟩,⟨.type "frame",none,.plain,#[some (.ref 9),some (.ref 3),some (.ref 3),none,some (.str "__main__" 164),none,some (.ref 0)]⟩,tp [],fl (wv [2,0,-20,9,0,-41,18,0,-46,24,0,-53,32,0,-60,50,0,-109,55,0,-116,57,0,-123,59,0,-130,61,0,-137,63,0,-144,69,0,-151,73,0,-158,75,0,-165,92,0,-172,102,0,-179,104,0,-186,106,0,-193,108,0,-200,110,0,-207,112,0,-214,114,0,-221,119,0,-228,125,0,-235,136,0,-242,145,0,-249,150,0,-256,157,0,-263,162,0,-270,171,0,-277,192,0,-284,198,0,-291,200,0,-298,203,0,-305,212,0,-312,218,0,-319,233,0,-334,239,0,-341,250,0,-346,252,0,-353,254,0,-360,256,0,-367,265,0,-381,270,0,-386,295,0,-391,299,0,-398,304,0,-403,306,0,-410,312,0,-417,316,0,-424,320,0,-429,340,0,-436,343,0,-443,346,0,-448,349,0,-455,358,0,-460,360,0,-467,366,0,-474,368,0,-481,375,0,-488,389,0,-495,411,0,-502,420,0,-507,434,0,-512,440,0,-519,445,0,-526,450,0,-534,452,0,-541,460,0,-548,462,0,-555,471,0,-562,492,0,-569,498,0,-576,503,0,-583,518,0,-651,529,0,-672,531,0,-679,538,0,-686,544,0,-706,753,0,-856,757,0,-863,761,0,-870,768,0,-877,777,0,-884,781,0,-891,783,0,-898,785,0,-905,795,0,-912,798,0,-919,822,0,-955,916,0,-1101,1084,0,-1239,1215,0,-1340,1283,0,-1395,1402,0,-1477,1410,0,-1504,1415,0,-1511,1420,0,-1518,1427,0,-1523]),⟨.type "code",none,.fields #[.str "<module>" 182,.str "<module>" 183,.str "/claim/cut.py" 184,.int (1) 0,.int (0) 0,.int (0) 0,.int (0) 0,.int (0) 0,.ref 11,.bool false,.int (181) 0,.ref 12,.none,.none,.none,.none,.int (185) 0,.int (1) 0,.str "/claim/cut.py" 186],#[]⟩,⟨.type "frame",none,.plain,#[some (.ref 13),some (.ref 3),some (.ref 3),none,some (.str "__main__" 164),none,some (.ref 0)]⟩,tp [],⟨.type "builtin_function_or_method",none,.fields #[.builtin "type.__prepare__",.type "type"],#[]⟩,⟨.type "dict",none,.dict #[de P "__module__" 196 (.str "js.nodes" 187),de P "__qualname__" 198 (.str "Node" 197),de P "__firstlineno__" 200 (.int (2) 199),de P "__init__" 210 (.ref 28),de P "__static_attributes__" 215 (.ref 29)] 5,#[]⟩,tp [],fl (wv [4,4,-27]),⟨.type "code",none,.fields #[.str "Node" 191,.str "Node" 192,.str "/claim/cut.py" 193,.int (2) 0,.int (0) 0,.int (0) 0,.int (0) 0,.int (0) 0,.ref 18,.bool false,.int (181) 0,.ref 19,.none,.none,.none,.none,.int (194) 0,.int (2) 0,.str "/claim/cut.py" 195],#[]⟩,⟨.type "frame",none,.plain,#[some (.ref 20),some (.ref 3),some (.ref 17),none,some (.str "js.nodes" 187),none,some (.ref 0)]⟩]++(gr 1 (some 0) "Node.__init__" 22 m0 201 ["self","kind","line","parts"] 4 4 181 []++([tp (vs 211 ["kind","line","parts","scope"]),⟨.type "dict",none,.dict #[de P "__module__" 196 (.str "js.nodes" 187),de P "__firstlineno__" 200 (.int (2) 199),de P "__init__" 210 (.ref 28),de P "__static_attributes__" 215 (.ref 29),de P "__dict__" 217 (.ref 32),de P "__weakref__" 219 (.ref 33),de P "__doc__" 220 .none] 4,#[]⟩,⟨.type "type",none,.cls ⟨"Node",[.type "object"],[.ref 31,.type "object"],30,"Node",true,[],[],false,none,false⟩,#[none,none,some (.str "Node" 189),some (.str "Node" 197),some (.builtin "object.__new__"),some (.bool true)]⟩,⟨.type "getset_descriptor",none,.fields #[.str "__dict__" 216,.ref 31,.builtin "function.__dict__",.builtin "function.__dict__#set"],#[]⟩,⟨.type "getset_descriptor",none,.fields #[.str "__weakref__" 218,.ref 31,.builtin "ExceptionGroup.__weakref__",.none],#[]⟩,⟨.type "super",none,.fields #[.ref 31,.ref 31,.ref 31],#[]⟩,⟨.type "builtin_function_or_method",none,.fields #[.builtin "object.__init_subclass__",.ref 31],#[]⟩]++(gf 2 36 m0 223 ["node","found","waiting","part"] 9 1 181 []++(gf 3 43 m0 233 [] 18 2 181 []++(gf 4 48 m0 239 ["one","other"] 24 2 181 []++(gf 5 55 m0 247 ["one","other","waiting","here","there"] 32 2 181 []++([⟨.type "list",none,.seq #[.int (9) 260,.int (11) 261,.int (12) 262,.int (32) 263,.int (160) 264,.int (5760) 265,.int (6158) 266,.int (8239) 267,.int (8287) 268,.int (12288) 269,.int (65279) 270] 0,#[]⟩,⟨.type "list",none,.seq #[.int (10) 272,.int (13) 273,.int (8232) 274,.int (8233) 275] 0,#[]⟩,tp [.int (170) 277,.int (170) 278],tp [.int (181) 279,.int (181) 280],tp [.int (186) 281,.int (186) 282],tp [.int (192) 283,.int (214) 284],tp [.int (216) 285,.int (246) 286],tp [.int (248) 287,.int (705) 288],tp [.int (880) 289,.int (883) 290],tp [.int (886) 291,.int (887) 292],tp [.int (891) 293,.int (893) 294],tp [.int (902) 295,.int (902) 296],tp [.int (904) 297,.int (906) 298],tp [.int (908) 299,.int (908) 300],tp [.int (910) 301,.int (929) 302],tp [.int (931) 303,.int (1013) 304],tp [.int (1015) 305,.int (1153) 306],tp [.int (1162) 307,.int (1315) 308],tp [.int (1329) 309,.int (1366) 310],tp [.int (1377) 311,.int (1415) 312],tp [.int (1488) 313,.int (1514) 314],tp [.int (1569) 315,.int (1594) 316],tp [.int (1601) 317,.int (1610) 318],tp [.int (2308) 319,.int (2361) 320],tp [.int (4256) 321,.int (4293) 322],tp [.int (4304) 323,.int (4346) 324],tp [.int (7680) 325,.int (7835) 326],tp [.int (7840) 327,.int (7929) 328],tp [.int (8544) 329,.int (8578) 330],tp [.int (12353) 331,.int (12438) 332],tp [.int (12449) 333,.int (12538) 334],tp [.int (12549) 335,.int (12588) 336],tp [.int (19968) 337,.int (40891) 338],tp [.int (44032) 339,.int (55203) 340],⟨.type "list",none,.seq #[.ref 64,.ref 65,.ref 66,.ref 67,.ref 68,.ref 69,.ref 70,.ref 71,.ref 72,.ref 73,.ref 74,.ref 75,.ref 76,.ref 77,.ref 78,.ref 79,.ref 80,.ref 81,.ref 82,.ref 83,.ref 84,.ref 85,.ref 86,.ref 87,.ref 88,.ref 89,.ref 90,.ref 91,.ref 92,.ref 93,.ref 94,.ref 95] 0,#[]⟩,tp [.int (768) 342,.int (879) 343],tp [.int (1632) 344,.int (1641) 345],tp [.int (2406) 346,.int (2415) 347],tp [.int (8204) 348,.int (8205) 349],tp [.int (8255) 350,.int (8256) 351]]++([tp [.int (8276) 352,.int (8276) 353],⟨.type "list",none,.seq #[.ref 97,.ref 98,.ref 99,.ref 100,.ref 101,.ref 102] 0,#[]⟩]++(gf 11 104 m1 355 ["code","ranges","first","last"] 50 2 181 []++(gf 12 111 m1 365 ["code"] 55 1 181 []++(gf 13 118 m1 372 ["code"] 57 1 181 []++(gf 14 125 m1 379 ["code"] 59 1 181 []++(gf 15 132 m1 386 ["code"] 61 1 181 []++(gf 16 139 m1 393 ["code"] 63 1 181 []++(gf 17 146 m1 400 ["code"] 69 1 181 []++(gf 18 153 m1 407 ["code"] 73 1 181 []++(gf 19 160 m1 414 ["text","sign"] 75 1 181 []++(gf 30 167 m2 453 ["n","many","step"] 92 1 181 []++(gf 31 174 m2 462 ["sign","exponent","fraction"] 102 3 181 []++(gf 32 181 m2 471 ["bits"] 104 1 181 []++(gf 33 188 m2 478 ["bits"] 106 1 181 []++(gf 34 195 m2 485 ["bits"] 108 1 181 []++(gf 35 202 m2 492 ["bits"] 110 1 181 []++(gf 36 209 m2 499 ["sign","bits"] 112 2 181 []++(gf 37 216 m2 507 ["bits","sign","exponent","fraction"] 114 1 181 []++(gf 38 223 m2 517 ["top","bottom","power"] 119 3 181 []++(gf 39 230 m2 526 ["sign","top","bottom","power","whole","rest","unit"] 125 3 181 []++(gf 40 237 m2 539 ["sign","whole","power","exponent"] 136 3 181 []++(gf 41 244 m2 549 ["n"] 145 1 181 []++(gf 45 251 m3 565 ["mantissa","power","is_edge","factor","above"] 150 2 181 []++(gf 46 258 m3 576 ["top","bottom","found"] 157 2 181 []++(gf 47 265 m3 585 ["number","above","unit","is_even","found","edge","limit"] 162 4 181 []++(gf 49 272 m3 599 ["bits","sign","mantissa","power","is_even","number","above","below","unit","place","factor","found","figure","is_low","is_high"] 171 1 181 []++(gf 50 279 m3 620 ["figure","rest","unit","is_low","is_high"] 192 5 181 []++(gf 51 286 m3 631 ["exponent"] 198 1 181 []++(gf 52 293 m3 638 ["figures","exponent","rest"] 200 2 181 []++(gf 53 300 m3 647 ["figures","place","size"] 203 2 181 []++(gf 54 307 m3 656 ["bits"] 212 1 181 []++(gf 55 314 m3 663 ["bits","told","figures","place"] 218 1 181 []++([⟨.type "dict",none,.dict #[⟨(8),.int (8) 676,.str "\\b" 677⟩,⟨(9),.int (9) 678,.str "\\t" 679⟩,⟨(10),.int (10) 680,.str "\\n" 681⟩,⟨(11),.int (11) 682,.str "\\v" 683⟩,⟨(12),.int (12) 684,.str "\\f" 685⟩,⟨(13),.int (13) 686,.str "\\r" 687⟩,⟨(34),.int (34) 688,.str "\\\"" 689⟩,⟨(92),.int (92) 690,.str "\\\\" 691⟩] 8,#[]⟩,⟨.type "dict",none,.dict #[de P "||" 703 (.int (3) 704),de P "&&" 706 (.int (4) 707),de P "|" 709 (.int (5) 710),de P "^" 712 (.int (6) 713),de P "&" 715 (.int (7) 716),de P "==" 718 (.int (8) 719),de P "!=" 721 (.int (8) 722),de P "===" 724 (.int (8) 725),de P "!==" 727 (.int (8) 728),de P "<" 730 (.int (9) 731),de P ">" 733 (.int (9) 734),de P "<=" 736 (.int (9) 737),de P ">=" 739 (.int (9) 740),de P "in" 742 (.int (9) 743),de P "instanceof" 745 (.int (9) 746),de P "<<" 748 (.int (10) 749),de P ">>" 751 (.int (10) 752),de P ">>>" 754 (.int (10) 755),de P "+" 756 (.int (11) 757),de P "-" 758 (.int (11) 759),de P "*" 760 (.int (12) 761),de P "/" 762 (.int (12) 763),de P "%" 764 (.int (12) 765)] 23,#[]⟩,⟨.type "dict",none,.dict #[de P ">>>" 754 (.int (10) 755),de P "+" 756 (.int (11) 757),de P "-" 758 (.int (11) 759),de P "*" 760 (.int (12) 761),de P "/" 762 (.int (12) 763),de P "%" 764 (.int (12) 765)] 6,#[]⟩,tp [.int (0) 773,.int (1) 774,.int (2) 775,.int (13) 776,.int (14) 777,.int (15) 778,.int (16) 779],⟨.type "tuple_iterator",none,.fields #[.none,.int (7) 0],#[]⟩,tp [],⟨.type "StopIteration",none,.fields #[.ref 326,.none,.none,.none,.bool false,.none],#[]⟩,⟨.type "dict",none,.dict #[de P "Comma" 787 (.int (0) 773),de P "Assign" 788 (.int (1) 774),de P "Cond" 789 (.int (2) 775),de P "Unary" 790 (.int (13) 776),de P "Call" 791 (.int (15) 778)] 5,#[]⟩]++(gf 63 329 m4 798 ["code","many","found","step"] 233 2 181 []++(gf 64 336 m4 808 ["text","found","sign","code"] 239 1 181 []++(gf 65 343 m4 818 [] 250 1 181 []++(gf 66 348 m4 824 ["key"] 252 1 181 []++(gf 67 355 m4 831 ["bits"] 254 1 181 []++(gf 68 362 m4 838 ["node"] 256 1 181 []++([⟨.type "dict",none,.dict #[de P "Null" 847 (.str "null" 848),de P "This" 849 (.str "this" 850)] 2,#[]⟩,⟨.type "dict",none,.dict #[de P "Assign" 854 (.ref 371),de P "Cond" 856 (.ref 372),de P "Member" 860 (.ref 373),de P "Index" 862 (.ref 374),de P "Call" 864 (.ref 375)] 5,#[]⟩,tp [.int (1) 855,.int (15) 778],tp [.int (0) 857,.int (3) 859],tp [.int (0) 861,.int (15) 778],tp [.int (0) 863,.int (15) 778],tp [.int (0) 865,.int (15) 778]]++(gf 72 376 m5 872 ["node","least","has_no_in","is_in"] 265 3 181 []++(gf 73 383 m5 882 [] 270 2 181 []++(gf 74 388 m5 888 [] 295 1 181 []++(gf 75 393 m5 894 ["triple","sort","key","node"] 299 1 181 []++(gf 76 400 m5 904 [] 304 1 181 []++(gf 77 405 m5 910 ["node","has_no_in","kind","parts","owner"] 306 2 181 []++(gf 78 412 m5 921 ["node"] 312 1 181 []++(gf 79 419 m5 928 ["node"] 316 1 181 []++(gf 80 426 m5 935 [] 320 2 181 []++(gf 81 431 m5 941 ["word","operand","is_word"] 340 2 181 []++(gf 82 438 m5 950 ["node","name"] 343 1 181 []++(gf 83 445 m5 958 [] 346 1 181 [])))))))))))))))))))))))))))))))))))))))))))))))))))))))))))
noncomputable def Q5 (P:Params):List Obj:=gf 84 450 m5 964 ["body","is_strict","texts","is_ahead","node"] 349 2 181 []++(gf 85 457 m5 975 [] 358 1 181 []++(gf 86 462 m5 981 ["pairs","has_no_in","found","name","value","behind"] 360 2 181 []++(gf 87 469 m5 993 ["node"] 366 1 181 []++(gf 88 476 m5 1000 ["node"] 368 1 181 []++(gf 90 483 m5 1008 ["node","parts","spot"] 375 1 181 []++(gf 91 490 m5 1017 ["node","kind","parts","text"] 389 1 181 []++(gf 92 497 m5 1027 ["kind","parts","word"] 411 2 181 []++(gf 93 504 m5 1036 [] 420 2 181 []++(gf 94 509 m5 1042 [] 434 1 181 []++(gf 95 514 m5 1048 ["parts","text"] 440 1 181 []++(gf 96 521 m5 1056 ["program"] 445 1 181 []++([⟨.type "dict",none,.dict #[de P "b" 1066 (.int (8) 1067),de P "t" 1068 (.int (9) 1069),de P "n" 1070 (.int (10) 1071),de P "v" 1072 (.int (11) 1073),de P "f" 1074 (.int (12) 1075),de P "r" 1076 (.int (13) 1077)] 6,#[]⟩]++(gf 100 529 m6 1085 ["text","at"] 450 2 181 []++(gf 101 536 m6 1093 ["text","at","many","value","step","figure"] 452 3 181 []++(gf 102 543 m6 1105 ["text","at"] 460 2 181 []++(gf 103 550 m6 1113 ["text","at","most","many","value"] 462 2 181 []++(gf 104 557 m6 1124 ["text","at","code","many","value","found","sign"] 471 2 181 []++(gf 107 564 m7 1141 ["sign"] 492 1 181 []++(gf 108 571 m7 1148 ["text","begin","end","radix","found","at"] 498 4 181 []++(gf 109 578 m7 1160 ["figures","exponent","told","place","number"] 503 2 181 []++([⟨.type "list",none,.seq #[.str "break" 1173,.str "case" 1174,.str "catch" 1175,.str "continue" 1176,.str "debugger" 1177,.str "default" 1178,.str "delete" 1179,.str "do" 1180,.str "else" 1181,.str "finally" 1182,.str "for" 1183,.str "function" 1184,.str "if" 1185,.str "in" 1186,.str "instanceof" 1187,.str "new" 1188,.str "return" 1189,.str "switch" 1190,.str "this" 1191,.str "throw" 1192,.str "try" 1193,.str "typeof" 1194,.str "var" 1195,.str "void" 1196,.str "while" 1197,.str "with" 1198,.str "class" 1199,.str "const" 1200,.str "enum" 1201,.str "export" 1202,.str "extends" 1203,.str "\x69mport" 1204,.str "super" 1205,.str "null" 1206,.str "true" 1207,.str "false" 1208] 0,#[]⟩,⟨.type "list",none,.seq #[.str ">>>=" 1210,.str "===" 1211,.str "!==" 1212,.str ">>>" 1213,.str "<<=" 1214,.str ">>=" 1215,.str "<=" 1216,.str ">=" 1217,.str "==" 1218,.str "!=" 1219,.str "++" 1220,.str "--" 1221,.str "<<" 1222,.str ">>" 1223,.str "&&" 1224,.str "||" 1225,.str "+=" 1226,.str "-=" 1227,.str "*=" 1228,.str "%=" 1229,.str "&=" 1230,.str "|=" 1231,.str "^=" 1232,.str "/=" 1233,.str "{" 1234,.str "}" 1235,.str "(" 1236,.str ")" 1237,.str "[" 1238,.str "]" 1239,.str "." 1240,.str ";" 1241,.str "," 1242,.str "<" 1243,.str ">" 1244,.str "+" 1245,.str "-" 1246,.str "*" 1247,.str "%" 1248,.str "&" 1249,.str "|" 1250,.str "^" 1251,.str "!" 1252,.str "~" 1253,.str "?" 1254,.str ":" 1255,.str "=" 1256,.str "/" 1257] 0,#[]⟩,⟨.type "list_iterator",none,.fields #[.none,.int (48) 0],#[]⟩,⟨.type "list",none,.seq #[.ref 590,.ref 591,.ref 592,.ref 593,.ref 594,.ref 595,.ref 596,.ref 597,.ref 598,.ref 599,.ref 600,.ref 601,.ref 602,.ref 603,.ref 604,.ref 605,.ref 606,.ref 607,.ref 608,.ref 609,.ref 610,.ref 611,.ref 612,.ref 613,.ref 614,.ref 615,.ref 616,.ref 617,.ref 618,.ref 619,.ref 620,.ref 621,.ref 622,.ref 623,.ref 624,.ref 625,.ref 626,.ref 627,.ref 628,.ref 629,.ref 630,.ref 631,.ref 632,.ref 633,.ref 634,.ref 635,.ref 636,.ref 637] 48,#[]⟩,⟨.type "dict",none,.dict #[] 2,#[]⟩,tp [.str ">>>=" 1210,.bool true],tp [.str "===" 1211,.bool true],tp [.str "!==" 1212,.bool true],tp [.str ">>>" 1213,.bool true],tp [.str "<<=" 1214,.bool true],tp [.str ">>=" 1215,.bool true],tp [.str "<=" 1216,.bool true],tp [.str ">=" 1217,.bool true],tp [.str "==" 1218,.bool true],tp [.str "!=" 1219,.bool true],tp [.str "++" 1220,.bool true],tp [.str "--" 1221,.bool true],tp [.str "<<" 1222,.bool true],tp [.str ">>" 1223,.bool true],tp [.str "&&" 1224,.bool true],tp [.str "||" 1225,.bool true],tp [.str "+=" 1226,.bool true],tp [.str "-=" 1227,.bool true],tp [.str "*=" 1228,.bool true],tp [.str "%=" 1229,.bool true],tp [.str "&=" 1230,.bool true],tp [.str "|=" 1231,.bool true],tp [.str "^=" 1232,.bool true],tp [.str "/=" 1233,.bool true],tp [.str "{" 1234,.bool true],tp [.str "}" 1235,.bool true],tp [.str "(" 1236,.bool true],tp [.str ")" 1237,.bool true],tp [.str "[" 1238,.bool true],tp [.str "]" 1239,.bool true],tp [.str "." 1240,.bool true],tp [.str ";" 1241,.bool true],tp [.str "," 1242,.bool true],tp [.str "<" 1243,.bool true],tp [.str ">" 1244,.bool true]]++([tp [.str "+" 1245,.bool true],tp [.str "-" 1246,.bool true],tp [.str "*" 1247,.bool true],tp [.str "%" 1248,.bool true],tp [.str "&" 1249,.bool true],tp [.str "|" 1250,.bool true],tp [.str "^" 1251,.bool true],tp [.str "!" 1252,.bool true],tp [.str "~" 1253,.bool true],tp [.str "?" 1254,.bool true],tp [.str ":" 1255,.bool true],tp [.str "=" 1256,.bool true],tp [.str "/" 1257,.bool true],tp [],⟨.type "StopIteration",none,.fields #[.ref 638,.none,.none,.none,.bool false,.none],#[]⟩,⟨.type "dict",none,.dict #[de P ">>>=" 1210 (.bool true),de P "===" 1211 (.bool true),de P "!==" 1212 (.bool true),de P ">>>" 1213 (.bool true),de P "<<=" 1214 (.bool true),de P ">>=" 1215 (.bool true),de P "<=" 1216 (.bool true),de P ">=" 1217 (.bool true),de P "==" 1218 (.bool true),de P "!=" 1219 (.bool true),de P "++" 1220 (.bool true),de P "--" 1221 (.bool true),de P "<<" 1222 (.bool true),de P ">>" 1223 (.bool true),de P "&&" 1224 (.bool true),de P "||" 1225 (.bool true),de P "+=" 1226 (.bool true),de P "-=" 1227 (.bool true),de P "*=" 1228 (.bool true),de P "%=" 1229 (.bool true),de P "&=" 1230 (.bool true),de P "|=" 1231 (.bool true),de P "^=" 1232 (.bool true),de P "/=" 1233 (.bool true),de P "{" 1234 (.bool true),de P "}" 1235 (.bool true),de P "(" 1236 (.bool true),de P ")" 1237 (.bool true),de P "[" 1238 (.bool true),de P "]" 1239 (.bool true),de P "." 1240 (.bool true),de P ";" 1241 (.bool true),de P "," 1242 (.bool true),de P "<" 1243 (.bool true),de P ">" 1244 (.bool true),de P "+" 1245 (.bool true),de P "-" 1246 (.bool true),de P "*" 1247 (.bool true),de P "%" 1248 (.bool true),de P "&" 1249 (.bool true),de P "|" 1250 (.bool true),de P "^" 1251 (.bool true),de P "!" 1252 (.bool true),de P "~" 1253 (.bool true),de P "?" 1254 (.bool true),de P ":" 1255 (.bool true),de P "=" 1256 (.bool true),de P "/" 1257 (.bool true)] 48,#[]⟩,tp (vs 1308 ["'list' object has no attribute 'keys'"]),⟨.type "AttributeError",none,.fields #[.ref 641,.none,.none,.none,.bool false,.none,.str "keys" 1309,.ref 588],#[]⟩,⟨.type "list_iterator",none,.fields #[.none,.int (48) 0],#[]⟩,tp [],⟨.type "StopIteration",none,.fields #[.ref 644,.none,.none,.none,.bool false,.none],#[]⟩,tp [],⟨.type "builtin_function_or_method",none,.fields #[.builtin "type.__prepare__",.type "type"],#[]⟩,⟨.type "dict",none,.dict #[de P "__module__" 1366 (.str "js.tokens" 1171),de P "__qualname__" 1368 (.str "Token" 1367),de P "__firstlineno__" 1370 (.int (518) 1369),de P "__init__" 1383 (.ref 659),de P "__static_attributes__" 1392 (.ref 660)] 5,#[]⟩,tp [],fl (wv [520,4,-658]),⟨.type "code",none,.fields #[.str "Token" 1361,.str "Token" 1362,.str "/claim/cut.py" 1363,.int (518) 0,.int (0) 0,.int (0) 0,.int (0) 0,.int (0) 0,.ref 649,.bool false,.int (181) 0,.ref 650,.none,.none,.none,.none,.int (1364) 0,.int (518) 0,.str "/claim/cut.py" 1365],#[]⟩,⟨.type "frame",none,.plain,#[some (.ref 651),some (.ref 3),some (.ref 648),none,some (.str "js.tokens" 1171),none,some (.ref 0)]⟩]++(gr 114 (some 0) "Token.__init__" 653 m8 1371 ["self","kind","value","line","is_behind_line","start","end"] 520 7 181 []++([tp (vs 1384 ["end","is_behind_line","is_octal","is_plain","kind","line","start","value"]),⟨.type "dict",none,.dict #[de P "__module__" 1366 (.str "js.tokens" 1171),de P "__firstlineno__" 1370 (.int (518) 1369),de P "__init__" 1383 (.ref 659),de P "__static_attributes__" 1392 (.ref 660),de P "__dict__" 1394 (.ref 663),de P "__weakref__" 1396 (.ref 664),de P "__doc__" 1397 .none] 4,#[]⟩,⟨.type "type",none,.cls ⟨"Token",[.type "object"],[.ref 662,.type "object"],661,"Token",true,[],[],false,none,false⟩,#[none,none,some (.str "Token" 1359),some (.str "Token" 1367),some (.builtin "object.__new__"),some (.bool true)]⟩,⟨.type "getset_descriptor",none,.fields #[.str "__dict__" 1393,.ref 662,.builtin "function.__dict__",.builtin "function.__dict__#set"],#[]⟩,⟨.type "getset_descriptor",none,.fields #[.str "__weakref__" 1395,.ref 662,.builtin "ExceptionGroup.__weakref__",.none],#[]⟩,⟨.type "super",none,.fields #[.ref 662,.ref 662,.ref 662],#[]⟩,⟨.type "builtin_function_or_method",none,.fields #[.builtin "object.__init_subclass__",.ref 662],#[]⟩]++(gf 115 667 m8 1400 ["word"] 529 1 181 []++(gf 116 674 m8 1407 ["text","at","size","piece"] 531 2 181 []++([tp [.type "Exception"],⟨.type "builtin_function_or_method",none,.fields #[.builtin "type.__prepare__",.type "type"],#[]⟩,⟨.type "dict",none,.dict #[de P "__module__" 1426 (.str "js.values" 1417),de P "__qualname__" 1428 (.str "SyntaxFail" 1427),de P "__firstlineno__" 1430 (.int (538) 1429),de P "__init__" 1439 (.ref 694),de P "__static_attributes__" 1442 (.ref 695)] 5,#[]⟩,tp [],fl (wv [540,4,-693]),⟨.type "code",none,.fields #[.str "SyntaxFail" 1421,.str "SyntaxFail" 1422,.str "/claim/cut.py" 1423,.int (538) 0,.int (0) 0,.int (0) 0,.int (0) 0,.int (0) 0,.ref 684,.bool false,.int (181) 0,.ref 685,.none,.none,.none,.none,.int (1424) 0,.int (538) 0,.str "/claim/cut.py" 1425],#[]⟩,⟨.type "frame",none,.plain,#[some (.ref 686),some (.ref 3),some (.ref 683),none,some (.str "js.values" 1417),none,some (.ref 0)]⟩]++(gr 118 (some 0) "SyntaxFail.__init__" 688 m9 1431 ["self","text","line"] 540 3 181 []++([tp (vs 1440 ["line","text"]),⟨.type "dict",none,.dict #[de P "__module__" 1426 (.str "js.values" 1417),de P "__firstlineno__" 1430 (.int (538) 1429),de P "__init__" 1439 (.ref 694),de P "__static_attributes__" 1442 (.ref 695),de P "__weakref__" 1444 (.ref 698),de P "__doc__" 1445 .none] 3,#[]⟩,⟨.type "type",none,.cls ⟨"SyntaxFail",[.type "Exception"],[.ref 697,.type "Exception",.type "BaseException",.type "object"],696,"SyntaxFail",true,[],[],false,none,false⟩,#[some (.ref 681),none,some (.str "SyntaxFail" 1419),some (.str "SyntaxFail" 1427),some (.builtin "Exception.__new__"),some (.bool true)]⟩,⟨.type "getset_descriptor",none,.fields #[.str "__weakref__" 1443,.ref 697,.builtin "ExceptionGroup.__weakref__",.none],#[]⟩,⟨.type "super",none,.fields #[.ref 697,.ref 697,.ref 697],#[]⟩,⟨.type "builtin_function_or_method",none,.fields #[.builtin "object.__init_subclass__",.ref 697],#[]⟩,tp [],⟨.type "builtin_function_or_method",none,.fields #[.builtin "type.__prepare__",.type "type"],#[]⟩,⟨.type "dict",none,.dict #[de P "__module__" 1459 (.str "js.lexer" 1450),de P "__qualname__" 1461 (.str "Lexer" 1460),de P "__firstlineno__" 1463 (.int (544) 1462),de P "__init__" 1471 (.ref 714),de P "next" 1482 (.ref 721),de P "fail" 1490 (.ref 728),de P "end_line" 1497 (.ref 735),de P "skip_blanks" 1506 (.ref 742),de P "skip_comment" 1513 (.ref 749),de P "name_sign" 1525 (.ref 756),de P "read_name" 1535 (.ref 763),de P "skip_digits" 1543 (.ref 770),de P "read_number" 1554 (.ref 777),de P "read_hex" 1563 (.ref 784),de P "read_octal" 1571 (.ref 791),de P "read_decimal" 1580 (.ref 798),de P "read_exponent" 1591 (.ref 805),de P "regex" 1602 (.ref 812),de P "regex_body" 1612 (.ref 819),de P "read_text" 1623 (.ref 826),de P "escaped" 1632 (.ref 833),de P "read_punct" 1641 (.ref 840),de P "__static_attributes__" 1645 (.ref 841)] 23,#[]⟩,tp [],fl (wv [546,4,-713,551,4,-720,568,4,-727,571,4,-734,575,4,-741,591,4,-748,602,4,-755,613,4,-762,624,4,-769,630,4,-776,644,4,-783,655,4,-790,662,4,-797,674,4,-804,688,4,-811,699,4,-818,715,4,-825,731,4,-832,742,4,-839]),⟨.type "code",none,.fields #[.str "Lexer" 1454,.str "Lexer" 1455,.str "/claim/cut.py" 1456,.int (544) 0,.int (0) 0,.int (0) 0,.int (0) 0,.int (0) 0,.ref 704,.bool false,.int (181) 0,.ref 705,.none,.none,.none,.none,.int (1457) 0,.int (544) 0,.str "/claim/cut.py" 1458],#[]⟩,⟨.type "frame",none,.plain,#[some (.ref 706),some (.ref 3),some (.ref 703),none,some (.str "js.lexer" 1450),none,some (.ref 0)]⟩]++(gr 120 (some 0) "Lexer.__init__" 708 iQ 1464 ["self","text"] 546 2 181 []++(gr 120 (some 1) "Lexer.next" 715 iQ 1472 ["self","is_behind_line","start","code","token"] 551 1 181 []++(gr 120 (some 2) "Lexer.fail" 722 iQ 1483 ["self","text"] 568 2 181 []++(gr 120 (some 3) "Lexer.end_line" 729 iQ 1491 ["self"] 571 1 181 []++(gr 120 (some 4) "Lexer.skip_blanks" 736 iQ 1498 ["self","line","code"] 575 1 181 []++(gr 120 (some 5) "Lexer.skip_comment" 743 iQ 1507 ["self"] 591 1 181 []++(gr 120 (some 6) "Lexer.name_sign" 750 iQ 1514 ["self","is_first","code","behind","is_escape","is_right"] 602 2 181 []++(gr 120 (some 7) "Lexer.read_name" 757 iQ 1526 ["self","token","found","told"] 613 2 181 []++(gr 120 (some 8) "Lexer.skip_digits" 764 iQ 1536 ["self","start"] 624 1 181 []++(gr 120 (some 9) "Lexer.read_number" 771 iQ 1544 ["self","token","ahead","sign","code"] 630 2 181 []++(gr 120 (some 10) "Lexer.read_hex" 778 iQ 1555 ["self","value","many"] 644 1 181 []++(gr 120 (some 11) "Lexer.read_octal" 785 iQ 1564 ["self","value"] 655 1 181 []++(gr 120 (some 12) "Lexer.read_decimal" 792 iQ 1572 ["self","whole","part"] 662 1 181 []++(gr 120 (some 13) "Lexer.read_exponent" 799 iQ 1581 ["self","sign","figures","shown","power"] 674 1 181 []++(gr 120 (some 14) "Lexer.regex" 806 iQ 1592 ["self","token","body","start","found"] 688 2 181 []++(gr 120 (some 15) "Lexer.regex_body" 813 iQ 1603 ["self","start","is_class","code"] 699 1 181 []++(gr 120 (some 16) "Lexer.read_text" 820 iQ 1613 ["self","token","quote","found","code"] 715 3 181 []++(gr 120 (some 17) "Lexer.escaped" 827 iQ 1624 ["self","token","told"] 731 2 181 []++(gr 120 (some 18) "Lexer.read_punct" 834 iQ 1633 ["self","token","punct"] 742 2 181 []++([tp (vs 1642 ["at","line","text"]),⟨.type "dict",none,.dict #[de P "__module__" 1459 (.str "js.lexer" 1450),de P "__firstlineno__" 1463 (.int (544) 1462),de P "__init__" 1471 (.ref 714),de P "next" 1482 (.ref 721),de P "fail" 1490 (.ref 728),de P "end_line" 1497 (.ref 735),de P "skip_blanks" 1506 (.ref 742),de P "skip_comment" 1513 (.ref 749),de P "name_sign" 1525 (.ref 756),de P "read_name" 1535 (.ref 763),de P "skip_digits" 1543 (.ref 770),de P "read_number" 1554 (.ref 777),de P "read_hex" 1563 (.ref 784),de P "read_octal" 1571 (.ref 791),de P "read_decimal" 1580 (.ref 798),de P "read_exponent" 1591 (.ref 805),de P "regex" 1602 (.ref 812),de P "regex_body" 1612 (.ref 819),de P "read_text" 1623 (.ref 826),de P "escaped" 1632 (.ref 833),de P "read_punct" 1641 (.ref 840),de P "__static_attributes__" 1645 (.ref 841),de P "__dict__" 1647 (.ref 844),de P "__weakref__" 1649 (.ref 845),de P "__doc__" 1650 .none] 4,#[]⟩,⟨.type "type",none,.cls ⟨"Lexer",[.type "object"],[.ref 843,.type "object"],842,"Lexer",true,[],[],false,none,false⟩,#[none,none,some (.str "Lexer" 1452),some (.str "Lexer" 1460),some (.builtin "object.__new__"),some (.bool true)]⟩,⟨.type "getset_descriptor",none,.fields #[.str "__dict__" 1646,.ref 843,.builtin "function.__dict__",.builtin "function.__dict__#set"],#[]⟩,⟨.type "getset_descriptor",none,.fields #[.str "__weakref__" 1648,.ref 843,.builtin "ExceptionGroup.__weakref__",.none],#[]⟩,⟨.type "super",none,.fields #[.ref 843,.ref 843,.ref 843],#[]⟩,⟨.type "builtin_function_or_method",none,.fields #[.builtin "object.__init_subclass__",.ref 843],#[]⟩,tp (vs 1655 ["implements","interface","let","package","private","protected","public","static","yield"]),tp (vs 1665 ["arguments","eval"]),tp (vs 1668 ["Name","Member","Index"])]++(gf 125 851 lO 1672 ["name","is_strict"] 753 2 181 []++(gf 126 858 lO 1680 ["name","is_strict"] 757 2 181 []++(gf 127 865 lO 1688 ["names","seen","name"] 761 1 181 []++(gf 128 872 lO 1697 ["name","params","is_strict","word","fault","twice"] 768 3 181 []++(gf 129 879 lO 1709 ["kind","name","is_strict"] 777 3 181 []++(gf 130 886 lO 1718 ["kind","is_strict"] 781 2 181 []++(gf 131 893 lO 1726 ["is_octal","is_strict"] 783 2 181 []++(gf 132 900 lO 1734 ["known","sort","key","is_strict","sorts"] 785 4 181 []++(gf 133 907 lO 1745 ["sort","params","wanted"] 795 2 181 []++([tp [],⟨.type "builtin_function_or_method",none,.fields #[.builtin "type.__prepare__",.type "type"],#[]⟩,⟨.type "dict",none,.dict #[de P "__module__" 1761 (.str "js.strictness" 1653),de P "__qualname__" 1763 (.str "Jumps" 1762),de P "__firstlineno__" 1765 (.int (798) 1764),de P "__init__" 1772 (.ref 927),de P "label_fault" 1778 (.ref 932),de P "break_fault" 1784 (.ref 937),de P "continue_fault" 1790 (.ref 942),de P "__static_attributes__" 1794 (.ref 943)] 8,#[]⟩,tp [],fl (wv [800,4,-926,805,4,-931,808,4,-936,813,4,-941]),⟨.type "code",none,.fields #[.str "Jumps" 1756,.str "Jumps" 1757,.str "/claim/cut.py" 1758,.int (798) 0,.int (0) 0,.int (0) 0,.int (0) 0,.int (0) 0,.ref 917,.bool false,.int (181) 0,.ref 918,.none,.none,.none,.none,.int (1759) 0,.int (798) 0,.str "/claim/cut.py" 1760],#[]⟩,⟨.type "frame",none,.plain,#[some (.ref 919),some (.ref 3),some (.ref 916),none,some (.str "js.strictness" 1653),none,some (.ref 0)]⟩])))))))))))))))))))))))))))))))))))))))))))))))))))))))))))
noncomputable def RS (P:Params):List Obj:=gr 134 (some 0) "Jumps.__init__" 921 lO 1766 ["self"] 800 1 181 []++(gr 134 (some 1) "Jumps.label_fault" 928 lO 1773 [] 805 2 181 []++(gr 134 (some 2) "Jumps.break_fault" 933 lO 1779 [] 808 2 181 []++(gr 134 (some 3) "Jumps.continue_fault" 938 lO 1785 [] 813 2 181 []++([tp (vs 1791 ["labels","loops","switches"]),⟨.type "dict",none,.dict #[de P "__module__" 1761 (.str "js.strictness" 1653),de P "__firstlineno__" 1765 (.int (798) 1764),de P "__init__" 1772 (.ref 927),de P "label_fault" 1778 (.ref 932),de P "break_fault" 1784 (.ref 937),de P "continue_fault" 1790 (.ref 942),de P "__static_attributes__" 1794 (.ref 943),de P "__dict__" 1796 (.ref 946),de P "__weakref__" 1798 (.ref 947),de P "__doc__" 1799 .none] 4,#[]⟩,⟨.type "type",none,.cls ⟨"Jumps",[.type "object"],[.ref 945,.type "object"],944,"Jumps",true,[],[],false,none,false⟩,#[none,none,some (.str "Jumps" 1754),some (.str "Jumps" 1762),some (.builtin "object.__new__"),some (.bool true)]⟩,⟨.type "getset_descriptor",none,.fields #[.str "__dict__" 1795,.ref 945,.builtin "function.__dict__",.builtin "function.__dict__#set"],#[]⟩,⟨.type "getset_descriptor",none,.fields #[.str "__weakref__" 1797,.ref 945,.builtin "ExceptionGroup.__weakref__",.none],#[]⟩,⟨.type "super",none,.fields #[.ref 945,.ref 945,.ref 945],#[]⟩,⟨.type "builtin_function_or_method",none,.fields #[.builtin "object.__init_subclass__",.ref 945],#[]⟩,tp [],⟨.type "builtin_function_or_method",none,.fields #[.builtin "type.__prepare__",.type "type"],#[]⟩,⟨.type "dict",none,.dict #[de P "__module__" 1815 (.str "js.parse_base" 1802),de P "__qualname__" 1817 (.str "TokenTaker" 1816),de P "__firstlineno__" 1819 (.int (822) 1818),de P "__init__" 1827 (.ref 963),de P "take" 1835 (.ref 970),de P "peek" 1842 (.ref 977),de P "is_sign" 1850 (.ref 984),de P "is_word" 1858 (.ref 991),de P "eat" 1866 (.ref 998),de P "need" 1874 (.ref 1005),de P "need_word" 1882 (.ref 1012),de P "fail" 1890 (.ref 1019),de P "fail_for" 1898 (.ref 1026),de P "unexpected" 1905 (.ref 1033),de P "go_in" 1912 (.ref 1040),de P "go_out" 1919 (.ref 1047),de P "need_name" 1926 (.ref 1054),de P "need_binding" 1933 (.ref 1061),de P "property_name" 1940 (.ref 1068),de P "can_end" 1947 (.ref 1075),de P "end_statement" 1954 (.ref 1082),de P "__static_attributes__" 1963 (.ref 1083)] 22,#[]⟩,tp [],fl (wv [824,4,-962,834,4,-969,843,4,-976,848,4,-983,851,4,-990,854,4,-997,860,4,-1004,864,4,-1011,869,4,-1018,872,4,-1025,876,4,-1032,879,4,-1039,884,4,-1046,887,4,-1053,893,4,-1060,899,4,-1067,904,4,-1074,907,4,-1081]),⟨.type "code",none,.fields #[.str "TokenTaker" 1810,.str "TokenTaker" 1811,.str "/claim/cut.py" 1812,.int (822) 0,.int (0) 0,.int (0) 0,.int (0) 0,.int (0) 0,.ref 953,.bool false,.int (181) 0,.ref 954,.none,.none,.none,.none,.int (1813) 0,.int (822) 0,.str "/claim/cut.py" 1814],#[]⟩,⟨.type "frame",none,.plain,#[some (.ref 955),some (.ref 3),some (.ref 952),none,some (.str "js.parse_base" 1802),none,some (.ref 0)]⟩]++(gr 138 (some 0) "TokenTaker.__init__" 957 iN 1820 ["self","text"] 824 2 181 []++(gr 138 (some 1) "TokenTaker.take" 964 iN 1828 ["self","taken"] 834 1 181 []++(gr 138 (some 2) "TokenTaker.peek" 971 iN 1836 ["self"] 843 1 181 []++(gr 138 (some 3) "TokenTaker.is_sign" 978 iN 1843 ["self","sign"] 848 2 181 []++(gr 138 (some 4) "TokenTaker.is_word" 985 iN 1851 ["self","word"] 851 2 181 []++(gr 138 (some 5) "TokenTaker.eat" 992 iN 1859 ["self","sign"] 854 2 181 []++(gr 138 (some 6) "TokenTaker.need" 999 iN 1867 ["self","sign"] 860 2 181 []++(gr 138 (some 7) "TokenTaker.need_word" 1006 iN 1875 ["self","word"] 864 2 181 []++(gr 138 (some 8) "TokenTaker.fail" 1013 iN 1883 ["self","text"] 869 2 181 []++(gr 138 (some 9) "TokenTaker.fail_for" 1020 iN 1891 ["self","fault"] 872 2 181 []++(gr 138 (some 10) "TokenTaker.unexpected" 1027 iN 1899 ["self"] 876 1 181 []++(gr 138 (some 11) "TokenTaker.go_in" 1034 iN 1906 ["self"] 879 1 181 []++(gr 138 (some 12) "TokenTaker.go_out" 1041 iN 1913 ["self"] 884 1 181 []++(gr 138 (some 13) "TokenTaker.need_name" 1048 iN 1920 ["self"] 887 1 181 []++(gr 138 (some 14) "TokenTaker.need_binding" 1055 iN 1927 ["self"] 893 1 181 []++(gr 138 (some 15) "TokenTaker.property_name" 1062 iN 1934 ["self"] 899 1 181 []++(gr 138 (some 16) "TokenTaker.can_end" 1069 iN 1941 ["self"] 904 1 181 []++(gr 138 (some 17) "TokenTaker.end_statement" 1076 iN 1948 ["self"] 907 1 181 []++([tp (vs 1955 ["depth","is_strict","jumps","later","lexer","nested","pending","token"]),⟨.type "dict",none,.dict #[de P "__module__" 1815 (.str "js.parse_base" 1802),de P "__firstlineno__" 1819 (.int (822) 1818),de P "__init__" 1827 (.ref 963),de P "take" 1835 (.ref 970),de P "peek" 1842 (.ref 977),de P "is_sign" 1850 (.ref 984),de P "is_word" 1858 (.ref 991),de P "eat" 1866 (.ref 998),de P "need" 1874 (.ref 1005),de P "need_word" 1882 (.ref 1012),de P "fail" 1890 (.ref 1019),de P "fail_for" 1898 (.ref 1026),de P "unexpected" 1905 (.ref 1033),de P "go_in" 1912 (.ref 1040),de P "go_out" 1919 (.ref 1047),de P "need_name" 1926 (.ref 1054),de P "need_binding" 1933 (.ref 1061),de P "property_name" 1940 (.ref 1068),de P "can_end" 1947 (.ref 1075),de P "end_statement" 1954 (.ref 1082),de P "__static_attributes__" 1963 (.ref 1083),de P "__dict__" 1965 (.ref 1086),de P "__weakref__" 1967 (.ref 1087),de P "__doc__" 1968 .none] 4,#[]⟩,⟨.type "type",none,.cls ⟨"TokenTaker",[.type "object"],[.ref 1085,.type "object"],1084,"TokenTaker",true,[],[.ref 1231],false,none,false⟩,#[none,none,some (.str "TokenTaker" 1808),some (.str "TokenTaker" 1816),some (.builtin "object.__new__"),some (.bool true)]⟩,⟨.type "getset_descriptor",none,.fields #[.str "__dict__" 1964,.ref 1085,.builtin "function.__dict__",.builtin "function.__dict__#set"],#[]⟩,⟨.type "getset_descriptor",none,.fields #[.str "__weakref__" 1966,.ref 1085,.builtin "ExceptionGroup.__weakref__",.none],#[]⟩,⟨.type "super",none,.fields #[.ref 1085,.ref 1085,.ref 1085],#[]⟩,⟨.type "builtin_function_or_method",none,.fields #[.builtin "object.__init_subclass__",.ref 1085],#[]⟩,⟨.type "dict",none,.dict #[de P "||" 1973 (.int (1) 1974),de P "&&" 1976 (.int (2) 1977),de P "|" 1979 (.int (3) 1980),de P "^" 1982 (.int (4) 1983),de P "&" 1985 (.int (5) 1986),de P "==" 1988 (.int (6) 1989),de P "!=" 1991 (.int (6) 1992),de P "===" 1994 (.int (6) 1995),de P "!==" 1997 (.int (6) 1998),de P "<" 2000 (.int (7) 2001),de P ">" 2003 (.int (7) 2004),de P "<=" 2006 (.int (7) 2007),de P ">=" 2009 (.int (7) 2010),de P "instanceof" 2012 (.int (7) 2013),de P "in" 2015 (.int (7) 2016),de P "<<" 2018 (.int (8) 2019),de P ">>" 2021 (.int (8) 2022),de P ">>>" 2024 (.int (8) 2025),de P "+" 2026 (.int (9) 2027),de P "-" 2028 (.int (9) 2029),de P "*" 2030 (.int (10) 2031),de P "/" 2032 (.int (10) 2033),de P "%" 2034 (.int (10) 2035)] 23,#[]⟩,⟨.type "dict",none,.dict #[de P ">>>" 2024 (.int (8) 2025),de P "+" 2026 (.int (9) 2027),de P "-" 2028 (.int (9) 2029),de P "*" 2030 (.int (10) 2031),de P "/" 2032 (.int (10) 2033),de P "%" 2034 (.int (10) 2035)] 6,#[]⟩,tp (vs 2043 ["=","+=","-=","*=","/=","%=","<<=",">>=",">>>=","&=","^=","|="]),tp (vs 2056 ["-","+","!","~"]),tp (vs 2061 ["typeof","void","delete"]),tp (vs 2065 ["++","--"]),tp (wv [-1085]),⟨.type "builtin_function_or_method",none,.fields #[.builtin "type.__prepare__",.type "type"],#[]⟩,⟨.type "dict",none,.dict #[de P "__module__" 2075 (.str "js.parse_expr" 1971),de P "__qualname__" 2077 (.str "ExprParser" 2076),de P "__firstlineno__" 2079 (.int (916) 2078),de P "function" 2087 (.ref 1109),de P "expression" 2097 (.ref 1116),de P "assignment" 2107 (.ref 1123),de P "need_target" 2115 (.ref 1130),de P "conditional" 2125 (.ref 1137),de P "priority" 2133 (.ref 1144),de P "binary" 2146 (.ref 1151),de P "unary" 2158 (.ref 1158),de P "operand_behind" 2166 (.ref 1165),de P "postfix" 2174 (.ref 1172),de P "left_hand" 2182 (.ref 1179),de P "with_members" 2191 (.ref 1186),de P "creation" 2200 (.ref 1193),de P "arguments" 2208 (.ref 1200),de P "primary" 2217 (.ref 1207),de P "word_operand" 2225 (.ref 1214),de P "array" 2234 (.ref 1221),de P "object" 2241 (.ref 1228),de P "__static_attributes__" 2243 (.ref 1229)] 22,#[]⟩,tp [],fl (wv [918,4,-1108,921,4,-1115,930,4,-1122,940,4,-1129,943,4,-1136,951,4,-1143,958,4,-1150,967,4,-1157,982,4,-1164,989,4,-1171,996,4,-1178,1002,4,-1185,1012,4,-1192,1019,4,-1199,1031,4,-1206,1054,4,-1213,1068,4,-1220,1081,4,-1227]),⟨.type "code",none,.fields #[.str "ExprParser" 2070,.str "ExprParser" 2071,.str "/claim/cut.py" 2072,.int (916) 0,.int (0) 0,.int (0) 0,.int (0) 0,.int (0) 0,.ref 1099,.bool false,.int (181) 0,.ref 1100,.none,.none,.none,.none,.int (2073) 0,.int (916) 0,.str "/claim/cut.py" 2074],#[]⟩,⟨.type "frame",none,.plain,#[some (.ref 1101),some (.ref 3),some (.ref 1098),none,some (.str "js.parse_expr" 1971),none,some (.ref 0)]⟩]++(gr 145 (some 0) "ExprParser.function" 1103 gH 2080 ["self","sort"] 918 2 181 []++(gr 145 (some 1) "ExprParser.expression" 1110 gH 2088 ["self","can_in","first","found"] 921 2 181 []++(gr 145 (some 2) "ExprParser.assignment" 1117 gH 2098 ["self","can_in","found","op"] 930 2 181 []++(gr 145 (some 3) "ExprParser.need_target" 1124 gH 2108 ["self","node"] 940 2 181 []++(gr 145 (some 4) "ExprParser.conditional" 1131 gH 2116 ["self","can_in","test","then"] 943 2 181 []++(gr 145 (some 5) "ExprParser.priority" 1138 gH 2126 ["self","can_in"] 951 2 181 []++(gr 145 (some 6) "ExprParser.binary" 1145 gH 2134 ["self","least","can_in","left","strength","op","right"] 958 3 181 []++(gr 145 (some 7) "ExprParser.unary" 1152 gH 2147 ["self","token","target","is_sign","is_word","operand"] 967 1 181 []++(gr 145 (some 8) "ExprParser.operand_behind" 1159 gH 2159 ["self","found"] 982 1 181 []++(gr 145 (some 9) "ExprParser.postfix" 1166 gH 2167 ["self","node"] 989 1 181 []++(gr 145 (some 10) "ExprParser.left_hand" 1173 gH 2175 ["self","node"] 996 1 181 []++(gr 145 (some 11) "ExprParser.with_members" 1180 gH 2183 ["self","node","key"] 1002 2 181 []++(gr 145 (some 12) "ExprParser.creation" 1187 gH 2192 ["self","line","made"] 1012 1 181 []++(gr 145 (some 13) "ExprParser.arguments" 1194 gH 2201 ["self","found"] 1019 1 181 []++(gr 145 (some 14) "ExprParser.primary" 1201 gH 2209 ["self","token","found"] 1031 1 181 []++(gr 145 (some 15) "ExprParser.word_operand" 1208 gH 2218 ["self","token"] 1054 1 181 []++(gr 145 (some 16) "ExprParser.array" 1215 gH 2226 ["self","line","found"] 1068 1 181 []++(gr 145 (some 17) "ExprParser.object" 1222 gH 2235 ["self"] 1081 1 181 []++([tp (vs 2242 ["token"]),⟨.type "dict",none,.dict #[de P "__module__" 2075 (.str "js.parse_expr" 1971),de P "__firstlineno__" 2079 (.int (916) 2078),de P "function" 2087 (.ref 1109),de P "expression" 2097 (.ref 1116),de P "assignment" 2107 (.ref 1123),de P "need_target" 2115 (.ref 1130),de P "conditional" 2125 (.ref 1137),de P "priority" 2133 (.ref 1144),de P "binary" 2146 (.ref 1151),de P "unary" 2158 (.ref 1158),de P "operand_behind" 2166 (.ref 1165),de P "postfix" 2174 (.ref 1172),de P "left_hand" 2182 (.ref 1179),de P "with_members" 2191 (.ref 1186),de P "creation" 2200 (.ref 1193),de P "arguments" 2208 (.ref 1200),de P "primary" 2217 (.ref 1207),de P "word_operand" 2225 (.ref 1214),de P "array" 2234 (.ref 1221),de P "object" 2241 (.ref 1228),de P "__static_attributes__" 2243 (.ref 1229),de P "__doc__" 2244 .none] 2,#[]⟩,⟨.type "type",none,.cls ⟨"ExprParser",[.ref 1085],[.ref 1231,.ref 1085,.type "object"],1230,"ExprParser",true,[],[.ref 1332],false,none,false⟩,#[some (.ref 1096),none,some (.str "ExprParser" 2068),some (.str "ExprParser" 2076),some (.builtin "object.__new__"),some (.bool true)]⟩,⟨.type "super",none,.fields #[.ref 1231,.ref 1231,.ref 1231],#[]⟩,⟨.type "builtin_function_or_method",none,.fields #[.builtin "object.__init_subclass__",.ref 1231],#[]⟩,tp (wv [-1231]),⟨.type "builtin_function_or_method",none,.fields #[.builtin "type.__prepare__",.type "type"],#[]⟩,⟨.type "dict",none,.dict #[de P "__module__" 2256 (.str "js.parse_simple" 2247),de P "__qualname__" 2258 (.str "SimpleParser" 2257),de P "__firstlineno__" 2260 (.int (1084) 2259),de P "body" 2266 (.ref 1245),de P "at_end" 2274 (.ref 1252),de P "element" 2281 (.ref 1259),de P "statement" 2289 (.ref 1266),de P "bare_statement" 2299 (.ref 1273),de P "plain_expression" 2308 (.ref 1280),de P "word_statement" 2319 (.ref 1287),de P "large_statement" 2329 (.ref 1294),de P "block" 2337 (.ref 1301),de P "variables" 2347 (.ref 1308),de P "labelled" 2359 (.ref 1315),de P "jump" 2369 (.ref 1322),de P "leaving" 2379 (.ref 1329),de P "__static_attributes__" 2382 (.ref 1330)] 17,#[]⟩,tp [],fl (wv [1086,4,-1244,1105,4,-1251,1108,4,-1258,1114,4,-1265,1120,4,-1272,1135,4,-1279,1141,4,-1286,1162,4,-1293,1165,4,-1300,1173,4,-1307,1181,4,-1314,1193,4,-1321,1202,4,-1328]),⟨.type "code",none,.fields #[.str "SimpleParser" 2251,.str "SimpleParser" 2252,.str "/claim/cut.py" 2253,.int (1084) 0,.int (0) 0,.int (0) 0,.int (0) 0,.int (0) 0,.ref 1237,.bool false,.int (181) 0,.ref 1238,.none,.none,.none,.none,.int (2254) 0,.int (1084) 0,.str "/claim/cut.py" 2255],#[]⟩,⟨.type "frame",none,.plain,#[some (.ref 1239),some (.ref 3),some (.ref 1236),none,some (.str "js.parse_simple" 2247),none,some (.ref 0)]⟩]++(gr 147 (some 0) "SimpleParser.body" 1241 nA 2261 [] 1086 2 181 []++(gr 147 (some 1) "SimpleParser.at_end" 1246 nA 2267 ["self","is_end"] 1105 2 181 []++(gr 147 (some 2) "SimpleParser.element" 1253 nA 2275 ["self"] 1108 1 181 []++(gr 147 (some 3) "SimpleParser.statement" 1260 nA 2282 ["self","found"] 1114 1 181 []++(gr 147 (some 4) "SimpleParser.bare_statement" 1267 nA 2290 ["self","token","pending","later"] 1120 1 181 []++(gr 147 (some 5) "SimpleParser.plain_expression" 1274 nA 2300 ["self","line","found"] 1135 1 181 []++(gr 147 (some 6) "SimpleParser.word_statement" 1281 nA 2309 ["self","word","pending","line","found"] 1141 3 181 []++(gr 147 (some 7) "SimpleParser.large_statement" 1288 nA 2320 ["self","word","line","pending"] 1162 4 181 []++(gr 147 (some 8) "SimpleParser.block" 1295 nA 2330 ["self","found"] 1165 1 181 []++(gr 147 (some 9) "SimpleParser.variables" 1302 nA 2338 ["self","can_in","found","name"] 1173 2 181 []++(gr 147 (some 10) "SimpleParser.labelled" 1309 nA 2348 ["self","pending","line","name","label","found"] 1181 2 181 []++(gr 147 (some 11) "SimpleParser.jump" 1316 nA 2360 ["self","word","line","name"] 1193 3 181 []++(gr 147 (some 12) "SimpleParser.leaving" 1323 nA 2370 ["self","word","line","found"] 1202 3 181 []++([tp (vs 2380 ["is_strict","pending"]),⟨.type "dict",none,.dict #[de P "__module__" 2256 (.str "js.parse_simple" 2247),de P "__firstlineno__" 2260 (.int (1084) 2259),de P "body" 2266 (.ref 1245),de P "at_end" 2274 (.ref 1252),de P "element" 2281 (.ref 1259),de P "statement" 2289 (.ref 1266),de P "bare_statement" 2299 (.ref 1273),de P "plain_expression" 2308 (.ref 1280),de P "word_statement" 2319 (.ref 1287),de P "large_statement" 2329 (.ref 1294),de P "block" 2337 (.ref 1301),de P "variables" 2347 (.ref 1308),de P "labelled" 2359 (.ref 1315),de P "jump" 2369 (.ref 1322),de P "leaving" 2379 (.ref 1329),de P "__static_attributes__" 2382 (.ref 1330),de P "__doc__" 2383 .none] 2,#[]⟩,⟨.type "type",none,.cls ⟨"SimpleParser",[.ref 1231],[.ref 1332,.ref 1231,.ref 1085,.type "object"],1331,"SimpleParser",true,[],[.ref 1386],false,none,false⟩,#[some (.ref 1234),none,some (.str "SimpleParser" 2249),some (.str "SimpleParser" 2257),some (.builtin "object.__new__"),some (.bool true)]⟩,⟨.type "super",none,.fields #[.ref 1332,.ref 1332,.ref 1332],#[]⟩,⟨.type "builtin_function_or_method",none,.fields #[.builtin "object.__init_subclass__",.ref 1332],#[]⟩,tp (wv [-1332]),⟨.type "builtin_function_or_method",none,.fields #[.builtin "type.__prepare__",.type "type"],#[]⟩,⟨.type "dict",none,.dict #[de P "__module__" 2395 (.str "js.parse_literal" 2386),de P "__qualname__" 2397 (.str "LiteralParser" 2396),de P "__firstlineno__" 2399 (.int (1215) 2398),de P "object" 2410 (.ref 1348),de P "entry" 2421 (.ref 1355),de P "entry_key" 2429 (.ref 1362),de P "function" 2444 (.ref 1369),de P "function_name" 2452 (.ref 1376),de P "parameters" 2460 (.ref 1383),de P "__static_attributes__" 2464 (.ref 1384)] 10,#[]⟩,tp [],fl (wv [1217,4,-1347,1229,4,-1354,1243,4,-1361,1251,4,-1368,1267,4,-1375,1272,4,-1382]),⟨.type "code",none,.fields #[.str "LiteralParser" 2390,.str "LiteralParser" 2391,.str "/claim/cut.py" 2392,.int (1215) 0,.int (0) 0,.int (0) 0,.int (0) 0,.int (0) 0,.ref 1338,.bool false,.int (181) 0,.ref 1339,.none,.none,.none,.none,.int (2393) 0,.int (1215) 0,.str "/claim/cut.py" 2394],#[]⟩,⟨.type "frame",none,.plain,#[some (.ref 1340),some (.ref 3),some (.ref 1337),none,some (.str "js.parse_literal" 2386),none,some (.ref 0)]⟩]++(gr 149 (some 0) "LiteralParser.object" 1342 zZ 2400 ["self","line","found","known","entry"] 1217 1 181 []++(gr 149 (some 1) "LiteralParser.entry" 1349 zZ 2411 ["self","word","later","key","made"] 1229 1 181 []++(gr 149 (some 2) "LiteralParser.entry_key" 1356 zZ 2422 ["self","token"] 1243 1 181 [])))))))))))))))))))))))))))))))))))))))))))))))))))))))))))
noncomputable def QN (P:Params):List Obj:=gr 149 (some 3) "LiteralParser.function" 1363 zZ 2430 ["self","sort","line","is_strict","jumps","name","params","found","made"] 1251 2 181 []++(gr 149 (some 4) "LiteralParser.function_name" 1370 zZ 2445 ["self","sort"] 1267 2 181 []++(gr 149 (some 5) "LiteralParser.parameters" 1377 zZ 2453 ["self","found"] 1272 1 181 []++([tp (vs 2461 ["depth","is_strict","jumps"]),⟨.type "dict",none,.dict #[de P "__module__" 2395 (.str "js.parse_literal" 2386),de P "__firstlineno__" 2399 (.int (1215) 2398),de P "object" 2410 (.ref 1348),de P "entry" 2421 (.ref 1355),de P "entry_key" 2429 (.ref 1362),de P "function" 2444 (.ref 1369),de P "function_name" 2452 (.ref 1376),de P "parameters" 2460 (.ref 1383),de P "__static_attributes__" 2464 (.ref 1384),de P "__doc__" 2465 .none] 2,#[]⟩,⟨.type "type",none,.cls ⟨"LiteralParser",[.ref 1332],[.ref 1386,.ref 1332,.ref 1231,.ref 1085,.type "object"],1385,"LiteralParser",true,[],[.ref 1469],false,none,false⟩,#[some (.ref 1335),none,some (.str "LiteralParser" 2388),some (.str "LiteralParser" 2396),some (.builtin "object.__new__"),some (.bool true)]⟩,⟨.type "super",none,.fields #[.ref 1386,.ref 1386,.ref 1386],#[]⟩,⟨.type "builtin_function_or_method",none,.fields #[.builtin "object.__init_subclass__",.ref 1386],#[]⟩,tp (vs 2470 ["do","while","for"]),tp (wv [-1386]),⟨.type "builtin_function_or_method",none,.fields #[.builtin "type.__prepare__",.type "type"],#[]⟩,⟨.type "dict",none,.dict #[de P "__module__" 2481 (.str "js.parse_stmt" 2468),de P "__qualname__" 2483 (.str "StmtParser" 2482),de P "__firstlineno__" 2485 (.int (1283) 2484),de P "large_statement" 2495 (.ref 1403),de P "condition" 2503 (.ref 1410),de P "choice" 2514 (.ref 1417),de P "loop" 2527 (.ref 1424),de P "loop_body" 2535 (.ref 1431),de P "for_loop" 2548 (.ref 1438),de P "key_loop" 2558 (.ref 1445),de P "switch" 2570 (.ref 1452),de P "case_body" 2578 (.ref 1459),de P "attempt" 2590 (.ref 1466),de P "__static_attributes__" 2591 (.ref 1467)] 14,#[]⟩,tp [],fl (wv [1285,4,-1402,1294,4,-1409,1300,4,-1416,1309,4,-1423,1324,4,-1430,1330,4,-1437,1351,4,-1444,1357,4,-1451,1379,4,-1458,1385,4,-1465]),⟨.type "code",none,.fields #[.str "StmtParser" 2476,.str "StmtParser" 2477,.str "/claim/cut.py" 2478,.int (1283) 0,.int (0) 0,.int (0) 0,.int (0) 0,.int (0) 0,.ref 1393,.bool false,.int (181) 0,.ref 1394,.none,.none,.none,.none,.int (2479) 0,.int (1283) 0,.str "/claim/cut.py" 2480],#[]⟩,⟨.type "frame",none,.plain,#[some (.ref 1395),some (.ref 3),some (.ref 1392),none,some (.str "js.parse_stmt" 2468),none,some (.ref 0)]⟩]++(gr 152 (some 0) "StmtParser.large_statement" 1397 oX 2486 ["self","word","line","pending"] 1285 4 181 []++(gr 152 (some 1) "StmtParser.condition" 1404 oX 2496 ["self","found"] 1294 1 181 []++(gr 152 (some 2) "StmtParser.choice" 1411 oX 2504 ["self","line","test","then","other"] 1300 2 181 []++(gr 152 (some 3) "StmtParser.loop" 1418 oX 2515 ["self","word","line","pending","label","test","body"] 1309 4 181 []++(gr 152 (some 4) "StmtParser.loop_body" 1425 oX 2528 ["self","found"] 1324 1 181 []++(gr 152 (some 5) "StmtParser.for_loop" 1432 oX 2536 ["self","line","first","begin","name","test","step"] 1330 2 181 []++(gr 152 (some 6) "StmtParser.key_loop" 1439 oX 2549 ["self","line","target","walked"] 1351 3 181 []++(gr 152 (some 7) "StmtParser.switch" 1446 oX 2559 ["self","line","value","found","has_default","test"] 1357 2 181 []++(gr 152 (some 8) "StmtParser.case_body" 1453 oX 2571 ["self","found"] 1379 1 181 []++(gr 152 (some 9) "StmtParser.attempt" 1460 oX 2579 ["self","line","block","name","caught","last"] 1385 2 181 []++([tp [],⟨.type "dict",none,.dict #[de P "__module__" 2481 (.str "js.parse_stmt" 2468),de P "__firstlineno__" 2485 (.int (1283) 2484),de P "large_statement" 2495 (.ref 1403),de P "condition" 2503 (.ref 1410),de P "choice" 2514 (.ref 1417),de P "loop" 2527 (.ref 1424),de P "loop_body" 2535 (.ref 1431),de P "for_loop" 2548 (.ref 1438),de P "key_loop" 2558 (.ref 1445),de P "switch" 2570 (.ref 1452),de P "case_body" 2578 (.ref 1459),de P "attempt" 2590 (.ref 1466),de P "__static_attributes__" 2591 (.ref 1467),de P "__doc__" 2592 .none] 2,#[]⟩,⟨.type "type",none,.cls ⟨"StmtParser",[.ref 1386],[.ref 1469,.ref 1386,.ref 1332,.ref 1231,.ref 1085,.type "object"],1468,"StmtParser",true,[],[],false,none,false⟩,#[some (.ref 1390),none,some (.str "StmtParser" 2474),some (.str "StmtParser" 2482),some (.builtin "object.__new__"),some (.bool true)]⟩,⟨.type "super",none,.fields #[.ref 1469,.ref 1469,.ref 1469],#[]⟩,⟨.type "builtin_function_or_method",none,.fields #[.builtin "object.__init_subclass__",.ref 1469],#[]⟩]++(gf 154 1472 Rm 2597 ["text","reader","body"] 1402 1 181 []++([tp [.str "({}) + " 2608,.str ";" 2609,.int (2) 2610],tp [.str "({}).a = " 2611,.str ";" 2612,.int (3) 2613],tp [.str "(function () {}).call(this, " 2614,.str ");" 2615,.int (3) 2616],tp [.str "({})[" 2617,.str "];" 2618,.int (3) 2619],tp [.str "({}), " 2620,.str ";" 2621,.int (2) 2622],tp [.str "(function () {}) ? " 2623,.str " : 0;" 2624,.int (3) 2625],tp [.str "({}).a(1)(" 2626,.str ");" 2627,.int (3) 2628],tp [.str "(function f() {})() || " 2629,.str ";" 2630,.int (2) 2631],tp [.str "({}).a++, " 2632,.str ";" 2633,.int (2) 2634],tp (wv [-1479,-1480,-1481,-1482,-1483,-1484,-1485,-1486,-1487]),tp [.str "0" 2636,.int (0) 2637],tp [.str "function () {\"use\\x20strict\";}" 2638,.int (3) 2639],tp [.str "function () {(\"use strict\"); \"use strict\";}" 2640,.int (4) 2641],tp [.str "function g() {({}) + 1;}" 2642,.int (4) 2643],tp [.str "new (f().a)(1)" 2644,.int (2) 2645],tp [.str "new (new (f().a)().b)()" 2646,.int (4) 2647],tp [.str "function () {(function () {}).a;}" 2648,.int (5) 2649],tp [.str "new (f())[[0]]()" 2650,.int (3) 2651],tp (wv [-1489,-1490,-1491,-1492,-1493,-1494,-1495,-1496]),tp (vs 2653 ["\"use\\x20strict\";","(\"use strict\");","\"use strict\";","\"a\";","a;"])]++(gf 159 1499 DN 2659 ["pen","many"] 1410 2 181 []++(gf 160 1506 DN 2667 ["text"] 1415 1 181 []++(gf 161 1513 DN 2674 ["rows","row"] 1420 1 181 []++(gf 162 1520 DN 2682 [] 1427 1 181 []))))))))))))))))))))
noncomputable def nJ (P:Params):List Obj:=Qv P++(Q5 P++(RS P++(QN P)))
noncomputable def JO (l:List Obj):BT:=(l.foldl (fun (x:BT × Nat) o=>(x.1.ins x.2 o,x.2 + 1)) (BT.nil,0)).1
noncomputable def SF (P:Params) (os:OsState):SharedT:=⟨JO (nJ P),1525,(boot_heap P).life,#[],boot_drawn,2688,os⟩
end Mine
end
section
namespace Mine
noncomputable def SA (P:Params) (os:OsState):Shared:=⟨⟨(nJ P).toArray,(boot_heap P).life⟩,#[],boot_drawn,2688,os⟩
theorem Jy (P:Params) (os:OsState):(staticsOk (importedModules pw.main.body) (boot_heap P) (SA P os).heap&&namesBound pw (SA P os).heap&&gensDone (SA P os)&&laidKept (boot_heap P) (SA P os).heap)=true:=by kernel_rfl
theorem Jg (P:Params) (os:OsState):openSeen qv v9 (importedModules pw.main.body) (fun _=>true) true (SA P os)=openGood qv v9:=by
 rw[PySem.W.Fast.te4187177175401517315]
 kernel_rfl
end Mine
end
section
namespace Mine
noncomputable def tC:Nat→List Obj→List Addr→Frag
 | _,[],_=>[]
 | _,_::_,[]=>[]
 | i,o::os,a::as=>match Nat.beq a i with
  | true=>(a,o)::tC (i + 1) os as
  | false=>tC (i + 1) os (a::as)
noncomputable def MJ:List Addr:=[0,1,2,3,27,28,30,31,41,42,46,47,53,54,60,61,62,63,64,65,66,67,68,69,70,71,72,73,74,75,76,77,78,79,80,81,82,83,84,85,86,87,88,89,90,91,92,93,94,95,96,97,98,99,100,101,102,103,109,110,116,117,123,124,130,131,137,138,144,145,151,152,158,159,165,166,172,173,179,180,186,187,193,194,200,201,207,208,214,215,221,222,228,229,235,236,242,243,249,250,256,257,263,264,270,271,277,278,284,285,291,292,298,299,305,306,312,313,319,320,321,322,328,334,335,341,342,346,347,353,354,360,361,367,368,369,370,371,372,373,374,375,381,382,386,387,391,392,398,399,403,404,410,411,417,418,424,425,429,430,436,437,443,444,448,449,455,456,460,461,467,468,474,475,481,482,488,489,495,496,502,503,507,508,512,513,519,520,526,527,528,534,535,541,542,548,549,555,556,562,563,569,570,576,577,583,584,585,586,640,658,659,661,662,672,673,679,680,693,694,696,697,713,714,720,721,727,728,734,735,741,742,748,749,755,756,762,763,769,770,776,777,783,784,790,791,797,798,804,805,811,812,818,819,825,826,832,833,839,840,842,843,848,849,850,856,857,863,864,870,871,877,878,884,885,891,892,898,899,905,906,912,913,926,927,931,932,936,937,941,942,944,945,962,963,969,970,976,977,983,984,990,991,997,998,1004,1005,1011,1012,1018,1019,1025,1026,1032,1033,1039,1040,1046,1047,1053,1054,1060,1061,1067,1068,1074,1075,1081,1082,1084,1085,1090,1092,1093,1094,1095,1108,1109,1115,1116,1122,1123,1129,1130,1136,1137,1143,1144,1150,1151,1157,1158,1164,1165,1171,1172,1178,1179,1185,1186,1192,1193,1199,1200,1206,1207,1213,1214,1220,1221,1227,1228,1230,1231,1244,1245,1251,1252,1258,1259,1265,1266,1272,1273,1279,1280,1286,1287,1293,1294,1300,1301,1307,1308,1314,1315,1321,1322,1328,1329,1331,1332,1347,1348,1354,1355,1361,1362,1368,1369,1375,1376,1382,1383,1385,1386,1389,1402,1403,1409,1410,1416,1417,1423,1424,1430,1431,1437,1438,1444,1445,1451,1452,1458,1459,1465,1466,1468,1469,1477,1478,1479,1480,1481,1482,1483,1484,1485,1486,1487,1488,1489,1490,1491,1492,1493,1494,1495,1496,1497,1498,1504,1505,1511,1512,1518,1519,1523,1524]
noncomputable def KF (P:Params):Frag:=tC 0 (nJ P) MJ
theorem Mf (P:Params):Dy (KF P) TT=some ():=by kernel_rfl
theorem NG (P:Params):BV (KF P) TT=some ():=by kernel_rfl
theorem MF (P:Params):(keepIn (KF P) (.ref TT.fail),ktsIn (KF P) TT.fail "BaseException",nsIn (KF P) mainGlobals "law")=(true,true,some (some (.ref 1524))):=by kernel_rfl
theorem MX (P:Params):AX (KF P) TT=B6 TT:=by kernel_rfl
theorem Nh (P:Params):((mQ (KF P) TT.glob).isSome,(mQ (KF P) TT.glob).map (fun l=>l.map (·.1)))=(true,(mQ (KF P) TT.glob).map (fun l=>l.map (fun p=>PyData.keyHash P p.2))):=by kernel_rfl
end Mine
end
section
namespace Mine
noncomputable def w2 (w:World) (b c:Bool):World:=(w.withFollow "comprehension-iter-twice" b).withFollow "special-get-raises" c
end Mine
end
section
namespace Mine
structure iT where
 i:Nat
 n:Nat
 m:Nat
 f:Nat
 t:Nat
 v:Value
 p:Pos
 b:Bool
 c:Bool
noncomputable def oM (m:Nat) (v:Value):Obj→Obj
 | ⟨c,d,.dict ⟨e::l⟩ _,S⟩=>⟨c,d,.dict ⟨{ e with val:=v }::l.take (m - 1)⟩ m,S⟩
 | o=>o
noncomputable def oF (f:Nat):Obj→Obj
 | ⟨c,d,.fields ⟨l⟩,S⟩=>⟨c,d,.fields ⟨l.take f⟩,S⟩
 | o=>o
noncomputable def oS:Obj→Obj
 | ⟨c,d,.cls q,S⟩=>⟨c,d,.cls { q with subclasses:=[] },S⟩
 | o=>o
noncomputable def SK (x:iT) (P:Params) (os:OsState):SharedT :=
 let l:=(((nJ P).take x.n).modify 3 (oM x.m x.v)).modify 12 (oF x.f)
 let l:=bif x.b then l.modify 2 (fun _=>⟨.none,none,.dict #[] 0,#[]⟩) else l
 ⟨JO (bif x.c then l.modify 1085 oS else l),x.n,(boot_heap P).life,#[],boot_drawn,x.t,os⟩
noncomputable def BB:List Stmt:=behindTheImports pw
noncomputable def EN:Env:={ scope:=pw.main.scope,locals:=mainNs,globals:=mainNs,cells:=[],code:=.ref 13,frame:=some 14 }
abbrev tF:List Frame:=[topFrame ⟨0,0,0,0⟩]
noncomputable def Sg (x y:iT) (w:World):Prop:=∀ os,segRunT treeTable pw w 11 (some (.ref 6)) 1 5000 (SK x w.params os) (piecesOf ((BB.drop x.i).take (y.i - x.i)) EN (.body BB EN) x.p tF)=some (.next,SK y w.params os,.body BB EN,y.p)
noncomputable def k0:iT:=⟨0,15,9,0,187,(.str "__main__" 164),⟨0,0,0,0⟩,true,false⟩
noncomputable def k1:iT:=⟨47,265,52,84,585,m3,⟨157,0,161,82⟩,true,false⟩
noncomputable def k2:iT:=⟨97,528,104,198,1063,m5,⟨445,0,446,56⟩,true,false⟩
noncomputable def k3:iT:=⟨99,528,105,198,1066,m6,⟨448,0,448,8⟩,true,false⟩
noncomputable def k4:iT:=⟨100,529,106,198,1085,m6,⟨449,0,449,6⟩,true,false⟩
noncomputable def k5:iT:=⟨113,587,117,222,1259,m8,⟨516,0,516,6⟩,true,false⟩
noncomputable def k6:iT:=⟨114,646,118,222,1359,m8,⟨517,0,517,11⟩,true,false⟩
noncomputable def k7:iT:=⟨126,858,127,240,1680,lO,⟨753,0,756,15⟩,false,false⟩
noncomputable def k8:iT:=⟨138,950,138,267,1808,iN,⟨821,0,821,11⟩,false,false⟩
noncomputable def k9:iT:=⟨140,1090,139,270,1973,gH,⟨910,0,910,8⟩,false,true⟩
noncomputable def wY:iT:=⟨141,1092,140,270,2043,gH,⟨911,0,911,8⟩,false,true⟩
noncomputable def GH:iT:=⟨145,1096,144,270,2068,gH,⟨915,0,915,5⟩,false,true⟩
noncomputable def Gj:iT:=⟨153,1472,149,282,2595,oX,⟨1283,0,1400,61⟩,false,false⟩
noncomputable def kE:iT:=⟨163,1525,157,297,2688,DN,⟨1427,0,1440,127⟩,false,false⟩
theorem g0 (w:World):Sg k0 k1 w:=by
 unfold Sg piecesOf
 intro os
 rw[PySem.W.Fast.te10110043849684766642,PySem.W.Fast.te14364793385576792824,PySem.W.Fast.te12563942051412417395]
 kernel_rfl
theorem QK (w:World):Sg k1 k2 (w.withFollow "special-get-raises" false):=by
 unfold Sg piecesOf
 intro os
 rw[PySem.W.Fast.te10110043849684766642,PySem.W.Fast.te14364793385576792824,PySem.W.Fast.te12563942051412417395]
 kernel_rfl
theorem Qh (w:World):Sg k1 k2 (w.withFollow "special-get-raises" true):=by
 unfold Sg piecesOf
 intro os
 rw[PySem.W.Fast.te10110043849684766642,PySem.W.Fast.te14364793385576792824,PySem.W.Fast.te12563942051412417395]
 kernel_rfl
theorem g1 (w:World):Sg k1 k2 w:=byRow2 "special-get-raises" (P:=Sg k1 k2) QK Qh w
theorem g2 (w:World):Sg k2 k3 w:=by
 unfold Sg piecesOf
 intro os
 rw[PySem.W.Fast.te10110043849684766642,PySem.W.Fast.te14364793385576792824,PySem.W.Fast.te12563942051412417395]
 kernel_rfl
theorem Ri (w:World):Sg k3 k4 (w.withFollow "special-get-raises" false):=by
 unfold Sg piecesOf
 intro os
 rw[PySem.W.Fast.te10110043849684766642,PySem.W.Fast.te14364793385576792824,PySem.W.Fast.te12563942051412417395]
 kernel_rfl
theorem RQ (w:World):Sg k3 k4 (w.withFollow "special-get-raises" true):=by
 unfold Sg piecesOf
 intro os
 rw[PySem.W.Fast.te10110043849684766642,PySem.W.Fast.te14364793385576792824,PySem.W.Fast.te12563942051412417395]
 kernel_rfl
theorem g3 (w:World):Sg k3 k4 w:=byRow2 "special-get-raises" (P:=Sg k3 k4) Ri RQ w
theorem g4 (w:World):Sg k4 k5 w:=by
 unfold Sg piecesOf
 intro os
 rw[PySem.W.Fast.te10110043849684766642,PySem.W.Fast.te14364793385576792824,PySem.W.Fast.te12563942051412417395]
 kernel_rfl
theorem PH (w:World):Sg k5 k6 ((w.withFollow "special-get-raises" false).withFollow "comprehension-iter-twice" false):=by
 unfold Sg piecesOf
 intro os
 rw[PySem.W.Fast.te10110043849684766642,PySem.W.Fast.te14364793385576792824,PySem.W.Fast.te12563942051412417395]
 kernel_rfl
theorem Op (w:World):Sg k5 k6 ((w.withFollow "special-get-raises" false).withFollow "comprehension-iter-twice" true):=by
 unfold Sg piecesOf
 intro os
 rw[PySem.W.Fast.te10110043849684766642,PySem.W.Fast.te14364793385576792824,PySem.W.Fast.te12563942051412417395]
 kernel_rfl
theorem Pw (w:World):Sg k5 k6 ((w.withFollow "special-get-raises" true).withFollow "comprehension-iter-twice" false):=by
 unfold Sg piecesOf
 intro os
 rw[PySem.W.Fast.te10110043849684766642,PySem.W.Fast.te14364793385576792824,PySem.W.Fast.te12563942051412417395]
 kernel_rfl
theorem QA (w:World):Sg k5 k6 ((w.withFollow "special-get-raises" true).withFollow "comprehension-iter-twice" true):=by
 unfold Sg piecesOf
 intro os
 rw[PySem.W.Fast.te10110043849684766642,PySem.W.Fast.te14364793385576792824,PySem.W.Fast.te12563942051412417395]
 kernel_rfl
theorem g5 (w:World):Sg k5 k6 w:=byRow2 "comprehension-iter-twice" (P:=Sg k5 k6) (byRow2 "special-get-raises" (P:=fun w=>Sg k5 k6 (w.withFollow "comprehension-iter-twice" false)) PH Pw) (byRow2 "special-get-raises" (P:=fun w=>Sg k5 k6 (w.withFollow "comprehension-iter-twice" true)) Op QA) w
theorem g6 (w:World):Sg k6 k7 w:=by
 unfold Sg piecesOf
 intro os
 rw[PySem.W.Fast.te10110043849684766642,PySem.W.Fast.te14364793385576792824,PySem.W.Fast.te12563942051412417395]
 kernel_rfl
theorem g7 (w:World):Sg k7 k8 w:=by
 unfold Sg piecesOf
 intro os
 rw[PySem.W.Fast.te10110043849684766642,PySem.W.Fast.te14364793385576792824,PySem.W.Fast.te12563942051412417395]
 kernel_rfl
theorem g8 (w:World):Sg k8 k9 w:=by
 unfold Sg piecesOf
 intro os
 rw[PySem.W.Fast.te10110043849684766642,PySem.W.Fast.te14364793385576792824,PySem.W.Fast.te12563942051412417395]
 kernel_rfl
theorem Qk (w:World):Sg k9 wY (w.withFollow "special-get-raises" false):=by
 unfold Sg piecesOf
 intro os
 rw[PySem.W.Fast.te10110043849684766642,PySem.W.Fast.te14364793385576792824,PySem.W.Fast.te12563942051412417395]
 kernel_rfl
theorem RF (w:World):Sg k9 wY (w.withFollow "special-get-raises" true):=by
 unfold Sg piecesOf
 intro os
 rw[PySem.W.Fast.te10110043849684766642,PySem.W.Fast.te14364793385576792824,PySem.W.Fast.te12563942051412417395]
 kernel_rfl
theorem g9 (w:World):Sg k9 wY w:=byRow2 "special-get-raises" (P:=Sg k9 wY) Qk RF w
theorem Oh (w:World):Sg wY GH w:=by
 unfold Sg piecesOf
 intro os
 rw[PySem.W.Fast.te10110043849684766642,PySem.W.Fast.te14364793385576792824,PySem.W.Fast.te12563942051412417395]
 kernel_rfl
theorem Oe (w:World):Sg GH Gj w:=by
 unfold Sg piecesOf
 intro os
 rw[PySem.W.Fast.te10110043849684766642,PySem.W.Fast.te14364793385576792824,PySem.W.Fast.te12563942051412417395]
 kernel_rfl
theorem O9 (w:World):Sg Gj kE w:=by
 unfold Sg piecesOf
 intro os
 rw[PySem.W.Fast.te10110043849684766642,PySem.W.Fast.te14364793385576792824,PySem.W.Fast.te12563942051412417395]
 kernel_rfl
end Mine
end
section
namespace Mine
theorem PF:(sreFenced pw.main&&((moduleNames pw.main.body).isEmpty||lookedIntoSs (moduleNames pw.main.body) pw.main.body))=true:=by kernel_rfl
end Mine
end
section
namespace Mine
abbrev qA (f:Scope→Str→Bool):TablesWhole.Alg Bool:=⟨fun sc n _=>f sc n,fun _ _ _ _=>true,fun _=>true,true,false,fun a b=>a&&b⟩
theorem Ge {f:Scope→Str→Bool} (h:dR (qA f) 0 138) (h':dR (qA f) 138 30) (e:(pw.main.body.drop (0 + 138 + 30)).isEmpty=true):TablesWhole.wModule (qA f) pw.main=true :=
 GQ rfl rfl (fun _=>rfl) (fun _ _ _=>rfl) (kA rfl h (kA rfl h' (DL rfl e)))
theorem wW:(pw.main.body.drop (0 + 138 + 30)).isEmpty=true:=by kernel_rfl
theorem ME:dR (qA fun _ n=>attrL n) 0 138:=by unfold dR;rw[PySem.W.Fast.te16421684217811934046];kernel_rfl
theorem Lx:dR (qA fun _ n=>attrL n) 138 30:=by unfold dR;rw[PySem.W.Fast.te16421684217811934046];kernel_rfl
theorem I8 {f:Scope→Str→Bool} (h:TablesWhole.wModule (qA f) pw.main=true):namesMeet pw pw.main.body f=true:=h
theorem P9:namesMeet pw pw.main.body (fun _ n=>attrL n)=true:=I8 (Ge ME Lx wW)
end Mine
end
section
namespace Mine
noncomputable def O1 (sc:Scope) (n:Str):Bool:=match sc.names.lookup n with
  | some .globalImplicit | some .globalExplicit=>pw.boundNames.contains n||n == ("__name__" : Str)||n == ("__debug__" : Str)||(builtinNamed n&&!worldNames.contains n&&!n.opensWith "__")
  | _=>true
theorem Na:dR (qA O1) 0 138:=by unfold dR;rw[PySem.W.Fast.te16421684217811934046];kernel_rfl
theorem NH:dR (qA O1) 138 30:=by unfold dR;rw[PySem.W.Fast.te16421684217811934046];kernel_rfl
theorem PD:namesResolve pw=true:=Ge Na NH wW
end Mine
end
section
namespace Mine
theorem Pf:pw.boundNames.all (fun n=>!worldNames.contains n)=true:=by kernel_rfl
end Mine
end
section
namespace Mine
theorem Py:readsOut pw pw.main.body "vars" = false:=by rw[PySem.W.Fast.te13343964577679436407];kernel_rfl
theorem PX:readsOut pw pw.main.body "dir" = false:=by rw[PySem.W.Fast.te13343964577679436407];kernel_rfl
theorem PE:readsOut pw pw.main.body "locals" = false:=by rw[PySem.W.Fast.te13343964577679436407];kernel_rfl
theorem NL:(["vars","dir","locals"]:List Str).filter (readsOut pw pw.main.body)=[]:=by
 rw[List.filter_cons_of_neg (by rw[Py];exact nofun),List.filter_cons_of_neg (by rw[PX];exact nofun),List.filter_cons_of_neg (by rw[PE];exact nofun),List.filter_nil]
theorem Nf:(!(importedModules pw.main.body).all cThrough.contains)=false:=by kernel_rfl
theorem Pm:noRoadLSs { strict:=!(importedModules pw.main.body).all cThrough.contains,foot:=none,bare:=(["vars","dir","locals"]:List Str).filter (readsOut pw pw.main.body) } pw.main.body=true:=by rw[NL,Nf,PySem.W.Fast.te8326940854005059898];kernel_rfl
end Mine
end
section
namespace Mine
theorem JD:noRoadLSs { strict:=true,foot:=some lw.bound',writes:=lw.writes,may:=lw.may } lw.footing=true:=by rw[PySem.W.Fast.te8326940854005059898];kernel_rfl
end Mine
end
section
namespace Mine
theorem EG:namesMeet lw.prog lw.footing (fun sc n=>(!(["type","isinstance","issubclass","getattr","hasattr"]:List Str).contains n||sc.names.lookup n == some .globalImplicit)&&(lw.may != some n||sc.kind == .module||sc.names.lookup n == some .globalImplicit))=true:=by rw[PySem.W.Fast.te17119622794617984870];kernel_rfl
end Mine
end
section
namespace Mine
theorem Dx:namesMeet lw.prog lw.above (fun _ n=>!lw.own.contains n)=true:=by rw[PySem.W.Fast.te17119622794617984870];kernel_rfl
end Mine
end
section
namespace Mine
theorem FK:namesMeet lw.prog lw.footing (fun sc n=>sc.kind == .module||sc.names.lookup n != some .globalExplicit)=true:=by rw[PySem.W.Fast.te17119622794617984870];kernel_rfl
end Mine
end
section
namespace Mine
noncomputable def jA:List WData→Option (List Int)
 | []=>some []
 | .int i::r=>match jA r with
  | some l=>some (i::l)
  | none=>none
 | _::_=>none
theorem Lr {R:WRecords}{d:WData} (h:WShape.has R d .int=true):∃ i,d=.int i:=by
 cases d with
 | int i=>exact⟨i,rfl⟩
 | _=>exact nk6 h
theorem AR {R:WRecords}:∀ {xs:List WData},WShape.hasItems R xs .int=true→∃ l,jA xs=some l
 | [],_=>⟨[],rfl⟩
 | d::r,h=>by
  unfold WShape.hasItems at h
  obtain⟨h1,h2⟩:=Bool.and_eq_true_iff.1 h
  obtain⟨l,e⟩:=AR h2
  obtain⟨i,rfl⟩:=Lr h1
  exact⟨i::l,by show(match jA r with | some l=>some (i::l) | none=>none)=_;rw[e]⟩
theorem D5 {xs:List WData}:∀ {l:List Int},jA xs=some l→l.length=xs.length:=by
 induction xs with
 | nil=>intro l e;cases e;rfl
 | cons d r ih =>
  intro l e
  cases d with
  | int i =>
   replace e:(match jA r with | some l=>some (i::l) | none=>none)=some l:=e
   cases e2:jA r with
   | none=>rw[e2]at e;exact nk3 e
   | some l'=>rw[e2]at e;cases e;exact congrArg (· + 1) (ih e2)
  | _=>exact nk3 e
theorem IB {w:World}{B:PM}{P:Params}{h:Heap}{xs:List WData}:∀ {vs:List Value}{l:List Int},WellAll P h vs xs→jA xs=some l→aQ w B vs (l.map .int):=by
 induction xs with
 | nil=>intro vs l hw e;cases hw;cases e;exact .nil
 | cons d r ih =>
  intro vs l hw e
  cases d with
  | int i =>
   replace e:(match jA r with | some l=>some (i::l) | none=>none)=some l:=e
   cases e2:jA r with
   | none=>rw[e2]at e;exact nk3 e
   | some l' =>
    rw[e2]at e;cases e
    cases hw with
    | cons h1 h2=>cases h1;exact .cons (.int _ _) (ih h2 e2)
  | _=>exact nk3 e
theorem EZ {args:List WData} (h:lw.row.toRowW.claim.pre args=true):∃ xs l,args=[.list xs]∧jA xs=some l∧l.length ≤ 63:=by
 have h:(WShape.hasAll [] args [.list .int]&&lw.row.pre.holds [] { args:=args })=true:=h
 obtain⟨h1,h2⟩:=Bool.and_eq_true_iff.1 h
 match args,h1,h2 with
 | [],h1,_=>exact nk6 h1
 | _::_::_,h1,_=>exact nk6 ((Bool.and_false _).symm.trans h1)
 | [d],h1,h2 =>
  have h1:WShape.has [] d (.list .int)=true:=(Bool.and_eq_true_iff.1 h1).1
  have:∃ xs,d=.list xs:=by
   cases d with
   | list xs=>exact⟨xs,rfl⟩
   | _=>exact nk6 h1
  obtain⟨xs,rfl⟩:=this
  have h3:WShape.hasItems [] xs .int=true:=(Bool.or_false _).symm.trans h1
  obtain⟨l,e⟩:=AR h3
  refine⟨xs,l,rfl,e,?_⟩
  rw[D5 e]
  have h2:WTm.holds [] (.and (.not (.lt (.lit (.int 63)) (.len (.arg 0)))) (.lit (.bool true))) { args:=[.list xs] }=true:=h2
  by_cases hx:xs.length ≤ 63
  ·exact hx
  ·exfalso
   have:(63:Int) < xs.length:=by omega
   have e1:PySem.W.less? (.int 63) (.int xs.length)=some true:=by
    show some (decide ((63:Int) < (xs.length:Int)))=_
    rw[decide_eq_true this]
   revert h2
   simp[WTm.holds,WTm.value,e1]
end Mine
end
section
namespace Mine
noncomputable def Gs (w:World) (h:Heap):Prop:=∃ K:Frag,K.In h∧iY w K TT∧nsIn K mainGlobals "law" = some (some (.ref 1524))
theorem DI (w:World) (h h':Heap) (y:Gs w h) (k:∀ b o,h.get? b=some o→h'.get? b=some o):Gs w h':=by
 obtain⟨K,a,b,c⟩:=y
 exact⟨K,a.keeps k,b,c⟩
theorem IE:dd.1.name = "law" := defOf_name Ky
noncomputable def Px (l:List Int):FI × List (Str × PV) × List (Str × PV):=(wH 1524,[(Str.ofString "script",.f (.lst (l.map .int)))],[])
theorem Kr (l:List Int):i0 TT 1524 ([FV.lst (l.map .int)].map .f) []=some (Px l):=by kernel_rfl
theorem Hv {l:List Int} (h:l.length ≤ 63):cG TT (run TT 5000 219) 5000 1524 ([FV.lst (l.map .int)].map .f) []=.ok (.f (.bool true),[]):=Df l h 0
theorem Ft:WalkO qv v9 (fun _ _=>True) Gs lw.row.toRowW dd.1 dd.2 (fun f vs=>PySem.call f vs):=by
 intro w s₀ s₁ mg mb G Y a o pm cd doc dV kV h1 h2 h3 h4 hmg hg args vals as hpre hlay hrd hwl hlo
 obtain⟨K,KI,Bs,hK⟩:=Y
 obtain⟨xs,l,rfl,hi,hlen⟩:=EZ hpre
 have ha:mg "law" = some (.ref 1524):=mg_of KI G.T.g hK
 rw[IE]at hmg
 have ea:a=1524:=by
  have:=hmg.symm.trans ha
  injection this with this
  injection this
 subst ea
 cases hwl with
 | cons hw hn =>
  cases hn
  cases hw with
  | @list b vs _ hget hws =>
   let B:PM:=fun x=>if x=b then some { cls:=.type "list",data:=.seq vs.toArray } else K.lookup x
   have hB:∀ x o,B x=some o→s₁.heap.get? x=some o:=fun x o e=>by
    by_cases hx:x=b
    ·subst hx
     have e:some _=some o:=(if_pos rfl).symm.trans e
     rw[hget];exact e
    ·exact KI x o ((if_neg hx).symm.trans e)
   have hKB:∀ x o,K.lookup x=some o→B x=some o:=fun x o e=>by
    by_cases hx:x=b
    ·subst hx
     have:=KI _ _ e
     rw[hget]at this
     exact(if_pos rfl).trans this
    ·exact(if_neg hx).trans e
   have ps:aQ w B [.ref b] [.lst (l.map .int)]:=.cons (.lst (n:=0) (if_pos rfl) (IB hws hi)) .nil
   refine CN Bs (n:=219) (m:=5000) (A:=callerA) rfl rfl (by decide +kernel) (by decide +kernel) hB hKB ps (Kr l) (by kernel_rfl) (by kernel_rfl) (Hv hlen) (fun s' hs hgr=>?_)
   refine GoodW.toG ⟨.inl ⟨.bool true,.bool true,[],rfl,fun cls=>rfl,.bool true,?_,fun _=>⟨.nil,fun a h=>nomatch h⟩⟩,hgr,hs.2,hs.1.trans hg⟩
   show(WShape.has [] (.bool true) .bool&&WTm.holds [] (.eq .res (.lit (.bool true))) { args:=[.list xs],res:=some (.bool true),after:=[.list xs] })=true
   simp[WShape.has,WShape.arms,WTm.holds,WTm.value,same]
end Mine
end
section
namespace Mine
theorem Ec (w:World):(importEnds treeTable (opening pw) w 65030 (start (opening pw)).1 (start (opening pw)).2).map (fun s=>(s.heap,s.gens,s.drawn,s.toks))=some (boot_heap w.params,#[],boot_drawn,boot_toks):=by
 rw[PySem.W.Fast.te10274390034422433532,PySem.W.Fast.te14364793385576792824,PySem.W.Fast.te1435165496053646825]
 kernel_rfl
noncomputable def Tp (x:iT) (w:World) (os:OsState) (N:Nat):Prop:=topRun treeTable pw w 11 (some (.ref 6)) N (SK x w.params os).abs (restOf (BB.drop x.i) EN (.body BB EN) x.p tF)=some (SA w.params os)
theorem eU {x y:iT}{w:World}{N:Nat}{os:OsState} (h:Sg x y w) (hi:x.i ≤ y.i) (k:Tp y w os N):Tp x w os (5000 + N):=by
 have k:=piece_app (segRun_of (h os)) k
 have e:=List.take_append_drop (y.i - x.i) (BB.drop x.i)
 rw[List.drop_drop,Nat.add_sub_cancel' hi]at e
 rwa [e]at k
theorem LK (P:Params) (os:OsState):(SK kE P os).abs=SA P os:=by kernel_rfl
theorem Lb (w:World) (os:OsState):Tp kE w os 9:=by
 unfold Tp
 rw[show BB.drop kE.i=[] by kernel_rfl,LK]
 exact piece_nil (by kernel_rfl)
theorem Jq (w:World) (os:OsState):segRunT treeTable pw w 11 (some (.ref 6)) 1 9 (SK k0 w.params os) (blockOf BB EN (.body BB EN) ⟨0,0,0,0⟩ tF)=some (.next,SK k0 w.params os,.body BB EN,⟨0,0,0,0⟩):=by
 rw[PySem.W.Fast.te10110043849684766642,PySem.W.Fast.te14364793385576792824]
 kernel_rfl
theorem Lk (w:World) (os:OsState):topGo treeTable pw w 11 (some (.ref 6)) 12 ⟨boot_heap w.params,#[],boot_drawn,boot_toks,os⟩ (topStub pw)=some ((SK k0 w.params os).abs,⟨denote treeTable (.body BB EN),.body BB EN,⟨0,0,0,0⟩,tF⟩):=by
 rw[PySem.W.Fast.te15667345088766844465,PySem.W.Fast.te14364793385576792824,PySem.W.Fast.te11892475500146522536]
 kernel_rfl
theorem KN (w:World) (os:OsState):topRun treeTable pw w 11 (some (Value.ref 6)) 65030 ⟨boot_heap w.params,#[],boot_drawn,boot_toks,os⟩ (topStub pw)=some (SA w.params os):=by
 have h:=eU (g0 w) (by decide) (eU (g1 w) (by decide) (eU (g2 w) (by decide) (eU (g3 w) (by decide) (eU (g4 w) (by decide) (eU (g5 w) (by decide) (eU (g6 w) (by decide) (eU (g7 w) (by decide) (eU (g8 w) (by decide) (eU (g9 w) (by decide) (eU (Oh w) (by decide) (eU (Oe w) (by decide) (eU (O9 w) (by decide) (Lb w os)))))))))))))
 unfold Tp at h
 rw[show BB.drop k0.i=BB from List.drop_zero]at h
 exact go_top (Lk w os) (piece_block (segRun_of (Jq w os)) h)
theorem B3 {tb:String→Option Builtin}{p:Program}{w:World}{N n:Nat}{s s':Shared}{ann:Option Value} (z:(s.heap.isNs mainGlobals&&s.gens.size == 0,s.heap.objs.size,s.heap.nsMap mainGlobals "__annotations__")=(true,n,ann))
  (h:topRun tb p w n ann N s (topStub p)=some s') (l:(staticsOk (importedModules p.main.body) s.heap s'.heap&&namesBound p s'.heap&&gensDone s'&&laidKept s.heap s'.heap)=true):topFrom tb p w N s=some s':=by
 simp only[Prod.mk.injEq]at z
 obtain⟨z1,rfl,rfl⟩:=z
 unfold topFrom
 rw[z1]
 simp only[h,Option.bind_some,l]
theorem Ov (w:World) (os:OsState):topFrom treeTable pw w 65030 ⟨boot_heap w.params,#[],boot_drawn,boot_toks,os⟩=some (SA w.params os):=B3 (IH w.params) (KN w os) (Jy w.params os)
theorem JH:LeftO pw qv v9 (fun _=>true) (fun s=>s.heap) (fun w=>(⟨(nJ w.params).toArray,(boot_heap w.params).life⟩:Heap)) 65030:=fun w=>by
 obtain⟨⟨h,gs,d,k,os⟩,e,e'⟩:=Option.map_eq_some_iff.mp (Ec w)
 obtain⟨rfl,rfl,rfl,rfl⟩:h=boot_heap w.params∧gs = #[]∧d=boot_drawn∧k=boot_toks:=by simpa using e'
 have f1:fencedOpening treeTable pw w 65030=some ⟨boot_heap w.params,#[],boot_drawn,boot_toks,os⟩:=by
  unfold fencedOpening
  rw[e,Option.bind_some]
  exact F5 _
 have f2:openEnds treeTable pw w 65030=some (SA w.params os):=by
  unfold openEnds
  rw[f1,Option.bind_some]
  exact Ov w os
 rw[f2]
 exact congrArg some (Prod.ext (Jg w.params os) rfl)
end Mine
end
section
namespace Mine
theorem Iz (P:Params):nsIn (KF P) mainGlobals "law" = some (some (.ref 1524)):=by kernel_rfl
theorem Hj (w:World):iY w (KF w.params) TT:=by
 obtain⟨h3,h⟩:=Prod.mk.inj (MF w.params)
 obtain⟨h4,_⟩:=Prod.mk.inj h
 obtain⟨hs,hc⟩:=Prod.mk.inj (Nh w.params)
 obtain⟨o,ho⟩:=Option.isSome_iff_exists.mp hs
 rw[ho]at hc
 have hc:o.map (·.1)=o.map (fun p=>PyData.keyHash w.params p.2):=Option.some.inj hc
 exact ES (Mf _) ho (fun p hp=>Ck hc hp) (MX w.params) (NG _) h3 h4
theorem rK:∀ (l:List Obj) (i:Nat) (as:List Nat) (a:Nat) (o:Obj),(tC i l as).lookup a=some o→i ≤ a∧l[a - i]? = some o
 | [],i,as,a,o,h=>by cases as<;>cases h
 | x::l,i,[],a,o,h=>by cases h
 | x::l,i,b::as,a,o,h=>by
  unfold tC at h
  cases e:Nat.beq b i with
  | true =>
   rw[e]at h
   have e':=Nat.eq_of_beq_eq_true e
   subst e'
   simp only[List.lookup]at h
   cases e2:a == b with
   | true =>
    rw[e2]at h
    have:a=b:=by simpa using e2
    subst this
    cases h
    exact⟨Nat.le_refl _,by simp⟩
   | false =>
    rw[e2]at h
    obtain⟨h1,h2⟩:=rK l _ as a o h
    refine⟨by omega,?_⟩
    have e3:a - b=(a - (b + 1)) + 1:=by have h1:b + 1 ≤ a:=h1;omega
    rw[e3]
    simpa using h2
  | false =>
   rw[e]at h
   obtain⟨h1,h2⟩:=rK l _ (b::as) a o h
   refine⟨by omega,?_⟩
   have e3:a - i=(a - (i + 1)) + 1:=by have h1:i + 1 ≤ a:=h1;omega
   rw[e3]
   simpa using h2
noncomputable def MW (o:Obj):Bool:=match o with
 | ⟨_,_,.freed,_⟩=>false
 | _=>true
theorem EW (P:Params):(KF P).all (fun p=>MW p.2)=true:=by kernel_rfl
theorem wX {a:Addr}{o:Obj}:∀ {l:Frag},l.lookup a=some o→(a,o) ∈ l
 | [],h=>by cases h
 | (b,x)::l,h=>by
  simp only[List.lookup]at h
  cases e:a == b with
  | true =>
   rw[e]at h
   have:a=b:=by simpa using e
   subst this
   cases h
   exact .head _
  | false=>rw[e]at h;exact .tail _ (wX h)
theorem Mi (P:Params) (life:Life):(KF P).In ⟨(nJ P).toArray,life⟩:=fun a o h=>by
 have h1:=(rK _ _ _ _ _ h).2
 have h2:=List.all_eq_true.mp (EW P) _ (wX h)
 unfold Heap.get?
 rw[show((⟨(nJ P).toArray,life⟩:Heap).objs[a]?)=(nJ P)[a - 0]? by simp]
 rw[h1]
 obtain⟨c,d,D,S⟩:=o
 cases D<;>first | rfl | (exact Bool.noConfusion (show false=true from h2))
theorem Fn:(chainsOk qv&&opensWell lw.row.prog&&(frees lw.row.toRowW&&lw.row.within.isEmpty))=true:=by
 have e:opensWell lw.row.prog=true:=by
  show((opening pw).tameTopW&&!bearImports (behindTheImports pw))=true
  rw[RW,Qt];rfl
 rw[Q1,e,Q7];rfl
end Mine
end
section
namespace Mine
theorem EL:looksOpen lw.row.prog=true:=by
 have a:=PF;have b:=PD;have c:=Pf;have d:=Pm;have e:=P9
 show(sreFenced pw.main&&((moduleNames pw.main.body).isEmpty||lookedIntoSs (moduleNames pw.main.body) pw.main.body) &&
 namesResolve pw&&pw.boundNames.all (fun n=>!worldNames.contains n)&&noRoadLSs { strict:=!(importedModules pw.main.body).all cThrough.contains,foot:=none,bare:=(["vars","dir","locals"]:List Str).filter (readsOut pw pw.main.body) } pw.main.body&&namesMeet pw pw.main.body fun _ n=>attrL n)=true
 rw[a,b,c,d,e];rfl
theorem yO:lw.row.wellSaid=true:=by
 unfold OpenRow.wellSaid OpenRow.partSaid
 exact b0 (b0 (b0 (b0 (b0 (b0 (b0 (b0 (b0 (b0 (b0 (b0 (b0 (b0 (b0 (EL) (by kernel_rfl)) (by kernel_rfl)) (by kernel_rfl)) (by kernel_rfl)) (by kernel_rfl)) (by kernel_rfl)) (by kernel_rfl)) (by kernel_rfl)) (by kernel_rfl)) (by kernel_rfl)) (by kernel_rfl)) (by kernel_rfl)) (by kernel_rfl)) (by kernel_rfl)) (by kernel_rfl)
theorem Oy:lw.wellSaid=true:=by
 unfold OpenLaw.wellSaid
 exact b0 (b0 (b0 (b0 (b0 (b0 (b0 (b0 (b0 (b0 (b0 (b0 (b0 (b0 (b0 (b0 (b0 (b0 (yO) (by kernel_rfl)) (by kernel_rfl)) (by kernel_rfl)) (by kernel_rfl)) (by kernel_rfl)) JD) (by kernel_rfl)) (by kernel_rfl)) (by kernel_rfl)) (by simp only[PySem.W.Fast.named_eq];kernel_rfl)) (by kernel_rfl)) (by kernel_rfl)) EG) (by kernel_rfl)) (by kernel_rfl)) (by simp only[PySem.W.Fast.named_eq];kernel_rfl)) Dx) FK
theorem II (s:Shared):RecFacts [] s.heap:=by
 unfold RecFacts
 refine⟨fun x h=>?_,fun x h=>?_,fun c c' a h=>?_,fun c fs h=>?_⟩
 ·cases h
 ·cases h
 ·cases h
 ·cases h
theorem cw:lw.Holds:=⟨Oy,holds_open (r:=lw.row) JH (YP:=Gs) (fun w s e=>by
  have e:s.heap=(⟨(nJ w.params).toArray,(boot_heap w.params).life⟩:Heap):=e
  rw[e]
  exact⟨KF w.params,Mi w.params _,Hj w,Iz w.params⟩) DI (XP:=fun _ _=>True) (fun _ _=>trivial) (fun _ _ _ h _=>h) Ky hp hk (fun s _=>II s) rfl yO Fn IZ Mk Ft⟩
end Mine
end
end
set_option maxRecDepth 100000 in
set_option maxHeartbeats 8000000 in
theorem PySem.Challenge.cw_rg0187_01_holds : PySem.Challenge.rw_rg0187_01.Holds := by
  exact Mine.cw
