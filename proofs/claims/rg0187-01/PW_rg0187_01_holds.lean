import PyProof.Rows.All
import Wide.All
import OpenK.AllK
import Open.Tops
import Wide.FinOn
import KE.KIsAll
import KE.KRevSl
import PyProof.ZipIter
import PyProof.ListNew
import Lean
import PySem.Challenge.RW_rg0187_01
open PySem PySem.W PySem.Calls PyProof.Rows
set_option Elab.async false
set_option maxRecDepth 100000
set_option linter.all false
set_option genSizeOf false
set_option genInjectivity false
set_option bootstrap.genMatcherCode false
noncomputable section
section
namespace Mine
abbrev pw:Program:=PySem.Challenge.pw_rg0187_01
inductive Ty where
 | none | bool | int | str | tuple | list | range | zip
noncomputable def Ty.id:Ty→String
 | .none => "NoneType" | .bool => "bool" | .int => "int" | .str => "str" | .tuple => "tuple" | .list => "list" | .range => "range" | .zip => "zip"
noncomputable def Ty.n:Ty→Nat
 | .none=>0 | .bool=>1 | .int=>2 | .str=>3 | .tuple=>4 | .list=>5 | .range=>6 | .zip=>7
inductive Bl where
 | len | ord | chr | isi | max | sum
noncomputable def Bl.id:Bl→String
 | .len => "len" | .ord => "ord" | .chr => "chr" | .isi => "isinstance" | .max => "max" | .sum => "sum"
inductive FV where
 | none | bool (b:Bool) | int (i:Int) | str (s:List Nat)
 | tup (vs:List FV) | lst (vs:List FV) | obj (C:Nat) (fs:List (Str × FV)) | dct (es:List (FV × FV))
 | top (a:Nat) | typ (n:Ty) | blt (n:Bl)
inductive PV where
 | f (x:FV) | ref (k:Nat) | loc (k:Nat)
inductive MO where
 | inst (C:Nat) (fs:List (Str × PV)) | lst (vs:List FV) | dead
inductive O (α:Type) where
 | stuck | raise | ok (a:α)
noncomputable def O.bind {α β:Type} (x:O α) (f:α→O β):O β:=@O.rec α (fun _=>O β) .stuck .raise f x
theorem nk1 {α:Type}{r:α}{P:Prop} (e:O.stuck=O.ok r):P:=by cases e
theorem nk2 {α:Type}{r:α}{P:Prop} (e:O.raise=O.ok r):P:=by cases e
theorem nk3 {α:Type u}{r:α}{P:Prop} (e:none=some r):P:=by cases e
theorem nk4 {α:Type u}{r:α}{P:Prop} (e:some r=none):P:=by cases e
theorem nk5 {P:Prop} (e:true=false):P:=by cases e
theorem nk6 {P:Prop} (e:false=true):P:=by cases e
theorem iG {α:Type u}{p:α→Prop}:∀ e ∈ ([]:List α),p e:=fun _ h=>absurd h List.not_mem_nil
theorem mO {α:Type}{a b:α} (e:O.ok a=O.ok b):a=b:=congrArg (fun x=>@O.rec α (fun _=>α) a a (fun y=>y) x) e
noncomputable def gd {β:Type} (b:Bool) (x:Option β):Option β:=@Bool.rec (fun _=>Option β) none x b
noncomputable def oe {α:Type}{γ:Type} (x:Option α) (s:α→γ) (n:γ):γ:=@Option.rec α (fun _=>γ) n s x
theorem ob {α β:Type}{x:Option α}{f:α→Option β}{r:β}{P:Prop} (h:x.bind f=some r) (k:∀ a,x=some a→f a=some r→P):P:=by
 cases x with
 | none=>exact nk3 h
 | some a=>exact k a rfl h
theorem aD {β:Type}{b:Bool}{x:Option β}{r:β}{P:Prop} (h:gd b x=some r) (k:b=true→x=some r→P):P:=by
 cases b with
 | false=>exact nk3 h
 | true=>exact k rfl h
theorem qM {α:Type}{γ:Type}{x:Option α}{s:α→γ}{n:γ}{P:γ→Prop} (k:∀ a,x=some a→P (s a)) (m:x=none→P n):P (oe x s n):=by
 cases x with
 | none=>exact m rfl
 | some a=>exact k a rfl
noncomputable def gE (x y:List Nat):Bool:=PySem.W.Fast.lEq x y
noncomputable def seq (a b:Str):Bool:=gE a.cps.toList b.cps.toList
noncomputable def lk {α:Type} (x:Str) (l:List (Str × α)):Option α:=@List.rec (Str × α) (fun _=>Option α) none (fun p _ ih=>@Bool.rec (fun _=>Option α) ih (some p.2) (seq x p.1)) l
noncomputable def put {α:Type} (x:Str) (v:α) (l:List (Str × α)):List (Str × α):=@List.rec (Str × α) (fun _=>List (Str × α)) [(x,v)] (fun p r ih=>@Bool.rec (fun _=>List (Str × α)) (p::ih) ((x,v)::r) (seq x p.1)) l
noncomputable def iS {α:Type} (a:Nat) (l:List (Nat × α)):Option α:=@List.rec (Nat × α) (fun _=>Option α) none (fun p _ ih=>@Bool.rec (fun _=>Option α) ih (some p.2) (Nat.beq a p.1)) l
noncomputable def nth {α:Type} (l:List α) (n:Nat):Option α:=@List.rec α (fun _=>Nat→Option α) (fun _=>none) (fun x _ ih n=>@Nat.rec (fun _=>Option α) (some x) (fun m _=>ih m) n) l n
noncomputable def e8 {α:Type} (l:List α) (n:Nat) (v:α):List α:=@List.rec α (fun _=>Nat→List α) (fun _=>[]) (fun x r ih n=>@Nat.rec (fun _=>List α) (v::r) (fun m _=>x::ih m) n) l n
noncomputable def dY (a:Nat) (l:List Nat):Bool:=@List.rec Nat (fun _=>Bool) false (fun b _ ih=>@Bool.rec (fun _=>Bool) ih true (Nat.beq a b)) l
noncomputable def BQ (a:Str) (l:List Str):Bool:=@List.rec Str (fun _=>Bool) false (fun b _ ih=>@Bool.rec (fun _=>Bool) ih true (seq a b)) l
noncomputable def one {α:Type} (l:List α):Option α:=@List.rec α (fun _=>Option α) none (fun x r _=>@List.rec α (fun _=>Option α) (some x) (fun _ _ _=>none) r) l
noncomputable def mX {α:Type} (l:List α):Option (α × α):=@List.rec α (fun _=>Option (α × α)) none (fun x r _=>(one r).bind fun y=>some (x,y)) l
structure St where
 g:List MO
 l:List MO
 v:List (Str × PV)
 c:List (Str × PV)
abbrev bW:=Nat→List PV→List MO→O (PV × List MO)
structure Cx where
 f:Nat
 sc:Scope
 m:Nat
noncomputable def eF {α:Type} (x:Option α):O α:=@Option.rec α (fun _=>O α) .stuck .ok x
noncomputable def iU {α:Type} (x:FV) (none_:α) (bool_:Bool→α) (int_:Int→α) (str_:List Nat→α) (tup_:List FV→α) (lst_:List FV→α) (obj_:Nat→List (Str × FV)→α) (dct_:List (FV × FV)→α) (top_:Nat→α) (typ_:Ty→α) (blt_:Bl→α):α:=@FV.casesOn (fun _=>α) x none_ bool_ int_ str_ tup_ lst_ obj_ dct_ top_ typ_ blt_
noncomputable def mY {α:Type} (e:Expr) (df:α) (bo:BoolOp→List Expr→α) (bi:Expr→Operator→Expr→α) (un:UnaryOp→Expr→α) (ie:Expr→Expr→Expr→α) (di:List (Option Expr)→List Expr→α) (se:α) (lc:Expr→List Comprehension→Scope→α) (sd:α) (cm:Expr→List CmpOp→List Expr→α) (cl:Expr→List Expr→List Keyword→Pos→α) (cn:Const→α) (at_:Expr→Str→Pos→α) (su:Expr→Expr→Pos→α) (sr:α) (nm:Str→α) (li:List Expr→Pos→α) (tu:List Expr→α) (sl:Option Expr→Option Expr→Option Expr→α):α:=@Expr.casesOn (fun _=>α) e (fun a b _=>bo a b) (fun _ _ _=>df) (fun a b c _=>bi a b c) (fun a b _=>un a b) (fun _ _ _ _=>df) (fun a b c _=>ie a b c) (fun a b _=>di a b) (fun _ _ _=>se) (fun a b c _=>lc a b c) (fun _ _ _ _=>sd) (fun _ _ _ _ _=>sd) (fun _ _ _ _=>df) (fun _ _=>df) (fun _ _=>df) (fun _ _=>df) (fun a b c _=>cm a b c) (fun a b c d=>cl a b c d) (fun _ _ _ _=>df) (fun _ _=>df) (fun a _ _=>cn a) (fun a b c=>at_ a b c) (fun a b c=>su a b c) (fun _ _=>sr) (fun a _=>nm a) (fun a b=>li a b) (fun a _ _=>tu a) (fun a b c _=>sl a b c)
noncomputable def s7 {α:Type} (e:Stmt) (df:α) (fd:Arguments→List Stmt→Scope→α) (cd:List Stmt→α) (re:Option Expr→α) (as_:List Expr→Expr→α) (au:Expr→Operator→Expr→α) (fo:Expr→Expr→List Stmt→List Stmt→α) (wh:Expr→List Stmt→List Stmt→α) (fi:Expr→List Stmt→List Stmt→α) (ra:Option Expr→Option Expr→α) (tr:List Stmt→List ExceptHandler→List Stmt→List Stmt→α) (ex:Expr→α) (br:α) (co:α):α:=@Stmt.casesOn (fun _=>α) e (fun _ a b _ _ _ c _ _ _=>fd a b c) (fun _ _ _ _ _ _ _ _ _ _=>df) (fun _ _ _ a _ _ _ _ _ _ _=>cd a) (fun a _=>re a) (fun _ _=>df) (fun a b _=>as_ a b) (fun _ _ _ _ _ _ _=>df) (fun a b c _=>au a b c) (fun _ _ _ _ _=>df) (fun a b c d _=>fo a b c d) (fun _ _ _ _ _=>df) (fun a b c _=>wh a b c) (fun a b c _=>fi a b c) (fun _ _ _=>df) (fun _ _ _=>df) (fun _ _ _=>df) (fun a b _=>ra a b) (fun a b c d _=>tr a b c d) (fun _ _ _ _ _=>df) (fun _ _ _=>df) (fun _ _=>df) (fun _ _ _ _=>df) (fun _ _=>df) (fun _ _=>df) (fun a _=>ex a) (fun _=>df) (fun _=>br) (fun _=>co)
structure bQ where
 glob:List (Str × FV)
 fns:List (Nat × Nat × Option Nat)
 meths:List (Nat × List (Str × Nat))
 fields:List (Nat × List Str)
 clss:List (Nat × Bool × Nat)  -- class,made frozen?,__init__
 inits:List Nat
 mutDisp:List Nat
 mutCall:List Nat
 globDisp:List Nat
 isiC:List Nat
 fail:Nat
structure FI where
 ps:List Str
 body:List Stmt
 sc:Scope
noncomputable def wR (s:Stmt):Option FI:=s7 s none (fun a b c=>some ⟨a.args.map (·.arg),b,c⟩) (fun _=>none) (fun _=>none) (fun _ _=>none) (fun _ _ _=>none) (fun _ _ _ _=>none) (fun _ _ _=>none) (fun _ _ _=>none) (fun _ _=>none) (fun _ _ _ _=>none) (fun _=>none) none none
noncomputable def jG (s:Stmt):List Stmt:=s7 s [] (fun _ _ _=>[]) (fun b=>b) (fun _=>[]) (fun _ _=>[]) (fun _ _ _=>[]) (fun _ _ _ _=>[]) (fun _ _ _=>[]) (fun _ _ _=>[]) (fun _ _=>[]) (fun _ _ _ _=>[]) (fun _=>[]) [] []
noncomputable def tR (i:Nat) (j:Option Nat):Option FI:=(nth pw.main.body i).bind fun s=>oe j (fun j=>(nth (jG s) j).bind wR) (wR s)
noncomputable def dQ (x:FV):Option Int:=iU x none (fun _=>none) some (fun _=>none) (fun _=>none) (fun _=>none) (fun _ _=>none) (fun _=>none) (fun _=>none) (fun _=>none) (fun _=>none)
noncomputable def dF (x:FV):Option (List Nat):=iU x none (fun _=>none) (fun _=>none) some (fun _=>none) (fun _=>none) (fun _ _=>none) (fun _=>none) (fun _=>none) (fun _=>none) (fun _=>none)
noncomputable def jW (x:FV):Option (List FV):=iU x none (fun _=>none) (fun _=>none) (fun _=>none) (fun _=>none) some (fun _ _=>none) (fun _=>none) (fun _=>none) (fun _=>none) (fun _=>none)
noncomputable def i9 (x:FV):Option (List FV):=iU x none (fun _=>none) (fun _=>none) (fun _=>none) some (fun _=>none) (fun _ _=>none) (fun _=>none) (fun _=>none) (fun _=>none) (fun _=>none)
noncomputable def pT (x:FV):Option (List (FV × FV)):=iU x none (fun _=>none) (fun _=>none) (fun _=>none) (fun _=>none) (fun _=>none) (fun _ _=>none) some (fun _=>none) (fun _=>none) (fun _=>none)
noncomputable def G6 (x:FV):Option (Nat × List (Str × FV)):=iU x none (fun _=>none) (fun _=>none) (fun _=>none) (fun _=>none) (fun _=>none) (fun C fs=>some (C,fs)) (fun _=>none) (fun _=>none) (fun _=>none) (fun _=>none)
noncomputable def Bm (x:FV):Option Nat:=iU x none (fun _=>none) (fun _=>none) (fun _=>none) (fun _=>none) (fun _=>none) (fun _ _=>none) (fun _=>none) some (fun _=>none) (fun _=>none)
noncomputable def v8 (x:FV):Option Ty:=iU x none (fun _=>none) (fun _=>none) (fun _=>none) (fun _=>none) (fun _=>none) (fun _ _=>none) (fun _=>none) (fun _=>none) some (fun _=>none)
noncomputable def oY (x:FV):Option Bool:=iU x none some (fun _=>none) (fun _=>none) (fun _=>none) (fun _=>none) (fun _ _=>none) (fun _=>none) (fun _=>none) (fun _=>none) (fun _=>none)
noncomputable def cQ (x:PV):Option FV:=@PV.rec (fun _=>Option FV) some (fun _=>none) (fun _=>none) x
noncomputable def tN (x:PV):Option Nat:=@PV.rec (fun _=>Option Nat) (fun _=>none) some (fun _=>none) x
noncomputable def nQ (x:PV):Option Nat:=@PV.rec (fun _=>Option Nat) (fun _=>none) (fun _=>none) some x
noncomputable def oO (w:PV):Option (List Nat):=(cQ w).bind dF
noncomputable def nF (w:PV):Option Int:=(cQ w).bind dQ
noncomputable def sG (i:Int):Option Nat:=@Int.rec (fun _=>Option Nat) some (fun _=>none) i
noncomputable def pA (m:MO):Option (Nat × List (Str × PV)):=@MO.rec (fun _=>Option (Nat × List (Str × PV))) (fun C fs=>some (C,fs)) (fun _=>none) none m
noncomputable def KQ (m:MO):Option (List FV):=@MO.rec (fun _=>Option (List FV)) (fun _ _=>none) some none m
noncomputable def jD (g:List MO) (k:Nat):Option (Nat × List (Str × PV)):=(nth g k).bind pA
noncomputable def f6 (g:List MO) (k:Nat):Option (List FV):=(nth g k).bind KQ
noncomputable def EP (x:FV):Bool:=iU x true (fun _=>false) (fun _=>false) (fun _=>false) (fun _=>false) (fun _=>false) (fun _ _=>false) (fun _=>false) (fun _=>false) (fun _=>false) (fun _=>false)
noncomputable def isNone (x:PV):Bool:=oe (cQ x) EP false
noncomputable def O3 (x y:FV):Option Bool:=iU x (gd (EP y) (some true)) (fun a=>(oY y).bind fun b=>some (a == b)) (fun a=>(dQ y).bind fun b=>some (a == b)) (fun a=>(dF y).bind fun b=>some (gE a b)) (fun _=>none) (fun _=>none) (fun _ _=>none) (fun _=>none) (fun _=>none) (fun _=>none) (fun _=>none)
noncomputable def O1 (x y:FV):Option Bool:=iU x none (fun a=>(oY y).bind fun b=>some (a != b)) (fun a=>(dQ y).bind fun b=>some (a != b)) (fun a=>(dF y).bind fun b=>some (!gE a b)) (fun _=>none) (fun _=>none) (fun _ _=>none) (fun _=>none) (fun _=>none) (fun _=>none) (fun _=>none)
noncomputable def Ls (x:Int) (l:List FV):Option Bool:=@List.rec FV (fun _=>Option Bool) (some false) (fun a _ ih=>(dQ a).bind fun y=>ih.bind fun b=>some ((y == x)||b)) l
noncomputable def KV (x:List Nat) (l:List FV):Option Bool:=@List.rec FV (fun _=>Option Bool) (some false) (fun a _ ih=>(dF a).bind fun y=>ih.bind fun b=>some (gE y x||b)) l
noncomputable def AD (x:FV) (l:List FV):Option Bool:=oe (dQ x) (fun i=>Ls i l) ((dF x).bind fun s=>KV s l)
noncomputable def GV (x:Int) (l:List (FV × FV)):Option (Option FV):=@List.rec (FV × FV) (fun _=>Option (Option FV)) (some none) (fun p _ ih=>(dQ p.1).bind fun y=>ih.bind fun o=>some (bif y == x then some p.2 else o)) l
noncomputable def Gg (x:List Nat) (l:List (FV × FV)):Option (Option FV):=@List.rec (FV × FV) (fun _=>Option (Option FV)) (some none) (fun p _ ih=>(dF p.1).bind fun y=>ih.bind fun o=>some (bif gE y x then some p.2 else o)) l
noncomputable def wQ (k:FV) (l:List (FV × FV)):Option (Option FV):=oe (dQ k) (fun i=>GV i l) ((dF k).bind fun s=>Gg s l)
noncomputable def fits (n:Nat):Bool:=Nat.ble n 16777216
noncomputable def Nl (x:FV):Option Bool:=iU x (some false) some (fun _=>none) (fun _=>none) (fun _=>none) (fun _=>none) (fun _ _=>none) (fun _=>none) (fun _=>none) (fun _=>none) (fun _=>none)
noncomputable def sU (w:PV):Option Bool:=(cQ w).bind Nl
noncomputable def frozen (l:List PV):Option (List FV):=@List.rec PV (fun _=>Option (List FV)) (some []) (fun a _ ih=>(cQ a).bind fun x=>ih.bind fun xs=>some (x::xs)) l
noncomputable def nU (l:List (Str × PV)):Option (List (Str × FV)):=@List.rec (Str × PV) (fun _=>Option (List (Str × FV))) (some []) (fun a _ ih=>(cQ a.2).bind fun x=>ih.bind fun xs=>some ((a.1,x)::xs)) l
noncomputable def Jw (w:PV) (st:St):Option (PV × St):=oe (nQ w) (fun k=>(f6 st.l k).bind fun vs=>some (.f (.lst vs),{ st with l:=e8 st.l k .dead })) (some (w,st))
noncomputable def tC (l:List PV):St→Option (List PV × St):=@List.rec PV (fun _=>St→Option (List PV × St)) (fun st=>some ([],st)) (fun w _ ih st=>(Jw w st).bind fun r=>(ih r.2).bind fun q=>some (r.1::q.1,q.2)) l
noncomputable def fX (w:PV) (st:St):Option (List FV):=@PV.rec (fun _=>Option (List FV)) jW (f6 st.g) (f6 st.l) w
noncomputable def DF (x:FV):Option (List FV):=oe (jW x) some (oe (i9 x) some ((dF x).bind fun s=>some (s.map fun c=>.str [c])))
noncomputable def w1 (fz:Bool) (w:PV) (st:St):Option (List FV):=@PV.rec (fun _=>Option (List FV)) DF (fun _=>none) (fun k=>@Bool.rec (fun _=>Option (List FV)) (f6 st.l k) none fz) w
noncomputable def Au (i:Int) (n:Nat):Option Nat:=@Int.rec (fun _=>Option Nat) (fun k=>gd (Nat.blt k n) (gd (fits k) (some k))) (fun k=>gd (Nat.blt k n) (gd (fits k) (some (n - (k + 1))))) i
noncomputable def cut {α:Type} (xs:List α) (lo hi:Option Int):List α :=
 (xs.drop (lo.elim 0 (clipAt xs.length))).take (hi.elim xs.length (clipAt xs.length) - lo.elim 0 (clipAt xs.length))
noncomputable def A5 (op:Operator):Bool:=match op with
 | .Add=>true
 | _=>false
noncomputable def GE (op:Operator):Bool:=match op with
 | .Mult=>true
 | _=>false
noncomputable def OU (op:Operator) (x y:Int):Option Int:=match op with
 | .Add=>some (x + y)
 | .Sub=>some (x - y)
 | .Mult=>gd (decide (Builtin.Int.intBits x ≤ 64)||decide (Builtin.Int.intBits y ≤ 64)) (some (x * y))
 | .FloorDiv=>gd (decide (y ≠ 0)) (gd (!Builtin.divisionGoesByPylong x y) (some (Int.fdiv x y)))
 | .Mod=>gd (decide (y ≠ 0)) (some (Int.fmod x y))
 | .LShift=>gd (decide (0 ≤ y)) (gd (decide ((Builtin.Int.intBits x:Int) + y ≤ 2 ^ 27)) (some (x * 2 ^ y.toNat)))
 | .RShift=>gd (decide (0 ≤ y)) (some (x.fdiv (2 ^ y.toNat)))
 | .BitOr=>some (Builtin.bitOr x y)
 | .BitAnd=>some (Builtin.bitAnd x y)
 | .Pow=>gd (decide (0 ≤ y)) (gd (decide ((Builtin.Int.intBits x:Int) * y ≤ 2 ^ 27)) (some (x ^ y.toNat)))
 | .Div=>none
 | .MatMult=>none
 | .BitXor=>none
noncomputable def Ot (a b:List Nat):Option FV:=gd (fits (a.length + b.length)) (some (.str (a++b)))
noncomputable def rX (a b:List Nat):Option PV:=(Ot a b).bind fun z=>some (.f z)
noncomputable def BX (op:Operator) (a b:FV):Option FV :=
 oe (dQ a) (fun x=>(dQ b).bind fun y=>(OU op x y).bind fun z=>some (.int z))
  (oe (dF a) (fun x=>(dQ b).bind fun i=>(sG i).bind fun n=>gd (GE op) (gd (Nat.blt x.length 2) (gd (Nat.blt n 1000000) (some (.str ((List.replicate n x).flatten))))))
   ((jW a).bind fun x=>(jW b).bind fun y=>gd (A5 op) (gd (fits (x.length + y.length)) (some (.lst (x++y))))))
noncomputable def HN (op:Operator) (a b:FV):Option (List Nat × List Nat):=gd (A5 op) ((dF a).bind fun x=>(dF b).bind fun y=>some (x,y))
noncomputable def Ar (op:Operator) (a b:FV):Option FV:=(dQ a).bind fun x=>(dQ b).bind fun y=>match op with
 | .Add=>some (.int (x + y))
 | .Sub=>some (.int (x - y))
 | _=>none
noncomputable def xR (x y:FV) (f:Int→Int→Bool):Option Bool:=(dQ x).bind fun a=>(dQ y).bind fun b=>some (f a b)
noncomputable def GF (a b:FV):Option Bool:=oe (jW b) (AD a) (oe (i9 b) (AD a) (oe (pT b) (fun es=>(wQ a es).bind fun x=>some x.isSome)
 ((dF b).bind fun s=>(dF a).bind fun c=>some (!(Builtin.Str.occurrences ⟨s.toArray⟩ ⟨c.toArray⟩ 0 s.length 1).isEmpty))))
noncomputable def Ry (x y:List Nat):Option Bool:=(one x).bind fun i=>(one y).bind fun j=>some (!Nat.blt j i)
noncomputable def Gl (op:CmpOp) (a b:FV):Option Bool:=match op with
 | .Eq=>O3 a b
 | .NotEq=>O1 a b
 | .Lt=>xR a b fun x y=>decide (x < y)
 | .LtE=>oe (dF a) (fun x=>(dF b).bind (Ry x)) (xR a b fun x y=>decide (x ≤ y))
 | .Gt=>xR a b fun x y=>decide (y < x)
 | .GtE=>xR a b fun x y=>decide (y ≤ x)
 | .In=>GF a b
 | .NotIn=>(i9 b).bind fun vs=>(AD a vs).bind fun x=>some (!x)
 | .Is=>none
 | .IsNot=>none
noncomputable def L9 (op:CmpOp) (a b:PV):Option Bool:=(cQ a).bind fun x=>(cQ b).bind fun y=>Gl op x y
noncomputable def cO (op:CmpOp) (a b:PV):Option Bool:=match op with
 | .Is=>gd (isNone b) (some (isNone a))
 | .IsNot=>gd (isNone b) (some (!isNone a))
 | op=>L9 op a b
noncomputable def mZ (l:List FV):Option Nat:=@List.rec FV (fun _=>Option Nat) (some 0) (fun a _ ih=>(dF a).bind fun x=>ih.bind fun n=>some (x.length + n)) l
noncomputable def oH (s:List Nat) (l:List FV):Option (List Nat):=@List.rec FV (fun _=>Option (List Nat)) (some []) (fun a r ih=>(dF a).bind fun x=>@List.rec FV (fun _=>Option (List Nat)) (some x) (fun _ _ _=>ih.bind fun y=>some (x++s++y)) r) l
noncomputable def oQ (s:List Nat) (vs:List FV):Option PV:=(mZ vs).bind fun n=>gd (fits (n + vs.length * s.length)) ((oH s vs).bind fun t=>some (.f (.str t)))
noncomputable def xG (l:List FV):Option Int:=@List.rec FV (fun _=>Option Int) (some 0) (fun a _ ih=>(dQ a).bind fun i=>ih.bind fun j=>some (i + j)) l
noncomputable def eX (x:List FV):List FV→List FV:=@List.rec FV (fun _=>List FV→List FV) (fun _=>[]) (fun a _ ih y=>@List.rec FV (fun _=>List FV) [] (fun b y _=>.tup [a,b]::ih y) y) x
noncomputable def DU (a b:Int):List FV:=(List.range (b - a).toNat).map fun (i:Nat)=>FV.int (a + (i:Int))
noncomputable def gG (e:Expr):Option Str:=mY e none (fun _ _=>none) (fun _ _ _=>none) (fun _ _=>none) (fun _ _ _=>none) (fun _ _=>none) none (fun _ _ _=>none) none (fun _ _ _=>none) (fun _ _ _ _=>none) (fun _=>none) (fun _ _ _=>none) (fun _ _ _=>none) none some (fun _ _=>none) (fun _=>none) (fun _ _ _=>none)
noncomputable def BJ (e:Expr):Option (Expr × Str × Pos):=mY e none (fun _ _=>none) (fun _ _ _=>none) (fun _ _=>none) (fun _ _ _=>none) (fun _ _=>none) none (fun _ _ _=>none) none (fun _ _ _=>none) (fun _ _ _ _=>none) (fun _=>none) (fun o a p=>some (o,a,p)) (fun _ _ _=>none) none (fun _=>none) (fun _ _=>none) (fun _=>none) (fun _ _ _=>none)
noncomputable def xC (e:Expr):Option (Expr × List Expr × List Keyword × Pos):=mY e none (fun _ _=>none) (fun _ _ _=>none) (fun _ _=>none) (fun _ _ _=>none) (fun _ _=>none) none (fun _ _ _=>none) none (fun _ _ _=>none) (fun f a k p=>some (f,a,k,p)) (fun _=>none) (fun _ _ _=>none) (fun _ _ _=>none) none (fun _=>none) (fun _ _=>none) (fun _=>none) (fun _ _ _=>none)
noncomputable def Fp (e:Expr):Option (Option Expr × Option Expr × Option Expr):=mY e none (fun _ _=>none) (fun _ _ _=>none) (fun _ _=>none) (fun _ _ _=>none) (fun _ _=>none) none (fun _ _ _=>none) none (fun _ _ _=>none) (fun _ _ _ _=>none) (fun _=>none) (fun _ _ _=>none) (fun _ _ _=>none) none (fun _=>none) (fun _ _=>none) (fun _=>none) (fun a b c=>some (a,b,c))
noncomputable def JU (e:Expr):Option (UnaryOp × Expr):=mY e none (fun _ _=>none) (fun _ _ _=>none) (fun op x=>some (op,x)) (fun _ _ _=>none) (fun _ _=>none) none (fun _ _ _=>none) none (fun _ _ _=>none) (fun _ _ _ _=>none) (fun _=>none) (fun _ _ _=>none) (fun _ _ _=>none) none (fun _=>none) (fun _ _=>none) (fun _=>none) (fun _ _ _=>none)
noncomputable def E4 (e:Expr):Option Const:=mY e none (fun _ _=>none) (fun _ _ _=>none) (fun _ _=>none) (fun _ _ _=>none) (fun _ _=>none) none (fun _ _ _=>none) none (fun _ _ _=>none) (fun _ _ _ _=>none) some (fun _ _ _=>none) (fun _ _ _=>none) none (fun _=>none) (fun _ _=>none) (fun _=>none) (fun _ _ _=>none)
noncomputable def wX (e:Expr):Option (List Expr):=mY e none (fun _ _=>none) (fun _ _ _=>none) (fun _ _=>none) (fun _ _ _=>none) (fun _ _=>none) none (fun _ _ _=>none) none (fun _ _ _=>none) (fun _ _ _ _=>none) (fun _=>none) (fun _ _ _=>none) (fun _ _ _=>none) none (fun _=>none) (fun _ _=>none) some (fun _ _ _=>none)
noncomputable def LR (e:Expr):Bool:=mY e false (fun _ _=>false) (fun _ _ _=>false) (fun _ _=>false) (fun _ _ _=>false) (fun _ _=>false) false (fun _ _ _=>false) false (fun _ _ _=>false) (fun _ _ _ _=>false) (fun _=>false) (fun _ _ _=>false) (fun _ _ _=>false) false (fun _=>false) (fun _ _=>true) (fun _=>false) (fun _ _ _=>false)
noncomputable def v4 (op:UnaryOp):Bool:=match op with
 | .USub=>true
 | _=>false
noncomputable def NA (op:UnaryOp):Bool:=match op with
 | .Not=>true
 | _=>false
noncomputable def P4 (c:Const):Bool:=match c with
 | .int i=>oe (sG i) (fun n=>Nat.beq n 1) false
 | _=>false
noncomputable def P2 (c:Const):Bool:=match c with
 | .none=>true
 | _=>false
noncomputable def FZ (e:Expr):Bool:=oe (JU e) (fun q=>oe (E4 q.2) (fun c=>v4 q.1&&P4 c) false) false
noncomputable def bV {α:Type} (l:List α):Bool:=@List.rec α (fun _=>Bool) true (fun _ _ _=>false) l
inductive Qn where
 | call (f:Nat) (ws:List PV) (g:List MO) | pb (x:Option Bool) | pv (x:St→Option PV) (st:St) | ps (x:Option (PV × St)) | cat (a b:List Nat) | jo (s:List Nat) (vs:List FV)
@[reducible] def Qn.A (q:Qn):Type:=@Qn.rec (fun _=>Type) (fun _ _ _=>PV × List MO) (fun _=>Bool) (fun _ _=>PV) (fun _=>PV × St) (fun _ _=>PV) (fun _ _=>PV) q
noncomputable def Qn.run (C:bW) (q:Qn):O q.A:=@Qn.rec (fun q=>O q.A) (fun f ws g=>C f ws g) eF (fun x st=>eF (x st)) eF (fun a b=>eF (rX a b)) (fun s vs=>eF (oQ s vs)) q
inductive Pg (α:Type):Type where
 | stuck | raise | ok (a:α) | ask (c:Bool) (m:Nat) (q:Qn) (k:q.A→Pg α)
noncomputable def Pg.bind {α β:Type} (x:Pg α) (h:α→Pg β):Pg β:=@Pg.rec α (fun _=>Pg β) .stuck .raise h (fun c m q _ ih=>.ask c m q ih) x
noncomputable def calm {α:Type} (x:O α):O α:=@O.rec α (fun _=>O α) .stuck .stuck .ok x
noncomputable def lD {α:Type} (c:Bool) (x:O α):O α:=@Bool.rec (fun _=>O α) x (calm x) c
noncomputable def aN {α:Type} (C:bW) (x:Pg α):O α:=@Pg.rec α (fun _=>O α) .stuck .raise .ok (fun c _ q _ ih=>(lD c (q.run C)).bind ih) x
noncomputable def fG {α:Type} (x:Pg α):Pg α:=@Pg.rec α (fun _=>Pg α) .stuck .stuck .ok (fun _ m q _ ih=>.ask true m q ih) x
noncomputable def opt {α β:Type} (x:Option α) (k:α→Pg β):Pg β:=@Option.rec α (fun _=>Pg β) .stuck k x
noncomputable def gp {β:Type} (b:Bool) (x:Pg β):Pg β:=@Bool.rec (fun _=>Pg β) .stuck x b
noncomputable def qB {β:Type} (m:Nat) (x:Option Bool) (k:Bool→Pg β):Pg β:=.ask false m (.pb x) k
noncomputable def qV {β:Type} (m:Nat) (x:St→Option PV) (st:St) (k:PV→Pg β):Pg β:=.ask false m (.pv x st) k
noncomputable def qS (m:Nat) (x:Option (PV × St)):Pg (PV × St):=.ask false m (.ps x) .ok
noncomputable def qC {β:Type} (m:Nat) (f:Nat) (ws:List PV) (g:List MO) (k:PV × List MO→Pg β):Pg β:=.ask false m (.call f ws g) k
noncomputable def QW:Str := "__debug__"
noncomputable def Qb:Str := "__classdict__"
noncomputable def kindOf (sc:Scope) (x:Str):Option NameKind:=gd (!seq x QW) (gd (!seq x Qb) (lk x sc.names))
noncomputable def bO (e:Expr):Bool:=mY e true (fun _ _=>true) (fun _ _ _=>true) (fun _ _=>true) (fun _ _ _=>true) (fun _ _=>true) false (fun _ _ _=>true) true (fun _ _ _=>true) (fun _ _ _ _=>true) (fun _=>true) (fun _ _ _=>true) (fun _ _ _=>true) false (fun _=>true) (fun _ _=>true) (fun _=>true) (fun _ _ _=>true)
noncomputable def tL (e:Expr):Bool:=oe (xC e) (fun q=>!(oe (gG q.1) (fun _=>bV q.2.1&&bV q.2.2.1) false)) true
section
variable (T:bQ)
noncomputable def gR (cx:Cx) (x:Str) (st:St):Option PV:=(kindOf cx.sc x).bind fun k=>match k with
 | .local=>lk x st.v
 | .cell=>lk x st.c
 | .free=>lk x st.c
 | .globalImplicit=>(lk x T.glob).bind fun y=>some (.f y)
 | .globalExplicit=>none
noncomputable def gL (cx:Cx) (x:Str) (w:PV) (st:St):Option St:=(kindOf cx.sc x).bind fun k=>match k with
 | .local=>some { st with v:=put x w st.v }
 | .cell=>some { st with c:=put x w st.c }
 | _=>none
noncomputable def nE (C:Nat) (a:Str):Bool:=oe (iS C T.fields) (BQ a) false
noncomputable def v9 (w:PV):Bool:=oe (cQ w) (fun x=>iU x true (fun _=>true) (fun _=>true) (fun _=>true) (fun _=>true) (fun _=>true) (fun _ _=>true) (fun _=>true) (fun _=>true) (fun _=>true) (fun _=>false)) true
noncomputable def yQ (w:PV) (a:Str) (st:St):Option PV:=@PV.rec (fun _=>Option PV)
 (fun x=>(G6 x).bind fun q=>gd (nE T q.1 a) ((lk a q.2).bind fun y=>gd (v9 (.f y)) (some (.f y))))
 (fun k=>(jD st.g k).bind fun q=>gd (nE T q.1 a) ((lk a q.2).bind fun y=>gd (v9 y) (some y)))
 (fun _=>none) w
noncomputable def mM (w:PV):Bool:=oe (nQ w) (fun _=>false) true
noncomputable def BL (w:PV) (a:Str) (y:PV) (st:St):Option St:=(tN w).bind fun k=>(jD st.g k).bind fun q=>gd (nE T q.1 a) (gd (Nat.blt q.2.length 100) (gd (mM y) (some { st with g:=e8 st.g k (.inst q.1 (put a y q.2)) })))
noncomputable def wM (i:Int) (vs:List FV):Option PV:=(Au i vs.length).bind fun j=>(nth vs j).bind fun y=>some (.f y)
noncomputable def Pj (s:List Nat) (i:Int):Option PV:=(Au i s.length).bind fun j=>(nth s j).bind fun c=>some (.f (.str [c]))
noncomputable def getD (es:List (FV × FV)) (k:FV):Option PV:=(wQ k es).bind fun o=>o.bind fun y=>some (.f y)
noncomputable def bJ (w i:PV) (st:St):Option PV:=(cQ i).bind fun k=>oe ((cQ w).bind pT) (fun es=>getD es k)
 ((dQ k).bind fun i=>oe (oO w) (fun s=>Pj s i) (oe ((cQ w).bind i9) (wM i) ((fX w st).bind (wM i))))
noncomputable def w7 (i:Int) (n:Nat):Option Nat:=(sG i).bind fun k=>gd (Nat.blt k n) (gd (fits k) (some k))
noncomputable def KO (w i:PV) (y:PV) (st:St):Option St:=(nF i).bind fun i=>(cQ y).bind fun y=>@PV.rec (fun _=>Option St) (fun _=>none)
 (fun k=>(f6 st.g k).bind fun vs=>(w7 i vs.length).bind fun j=>some { st with g:=e8 st.g k (.lst (e8 vs j y)) })
 (fun k=>(f6 st.l k).bind fun vs=>(w7 i vs.length).bind fun j=>some { st with l:=e8 st.l k (.lst (e8 vs j y)) }) w
noncomputable def gQ (isMut:Bool) (isGlob:Bool) (vs:List FV) (st:St):Option (PV × St):=gd (fits vs.length) (some (bif isGlob then (.ref st.g.length,{ st with g:=st.g++[.lst vs] }) else bif isMut then (.loc st.l.length,{ st with l:=st.l++[.lst vs] }) else (.f (.lst vs),st)))
noncomputable def xQ (s:List Nat) (i j:Option Int):Option PV:=gd (fits s.length) (some (.f (.str (cut s i j))))
noncomputable def eH (m:Bool) (w:PV) (i j:Option Int) (st:St):Option (PV × St):=(fX w st).bind fun vs=>gd (fits vs.length) (gQ m false (cut vs i j) st)
noncomputable def Dy (x:Option PV):Option (Option Int):=oe x (fun w=>(cQ w).bind fun x=>iU x (some none) (fun _=>none) (fun i=>some (some i)) (fun _=>none) (fun _=>none) (fun _=>none) (fun _ _=>none) (fun _=>none) (fun _=>none) (fun _=>none) (fun _=>none)) (some none)
noncomputable def rW (x:FV):Option (Nat ⊕ Ty):=iU x (some (.inr .none)) (fun _=>some (.inr .bool)) (fun _=>some (.inr .int)) (fun _=>some (.inr .str)) (fun _=>some (.inr .tuple)) (fun _=>some (.inr .list)) (fun D _=>gd (dY D T.isiC) (some (.inl D))) (fun _=>none) (fun _=>none) (fun _=>none) (fun _=>none)
noncomputable def jN (x:Nat ⊕ Ty):Value:=@Sum.rec Nat Ty (fun _=>Value) .ref (fun m=>.type m.id) x
noncomputable def PN (n:Ty):Bool:=match n with
 | .list=>true
 | .tuple=>true
 | .bool=>true
 | _=>false
noncomputable def FM (x:Nat ⊕ Ty) (c:Nat ⊕ Ty):Bool:=@Sum.rec Nat Ty (fun _=>Bool) (fun D=>@Sum.rec Nat Ty (fun _=>Bool) (fun C=>Nat.beq D C) (fun _=>false) c) (fun m=>@Sum.rec Nat Ty (fun _=>Bool) (fun _=>false) (fun n=>Nat.beq m.n n.n) c) x
noncomputable def Ag (t:FV):Option (Nat ⊕ Ty):=iU t none (fun _=>none) (fun _=>none) (fun _=>none) (fun _=>none) (fun _=>none) (fun _ _=>none) (fun _=>none) (fun C=>gd (dY C T.isiC) (some (.inl C))) (fun n=>gd (PN n) (some (.inr n))) (fun _=>none)
noncomputable def w3 (x:FV) (t:FV):Option Bool:=(rW T x).bind fun tv=>(Ag T t).bind fun c=>some (FM tv c)
noncomputable def AR (x:FV) (l:List FV):Option Bool:=@List.rec FV (fun _=>Option Bool) (some false) (fun t _ ih=>(w3 T x t).bind fun b=>bif b then some true else ih) l
noncomputable def zF (x t:FV):Option Bool:=oe (i9 t) (fun l=>gd (!bV l) (AR T x l)) (w3 T x t)
noncomputable def oV (n:Bl) (ws:List PV) (st:St):Option PV:=match n with
 | .len=>(one ws).bind fun w=>oe (oO w) (fun s=>gd (fits s.length) (some (.f (.int s.length)))) ((fX w st).bind fun vs=>gd (fits vs.length) (some (.f (.int vs.length))))
 | .ord=>(one ws).bind fun w=>(oO w).bind fun s=>(one s).bind fun c=>some (.f (.int c))
 | .chr=>(one ws).bind fun w=>(nF w).bind fun i=>(sG i).bind fun c=>gd (Nat.blt c 0x110000) (some (.f (.str [c])))
 | .isi=>(mX ws).bind fun q=>(cQ q.1).bind fun x=>(cQ q.2).bind fun t=>(zF T x t).bind fun b=>some (.f (.bool b))
 | .max=>(mX ws).bind fun q=>(nF q.1).bind fun a=>(nF q.2).bind fun b=>some (.f (.int (if b > a then b else a)))
 | .sum=>(one ws).bind fun w=>(fX w st).bind fun vs=>(xG vs).bind fun i=>some (.f (.int i))
noncomputable def jT (n:Ty) (line:Nat) (ws:List PV) (st:St):Option (PV × St):=(one ws).bind fun w=>match n with
 | .list=>(fX w st).bind fun vs=>gQ (dY line T.mutCall) false vs st
 | .str=>(nF w).bind fun a=>gd (Nat.blt a.natAbs.log2 1920) (some (.f (.str (Str.ofString (toString a)).cps.toList),st))
 | .int=>((cQ w).bind oY).bind fun b=>some (.f (.int (if b then 1 else 0)),st)
 | _=>none
inductive qO where
 | fn (a:Nat) | app | pop | ext | join | starts | lstrip | get
noncomputable def Ak (w:PV) (ws:List PV) (st:St):Option (PV × St):=(nQ w).bind fun k=>(one ws).bind fun u=>(cQ u).bind fun x=>(f6 st.l k).bind fun vs=>gd (fits vs.length) (some (.f .none,{ st with l:=e8 st.l k (.lst (vs++[x])) }))
noncomputable def mE (w:PV) (ws:List PV) (st:St):Option (PV × St):=(nQ w).bind fun k=>gd (bV ws) ((f6 st.l k).bind fun vs=>gd (fits vs.length) (@List.rec FV (fun _=>Option (PV × St)) none (fun x r _=>some (.f x,{ st with l:=e8 st.l k (.lst r.reverse) })) vs.reverse))
noncomputable def rC (w:PV) (ws:List PV) (st:St):Option (PV × St):=(nQ w).bind fun k=>(one ws).bind fun u=>((cQ u).bind jW).bind fun xs=>(f6 st.l k).bind fun vs=>gd (fits (vs.length + xs.length)) (some (.f .none,{ st with l:=e8 st.l k (.lst (vs++xs)) }))
noncomputable def t7 (w:PV) (ws:List PV):Option PV:=(oO w).bind fun s=>(mX ws).bind fun q=>(oO q.1).bind fun p=>(nF q.2).bind fun i=>some (.f (.bool (decide (fromIndex s.length i + p.length ≤ s.length)&&Builtin.Str.subAt ⟨s.toArray⟩ ⟨p.toArray⟩ (fromIndex s.length i))))
noncomputable def Dn (w:PV) (ws:List PV):Option PV:=(oO w).bind fun s=>(one ws).bind fun u=>(oO u).bind fun cs=>gd (fits s.length) (some (.f (.str (if PySem.stripSame cs.toArray.contains true false ⟨s.toArray⟩ then s else (PySem.stripped cs.toArray.contains true false ⟨s.toArray⟩).cps.toList))))
noncomputable def Lk (w:PV) (ws:List PV):Option PV:=((cQ w).bind pT).bind fun es=>oe (one ws) (fun u=>(cQ u).bind fun k=>(wQ k es).bind fun r=>some (.f (r.getD .none)))
 ((mX ws).bind fun q=>(cQ q.1).bind fun k=>(cQ q.2).bind fun d=>(wQ k es).bind fun r=>some (.f (r.getD d)))
noncomputable def sB (n:Nat) (w:PV):Bool:=@PV.rec (fun _=>Bool) (fun _=>true) (fun k=>Nat.blt k n) (fun _=>false) w
noncomputable def xN (n:Nat) (l:List (Str × PV)):Bool:=@List.rec (Str × PV) (fun _=>Bool) true (fun p _ ih=>@Bool.rec (fun _=>Bool) false ih (sB n p.2)) l
noncomputable def mT (n:Nat) (l:List MO):Bool:=@List.rec MO (fun _=>Bool) true (fun m _ ih=>@Bool.rec (fun _=>Bool) false ih (oe (pA m) (fun q=>xN n q.2) true)) l
noncomputable def Pm (n:Nat) (g:List MO):Option (FV × List MO):=gd (Nat.beq g.length (n + 1)) (gd (mT n (g.take n)) ((jD g n).bind fun q=>(nU q.2).bind fun ys=>some (.obj q.1 ys,g.take n)))
noncomputable def AS (fz:Bool) (st:St) (q:PV × List MO):Option (PV × St):=gd (isNone q.1) (@Bool.rec (fun _=>Option (PV × St)) (some (.ref st.g.length,{ st with g:=q.2 })) ((Pm st.g.length q.2).bind fun z=>some (.f z.1,{ st with g:=z.2 })) fz)
noncomputable def Bb (cx:Cx) (a:Nat) (pre:List PV) (ws:List PV) (st:St):Pg (PV × St):=opt (tC ws st) fun r=>qC cx.f a (pre++r.1) r.2.g fun q=>.ok (q.1,{ r.2 with g:=q.2 })
noncomputable def HK (cx:Cx) (a:Nat) (fz:Bool) (ini:Nat) (ws:List PV) (st:St):Pg (PV × St):=opt (tC ws st) fun r=>qC cx.f ini (.ref r.2.g.length::r.1) (r.2.g++[.inst a []]) fun q=>opt (AS fz r.2 q) .ok
noncomputable def v0 (cx:Cx) (fv:FV) (line:Nat) (ws:List PV) (st:St):Pg (PV × St):=iU fv .stuck (fun _=>.stuck) (fun _=>.stuck) (fun _=>.stuck) (fun _=>.stuck) (fun _=>.stuck) (fun _ _=>.stuck) (fun _=>.stuck) (fun a=>oe (iS a T.clss) (fun p=>HK cx a p.1 p.2 ws st) (opt (iS a T.fns) fun _=>Bb cx a [] ws st)) (fun n=>qS cx.f (jT T n line ws st)) (fun n=>qV cx.f (oV T n ws) st fun v=>.ok (v,st))
noncomputable def QA (n:Str):Option qO:=bif seq n "append" then some .app else bif seq n "pop" then some .pop else gd (seq n "extend") (some .ext)
noncomputable def PD (n:Str):Option qO:=bif seq n "join" then some .join else bif seq n "startswith" then some .starts else gd (seq n "lstrip") (some .lstrip)
noncomputable def Dz (w:PV) (n:Str) (st:St):Option qO:=@PV.rec (fun _=>Option qO)
 (fun x=>oe (dF x) (fun _=>PD n) ((pT x).bind fun _=>gd (seq n "get") (some .get)))
 (fun k=>(jD st.g k).bind fun q=>oe (lk n q.2) (fun _=>none) ((iS q.1 T.meths).bind fun ms=>(lk n ms).bind fun a=>some (.fn a)))
 (fun k=>(f6 st.l k).bind fun _=>QA n) w
noncomputable def Mp (cx:Cx) (cal:qO) (w:PV) (ws:List PV) (st:St):Pg (PV × St):=match cal with
 | .fn a=>Bb cx a [w] ws st
 | .app=>qS cx.f (Ak w ws st)
 | .pop=>qS cx.f (mE w ws st)
 | .ext=>qS cx.f (rC w ws st)
 | .join=>opt (oO w) fun s=>opt (one ws) fun u=>opt (fX u st) fun vs=>.ask false cx.f (.jo s vs) fun v=>.ok (v,st)
 | .starts=>qV cx.f (fun _=>t7 w ws) st fun v=>.ok (v,st)
 | .lstrip=>qV cx.f (fun _=>Dn w ws) st fun v=>.ok (v,st)
 | .get=>qV cx.f (fun _=>Lk w ws) st fun v=>.ok (v,st)
noncomputable def Cd (o:Expr) (ap p:Pos) (args:List Expr):Bool:=tL o&&(ap.endLine == p.line)&&decide (args.length < 20)&&args.all bO
variable (ih:Cx→Expr→St→Pg (PV × St))
noncomputable def oR (cx:Cx) (es:List Expr):St→Pg (List PV × St):=@List.rec Expr (fun _=>St→Pg (List PV × St)) (fun st=>.ok ([],st)) (fun e _ k st=>gp (bO e) ((ih cx e st).bind fun a=>(k a.2).bind fun q=>.ok (a.1::q.1,q.2))) es
noncomputable def Bw (cx:Cx) (e:Option Expr) (st:St):Pg (Option PV × St):=oe e (fun e=>(ih cx e st).bind fun a=>.ok (some a.1,a.2)) (.ok (none,st))
noncomputable def xV (op:BoolOp) (t:Bool):Bool:=@BoolOp.rec (fun _=>Bool) (!t) t op
noncomputable def t4 (cx:Cx) (op:BoolOp) (es:List Expr):St→Pg (PV × St):=@List.rec Expr (fun _=>St→Pg (PV × St)) (fun _=>.stuck) (fun e r k st=>bif bV r then ih cx e st else (ih cx e st).bind fun a=>opt (sU a.1) fun t=>bif xV op t then .ok a else k a.2) es
noncomputable def BE (cx:Cx) (ops:List CmpOp):List Expr→PV→St→Pg (Bool × St):=@List.rec CmpOp (fun _=>List Expr→PV→St→Pg (Bool × St)) (fun _ _ _=>.stuck)
 (fun op ops k es left st=>@List.rec Expr (fun _=>Pg (Bool × St)) .stuck (fun e es _=>(ih cx e st).bind fun a=>qB cx.f (cO op left a.1) fun b=>bif bV ops then gp (bV es) (.ok (b,a.2)) else bif b then k es a.1 a.2 else .ok (false,a.2)) es) ops
noncomputable def wZ (cx:Cx) (left:PV) (ops:List CmpOp) (es:List Expr) (st:St):Pg (Bool × St):=gp (!lastMarks ops es) (gp (Nat.beq ops.length es.length) (BE ih cx ops es left st))
noncomputable def Eu (xK:Expr→St→Pg (Bool × St)) (op:BoolOp) (es:List Expr):St→Pg (Bool × St):=@List.rec Expr (fun _=>St→Pg (Bool × St)) (fun st=>.ok (xV op false,st)) (fun e _ k st=>(xK e st).bind fun a=>bif xV op a.1 then .ok a else k a.2) es
noncomputable def fR (cx:Cx) (e:Expr) (st:St):Pg (Bool × St):=(ih cx e st).bind fun a=>opt (sU a.1) fun b=>.ok (b,a.2)
noncomputable def P1 (cx:Cx) (k:Expr→St→Pg (Bool × St)) (e:Expr) (st:St):Pg (Bool × St):=mY e (fR ih cx e st) (fun op es=>Eu k op es st) (fun _ _ _=>fR ih cx e st) (fun op x=>bif NA op then (k x st).bind fun a=>.ok (!a.1,a.2) else fR ih cx e st) (fun _ _ _=>.stuck) (fun _ _=>fR ih cx e st) (fR ih cx e st) (fun _ _ _=>fR ih cx e st) (fR ih cx e st) (fun a ops es=>(ih cx a st).bind fun r=>wZ ih cx r.1 ops es r.2) (fun _ _ _ _=>fR ih cx e st) (fun _=>fR ih cx e st) (fun _ _ _=>fR ih cx e st) (fun _ _ _=>fR ih cx e st) (fR ih cx e st) (fun _=>fR ih cx e st) (fun _ _=>fR ih cx e st) (fun _=>fR ih cx e st) (fun _ _ _=>fR ih cx e st)
noncomputable def xK (cx:Cx) (k:Nat):Expr→St→Pg (Bool × St):=@Nat.rec (fun _=>Expr→St→Pg (Bool × St)) (fun _ _=>.stuck) (fun _ k=>P1 ih cx k) k
noncomputable def Hf (i j:Int):Bool:=decide (-1000000 ≤ i)&&decide (i ≤ 1000000)&&decide (-1000000 ≤ j)&&decide (j ≤ 1000000)
noncomputable def Hi (w:PV):Bool:=oe ((cQ w).bind v8) (fun n=>match n with
 | .range=>true
 | _=>false) false
noncomputable def D6 (e:Expr):Option (Str × List Expr):=(xC e).bind fun q=>(gG q.1).bind fun n=>gd (bV q.2.2.1) (gd (q.2.1.all bO) (some (n,q.2.1)))
noncomputable def xY (i j:Int):Option (List FV):=gd (Hf i j) (some (DU i j))
noncomputable def I3 (ws:List PV):Option (List FV):=oe (one ws) (fun w=>(nF w).bind fun k=>xY 0 k) ((mX ws).bind fun q=>(nF q.1).bind fun i=>(nF q.2).bind fun j=>xY i j)
noncomputable def qQ (cx:Cx) (e:Expr) (st:St):Option (List Expr):=(D6 e).bind fun q=>(gR T cx q.1 st).bind fun w=>gd (Hi w) (some q.2)
noncomputable def jB (fz:Bool) (cx:Cx) (e:Expr) (st:St):Pg (List FV × St):=oe (qQ T cx e st) (fun args=>(oR ih cx args st).bind fun a=>opt (I3 a.1) fun xs=>.ok (xs,a.2))
 (gp (bO e) ((ih cx e st).bind fun a=>opt (w1 fz a.1 a.2) fun vs=>.ok (vs,a.2)))
noncomputable def xI (cx:Cx) (t:Expr) (x:FV) (st:St):Option St:=(gG t).bind fun n=>gL cx n (.f x) st
noncomputable def nH (cx:Cx) (es:List Expr):St→Pg (Bool × St):=@List.rec Expr (fun _=>St→Pg (Bool × St)) (fun st=>.ok (true,st)) (fun e _ k st=>(xK ih cx 6 e st).bind fun t=>bif t.1 then k t.2 else .ok (false,t.2)) es
noncomputable def iY {α β:Type} (f:α→St→Pg (List β × St)) (l:List α):St→Pg (List β × St):=@List.rec α (fun _=>St→Pg (List β × St)) (fun st=>.ok ([],st)) (fun x _ k st=>(f x st).bind fun a=>(k a.2).bind fun q=>.ok (a.1++q.1,q.2)) l
noncomputable def lM (cx:Cx) (inner:St→Pg (List FV × St)) (g:Comprehension) (x:FV) (st:St):Pg (List FV × St):=opt (xI cx g.target x st) fun st=>(nH ih cx g.ifs st).bind fun a=>bif a.1 then inner a.2 else .ok ([],a.2)
noncomputable def vT (cx:Cx) (elt:Expr) (st:St):Pg (List FV × St):=(ih cx elt st).bind fun w=>opt (cQ w.1) fun y=>.ok ([y],w.2)
noncomputable def nS (cx:Cx) (elt:Expr) (rest:List Comprehension):Comprehension→List FV→St→Pg (List FV × St):=@List.rec Comprehension (fun _=>Comprehension→List FV→St→Pg (List FV × St)) (fun g=>iY (lM ih cx (vT ih cx elt) g))
 (fun g' _ k g=>iY (lM ih cx (fun st=>(jB T ih true cx g'.iter st).bind fun q=>k g' q.1 q.2) g)) rest
noncomputable def JR (x:FV):Bool:=oe (v8 x) (fun n=>match n with
 | .list=>true
 | _=>false) false
noncomputable def Nk (w:PV):Bool:=oe ((cQ w).bind v8) (fun n=>match n with
 | .zip=>true
 | _=>false) false
noncomputable def Id (args:List Expr):Option (Str × Expr × Expr):=(one args).bind fun e=>(xC e).bind fun q=>(gG q.1).bind fun k=>(mX q.2.1).bind fun p=>gd (bV q.2.2.1) (gd (bO p.1) (gd (bO p.2) (some (k,p))))
noncomputable def KA (p:Str × NameKind):Bool:=p.2 == .free
noncomputable def iF (first:Bool) (g:Comprehension):Bool:=(g.is_async == 0)&&(gG g.target).isSome&&(first||bO g.iter)
noncomputable def CS (sc:Scope):Bool:=(sc.kind == .function)&&(sc.names.all fun p=>p.2 != .cell&&(p.2 != .local||lk p.1 sc.names == some .local)&&(p.2 != .free||lk p.1 sc.names == some .free))
noncomputable def Ai (sc:Scope) (st:St):St:={ st with v:=[],l:=st.l.map fun _=>.dead,c:=st.c.filter fun p=>lk p.1 sc.names == some .free }
noncomputable def vP (cx:Cx) (elt:Expr) (gens:List Comprehension) (sc:Scope) (st:St):Pg (PV × St):=gp (CS sc) (gp (sc.names.all fun p=>!KA p||(lk p.1 st.c).isSome) (@List.rec Comprehension (fun _=>Pg (PV × St)) .stuck (fun g r _=>gp (iF true g) (gp (r.all (iF false)) ((jB T ih false cx g.iter st).bind fun i=>(fG (nS T ih ⟨cx.f,sc,cx.m⟩ elt r g i.1 (Ai sc i.2))).bind fun q =>
 gp (fits q.1.length) (gp (mT q.2.g.length q.2.g) (gp (Nat.ble i.2.g.length q.2.g.length) (.ok (.f (.lst q.1),{ i.2 with g:=q.2.g }))))))) gens))
noncomputable def x9 (line:Nat) (xs ys:List FV) (st:St):Option (PV × St):=gd (fits xs.length) (gd (fits ys.length) (gd (!dY line T.mutCall) (some (.f (.lst (eX xs ys)),st))))
noncomputable def Ps (cx:Cx) (a b:Expr) (line:Nat) (st:St):Pg (PV × St):=(ih cx a st).bind fun r=>(ih cx b r.2).bind fun q=>opt (fX r.1 q.2) fun xs=>opt (fX q.1 q.2) fun ys=>qS cx.f (x9 T line xs ys q.2)
noncomputable def z3 (cx:Cx) (x:FV) (args:List Expr) (st:St):Option (Expr × Expr):=gd (JR x) ((Id args).bind fun q=>(gR T cx q.1 st).bind fun z=>gd (Nk z) (some q.2))
noncomputable def Cl (cx:Cx) (n:Str) (args:List Expr) (line:Nat) (st:St):Pg (PV × St):=gp (args.all bO) (gp (Nat.blt args.length 20) (opt (gR T cx n st) fun w=>opt (cQ w) fun x=>oe (z3 T cx x args st) (fun q=>Ps T ih cx q.1 q.2 line st) ((oR ih cx args st).bind fun a=>v0 T cx x line a.1 a.2)))
noncomputable def Df (c:Const):Option PV:=match c with
 | .none=>some (.f .none)
 | .bool b=>some (.f (.bool b))
 | .int i=>some (.f (.int i))
 | .str s=>some (.f (.str s.cps.toList))
 | _=>none
noncomputable def J1 (cx:Cx) (m:Bool) (w:PV) (a b:Option PV) (st:St):Pg (PV × St):=opt (Dy a) fun i=>opt (Dy b) fun j=>oe (oO w) (fun s=>qV cx.f (fun _=>xQ s i j) st fun v=>.ok (v,st)) (qS cx.f (eH m w i j st))
noncomputable def K9 (m:Bool) (w:PV) (st:St):Pg (PV × St):=opt (fX w st) fun vs=>gp (fits vs.length) (opt (gQ m false vs.reverse st) .ok)
noncomputable def Aj (q:Option Expr × Option Expr × Option Expr):Bool:=oe q.2.2 (fun s=>oe q.1 (fun _=>false) (oe q.2.1 (fun _=>false) (FZ s))) false
noncomputable def FF (cx:Cx) (o i:Expr) (l:Nat) (st:St):Pg (PV × St):=(ih cx o st).bind fun r=>oe (Fp i)
 (fun q=>oe q.2.2 (fun _=>gp (Aj q) (K9 (dY l T.mutCall) r.1 r.2)) ((Bw ih cx q.1 r.2).bind fun a=>(Bw ih cx q.2.1 a.2).bind fun b=>J1 cx (dY l T.mutCall) r.1 a.1 b.1 b.2))
 ((ih cx i r.2).bind fun q=>qV cx.f (bJ r.1 q.1) q.2 fun w=>.ok (w,q.2))
noncomputable def JZ (cx:Cx) (op:Operator) (a b:PV) (st:St):Pg (PV × St):=opt (cQ a) fun x=>opt (cQ b) fun y=>oe (HN op x y) (fun q=>.ask false cx.f (.cat q.1 q.2) fun v=>.ok (v,st)) (qV cx.f (fun _=>(BX op x y).bind fun z=>some (.f z)) st fun v=>.ok (v,st))
noncomputable def HB (cx:Cx) (o:Expr) (n:Str) (ap:Pos) (args:List Expr) (p:Pos) (st:St):Pg (PV × St):=gp (Cd o ap p args) ((ih cx o st).bind fun r=>opt (Dz T r.1 n r.2) fun m=>(oR ih cx args r.2).bind fun a=>Mp cx m r.1 a.1 a.2)
noncomputable def Mh (cx:Cx) (f:Expr) (args:List Expr) (ks:List Keyword) (p:Pos) (st:St):Pg (PV × St):=gp (bV ks) (oe (BJ f) (fun q=>HB T ih cx q.1 q.2.1 q.2.2 args p st) (opt (gG f) fun n=>Cl T ih cx n args p.line st))
noncomputable def DS (cx:Cx) (e:Expr) (st:St):Pg (PV × St):=mY e .stuck (fun op es=>t4 ih cx op es st) (fun a op b=>(ih cx a st).bind fun r=>(ih cx b r.2).bind fun q=>JZ cx op r.1 q.1 q.2) (fun op a=>gp (v4 op) ((ih cx a st).bind fun r=>opt (nF r.1) fun i=>.ok (.f (.int (-i)),r.2))) (fun t a b=>(xK ih cx 6 t st).bind fun r=>bif r.1 then ih cx a r.2 else ih cx b r.2) (fun ks vs=>gp (bV ks) (gp (bV vs) (.ok (.f (.dct []),st)))) .stuck (fun elt gens sc=>vP T ih cx elt gens sc st) .stuck (fun a ops es=>(ih cx a st).bind fun r=>(wZ ih cx r.1 ops es r.2).bind fun b=>.ok (.f (.bool b.1),b.2)) (fun f args ks p=>Mh T ih cx f args ks p st) (fun c=>opt (Df c) fun w=>.ok (w,st)) (fun o a _=>gp (tL o) ((ih cx o st).bind fun r=>opt (yQ T r.1 a r.2) fun w=>.ok (w,r.2))) (fun o i p=>FF T ih cx o i p.line st) .stuck (fun x=>opt (gR T cx x st) fun w=>.ok (w,st)) (fun es p=>(oR ih cx es st).bind fun r=>opt (tC r.1 r.2) fun q=>opt (frozen q.1) fun xs=>opt (gQ (dY p.line T.mutDisp) (dY p.line T.globDisp) xs q.2) .ok) (fun es=>(oR ih cx es st).bind fun r=>opt (frozen r.1) fun xs=>gp (fits xs.length) (.ok (.f (.tup xs),r.2))) (fun _ _ _=>.stuck)
end
noncomputable def ev (T:bQ) (k:Nat):Cx→Expr→St→Pg (PV × St):=@Nat.rec (fun _=>Cx→Expr→St→Pg (PV × St)) (fun _ _ _=>.stuck) (fun _ k=>DS T k) k
noncomputable def kP (e:Expr):Bool:=mY e false (fun _ _=>false) (fun _ _ _=>false) (fun _ _=>false) (fun _ _ _=>false) (fun _ _=>false) false (fun _ _ _=>true) true (fun _ _ _=>false) (fun _ _ _ _=>false) (fun _=>false) (fun _ _ _=>false) (fun _ _ _=>false) false (fun _=>false) (fun _ _=>false) (fun _=>false) (fun _ _ _=>false)
inductive Fl where
 | next | brk | cont | ret (w:PV)
section
variable (T:bQ)
noncomputable def E0:Cx→Expr→St→Pg (PV × St):=ev T 40
noncomputable def rM (A:Expr→PV→St→Pg (Unit × St)) (ts:List Expr):List PV→St→Pg (Unit × St):=@List.rec Expr (fun _=>List PV→St→Pg (Unit × St)) (fun ws st=>gp (bV ws) (.ok ((),st))) (fun t _ k ws=>@List.rec PV (fun _=>St→Pg (Unit × St)) (fun _=>.stuck) (fun w ws _ st=>(A t w st).bind fun r=>k ws r.2) ws) ts
noncomputable def HH (st:St):Pg (Unit × St):=.ok ((),st)
noncomputable def I5 (cx:Cx) (A:Expr→PV→St→Pg (Unit × St)) (t:Expr) (w:PV) (st:St):Pg (Unit × St):=mY t .stuck (fun _ _=>.stuck) (fun _ _ _=>.stuck) (fun _ _=>.stuck) (fun _ _ _=>.stuck) (fun _ _=>.stuck) .stuck (fun _ _ _=>.stuck) .stuck (fun _ _ _=>.stuck) (fun _ _ _ _=>.stuck) (fun _=>.stuck) (fun o a _=>(E0 T cx o st).bind fun r=>opt (BL T r.1 a w r.2) HH) (fun o i _=>(E0 T cx o st).bind fun r=>(E0 T cx i r.2).bind fun q=>opt (KO r.1 q.1 w q.2) HH) .stuck (fun n=>opt (gL cx n w st) HH) (fun _ _=>.stuck) (fun ts=>opt ((cQ w).bind i9) fun xs=>gp (Nat.beq ts.length xs.length) (gp (ts.all bO) (rM A ts (xs.map .f) st))) (fun _ _ _=>.stuck)
noncomputable def pB (cx:Cx) (k:Nat):Expr→PV→St→Pg (Unit × St):=@Nat.rec (fun _=>Expr→PV→St→Pg (Unit × St)) (fun _ _ _=>.stuck) (fun _ A=>I5 T cx A) k
noncomputable def A7 (cx:Cx) (e:Expr):Option Str:=(gG e).bind fun n=>(kindOf cx.sc n).bind fun k=>gd (k == .local) (some n)
noncomputable def v7 (l:List Str):Bool:=@List.rec Str (fun _=>Bool) true (fun a r ih=>!BQ a r&&ih) l
noncomputable def Bt (cx:Cx) (ts:List Expr):Bool:=v7 (ts.filterMap (A7 cx))
noncomputable def H6 (cx:Cx) (ts es:List Expr) (st:St):Pg (Unit × St):=gp (Nat.beq ts.length es.length) (gp (Nat.ble es.length 9) (gp (ts.all bO) (gp (Bt cx ts) (gp (es.all (foldedForSure 8)||!es.all (constantsAlone 8)) ((oR (E0 T) cx es st).bind fun r=>rM (pB T cx 4) ts r.1 r.2)))))
noncomputable def AB (cx:Cx) (t:Expr) (e:Expr) (st:St):Pg (Unit × St):=oe (wX t) (fun ts=>oe (wX e) (fun es=>H6 T cx ts es st) (gp (!kP e) ((E0 T cx e st).bind fun r=>pB T cx 4 t r.1 r.2))) (gp (!LR t) (gp (bO t) (gp (!kP e||(gG t).isSome) ((E0 T cx e st).bind fun r=>pB T cx 4 t r.1 r.2))))
noncomputable def jQ (test:St→Pg (Bool × St)) (body:St→Pg (Fl × St)) (m:Nat):St→Pg (Fl × St):=@Nat.rec (fun _=>St→Pg (Fl × St)) (fun _=>.stuck) (fun _ k st=>(test st).bind fun t=>bif t.1 then (body t.2).bind fun r=>match r.1 with
   | .next=>k r.2
   | .cont=>k r.2
   | .brk=>.ok (.next,r.2)
   | .ret w=>.ok (.ret w,r.2)
  else .ok (.next,t.2)) m
noncomputable def Li (asgn:FV→St→Option St) (body:St→Pg (Fl × St)) (l:List FV):St→Pg (Fl × St):=@List.rec FV (fun _=>St→Pg (Fl × St)) (fun st=>.ok (.next,st)) (fun x _ k st=>opt (asgn x st) fun st=>(body st).bind fun r=>match r.1 with
   | .next=>k r.2
   | .ret w=>.ok (.ret w,r.2)
   | _=>.stuck) l
noncomputable def dS (ih:Cx→Stmt→St→Pg (Fl × St)) (cx:Cx) (l:List Stmt):St→Pg (Fl × St):=@List.rec Stmt (fun _=>St→Pg (Fl × St)) (fun st=>.ok (.next,st)) (fun s _ k st=>(ih cx s st).bind fun a=>match a.1 with
  | .next=>k a.2
  | _=>.ok a) l
noncomputable def gC (cx:Cx) (e:Expr) (st:St):Pg (Bool × St):=xK (E0 T) cx 6 e st
noncomputable def Lq (cx:Cx) (n:Str) (args:List Expr) (st:St):Pg (Fl × St):=gp (Nat.beq args.length 2) (gp (args.all bO) (opt (gR T cx n st) fun w=>opt ((cQ w).bind Bm) fun a=>gp (Nat.beq a T.fail) ((oR (E0 T) cx args st).bind fun r=>opt (frozen r.1) fun _=>.raise)))
noncomputable def A9 (cx:Cx) (op:Operator) (w r:PV) (st:St) (k:PV→Pg (Fl × St)):Pg (Fl × St):=opt (cQ w) fun x=>opt (cQ r) fun y=>qV cx.f (fun _=>(Ar op x y).bind fun z=>some (.f z)) st k
noncomputable def P6 (cx:Cx) (t:Expr) (op:Operator) (e:Expr) (st:St):Pg (Fl × St):=oe (gG t) (fun n=>opt (gR T cx n st) fun w=>(E0 T cx e st).bind fun r=>A9 cx op w r.1 r.2 fun z=>opt (gL cx n z r.2) fun st=>.ok (.next,st))
 (opt (BJ t) fun p=>(E0 T cx p.1 st).bind fun q=>opt (yQ T q.1 p.2.1 q.2) fun w=>(E0 T cx e q.2).bind fun r=>A9 cx op w r.1 r.2 fun z=>opt (BL T q.1 p.2.1 z r.2) fun st=>.ok (.next,st))
noncomputable def KC (cx:Cx) (x:Expr) (st:St):Pg (Fl × St):=opt (xC x) fun q=>gp (bV q.2.2.1) (opt (gG q.1) fun n=>Lq T cx n q.2.1 st)
noncomputable def CU (ih:Cx→Stmt→St→Pg (Fl × St)) (cx:Cx) (s:Stmt) (st:St):Pg (Fl × St):=s7 s .stuck (fun _ _ _=>.stuck) (fun _=>.stuck) (fun v=>opt v fun e=>(E0 T cx e st).bind fun r=>.ok (.ret r.1,r.2)) (fun ts e=>opt (one ts) fun t=>(AB T cx t e st).bind fun r=>.ok (.next,r.2)) (fun t op e=>P6 T cx t op e st) (fun t it b o=>gp (bV o) (opt (gG t) fun n=>(jB T (E0 T) true cx it st).bind fun r=>fG (Li (fun x st=>gL cx n (.f x) st) (dS ih cx b) r.1 r.2))) (fun t b o=>gp (bV o) (jQ (gC T cx t) (dS ih cx b) cx.m st)) (fun t a b=>(gC T cx t st).bind fun r=>bif r.1 then dS ih cx a r.2 else dS ih cx b r.2) (fun e c=>oe c (fun _=>.stuck) (opt e fun x=>KC T cx x st)) (fun _ _ _ _=>.stuck) (fun e=>gp (!kP e) ((E0 T cx e st).bind fun r=>.ok (.next,r.2))) (.ok (.brk,st)) (.ok (.cont,st))
end
noncomputable def ex (T:bQ) (k:Nat):Cx→Stmt→St→Pg (Fl × St):=@Nat.rec (fun _=>Cx→Stmt→St→Pg (Fl × St)) (fun _ _ _=>.stuck) (fun _ k=>CU T k) k
noncomputable def Mw (n:Nat) (w:PV) (st:St):Option FV:=@PV.rec (fun _=>Option FV) some (fun k=>gd (!Nat.blt k n) ((jD st.g k).bind fun q=>(nU q.2).bind fun ys=>some (.obj q.1 ys))) (fun k=>(f6 st.l k).bind fun vs=>some (.lst vs)) w
noncomputable def vX (n:Nat) (w:PV) (st:St):Option (PV × List MO):=gd (mT n (st.g.take n)) ((Mw n w st).bind fun x=>some (.f x,st.g.take n))
noncomputable def B7 (sc:Scope) (ps:List Str):List PV→List (Str × PV)→List (Str × PV)→Option (List (Str × PV) × List (Str × PV)):=@List.rec Str (fun _=>List PV→List (Str × PV)→List (Str × PV)→Option (List (Str × PV) × List (Str × PV))) (fun ws v c=>gd (bV ws) (some (v,c)))
 (fun p _ k ws v c=>@List.rec PV (fun _=>Option (List (Str × PV) × List (Str × PV))) none (fun w ws _=>gd (mM w) ((kindOf sc p).bind fun kd=>match kd with
  | .local=>k ws (v++[(p,w)]) c
  | .cell=>k ws v (c++[(p,w)])
  | _=>none)) ws) ps
noncomputable def gK (ini:Bool) (n:Nat) (r:Fl × St):Option (PV × List MO):=match r.1 with
 | .next=>bif ini then gd (mT r.2.g.length r.2.g) (some (.f .none,r.2.g)) else vX n (.f .none) r.2
 | .ret w=>gd (!ini) (vX n w r.2)
 | _=>none
noncomputable def GC (s:Stmt):Option (List Stmt × List ExceptHandler × List Stmt × List Stmt):=s7 s none (fun _ _ _=>none) (fun _=>none) (fun _=>none) (fun _ _=>none) (fun _ _ _=>none) (fun _ _ _ _=>none) (fun _ _ _=>none) (fun _ _ _=>none) (fun _ _=>none) (fun b h o f=>some (b,h,o,f)) (fun _=>none) none none
noncomputable def Fz (s:Stmt):Option Expr:=s7 s none (fun _ _ _=>none) (fun _=>none) (fun v=>v) (fun _ _=>none) (fun _ _ _=>none) (fun _ _ _ _=>none) (fun _ _ _=>none) (fun _ _ _=>none) (fun _ _=>none) (fun _ _ _ _=>none) (fun _=>none) none none
noncomputable def Ey (h:ExceptHandler):Option Expr × Option Str × List Stmt:=match h with
 | .ExceptHandler t n b _=>(t,n,b)
noncomputable def Ad (l:List Stmt):Option Expr:=(one l).bind Fz
noncomputable def Br (l:List Stmt):Bool:=oe (Ad l) (fun u=>oe (E4 u) P2 false) false
noncomputable def Of (h:ExceptHandler):Option Str:=(Ey h).1.bind fun ty=>gd (Ey h).2.1.isNone (gd (Br (Ey h).2.2) (gG ty))
noncomputable def QG (q:List Stmt × List ExceptHandler × List Stmt × List Stmt):Option (Expr × Str):=(Ad q.1).bind fun e=>(one q.2.1).bind fun h=>(Of h).bind fun n=>gd (bV q.2.2.1) (gd (bV q.2.2.2) (some (e,n)))
noncomputable def cX (b:List Stmt):Option (Expr × Str):=(one b).bind fun s=>(GC s).bind QG
noncomputable def sF (l:List (Str × PV)):Bool:=@List.rec (Str × PV) (fun _=>Bool) true (fun p _ ih=>oe (cQ p.2) (fun _=>ih) false) l
noncomputable def wF (T:bQ) (cx:Cx) (n:Str):Option Nat:=(kindOf cx.sc n).bind fun k=>gd (k == .globalImplicit) ((lk n T.glob).bind Bm)
noncomputable def FK (g:List MO) (r:O (PV × St)):O (PV × List MO):=match r with
 | .ok p=>eF ((cQ p.1).bind fun x=>some (.f x,g))
 | .raise=>.ok (.f .none,g)
 | .stuck=>.stuck
noncomputable def BO (T:bQ) (C:bW) (cx:Cx) (e:Expr) (n:Str) (g:List MO) (v c:List (Str × PV)):O (PV × List MO):=(eF (gd (sF v) (gd (sF c) ((wF T cx n).bind fun a=>gd (Nat.beq a T.fail) (some ()))))).bind fun _=>FK g (aN C (E0 T cx e ⟨[],[],v,c⟩))
noncomputable def i0 (T:bQ) (f:Nat) (ws:List PV) (g:List MO):Option (FI × List (Str × PV) × List (Str × PV)):=(iS f T.fns).bind fun p=>(tR p.1 p.2).bind fun fi=>gd (mT g.length g) ((B7 fi.sc fi.ps ws [] []).bind fun q=>some (fi,q))
noncomputable def iR (T:bQ) (m f:Nat) (g:List MO) (q:FI × List (Str × PV) × List (Str × PV)):Pg (PV × List MO):=(dS (ex T 30) ⟨f,q.1.sc,m⟩ q.1.body ⟨g,[],q.2.1,q.2.2⟩).bind fun r=>opt (gK (dY f T.inits) g.length r) .ok
noncomputable def GI (T:bQ) (m:Nat) (f:Nat) (ws:List PV) (g:List MO):Pg (PV × List MO):=opt (i0 T f ws g) fun q=>oe (cX q.1.body) (fun _=>.stuck) (iR T m f g q)
noncomputable def cG (T:bQ) (C:bW) (m:Nat) (f:Nat) (ws:List PV) (g:List MO):O (PV × List MO):=(eF (i0 T f ws g)).bind fun q=>oe (cX q.1.body) (fun p=>BO T C ⟨f,q.1.sc,m⟩ p.1 p.2 g q.2.1 q.2.2) (aN C (iR T m f g q))
noncomputable def run (T:bQ) (m:Nat) (n:Nat):bW:=@Nat.rec (fun _=>bW) (fun _ _ _=>.stuck) (fun _ C=>cG T C m) n
end Mine
end
local macro_rules
 | `(tactic| cases $e:ident)=>`(tactic| first
  | exact Mine.nk1 $e | exact Mine.nk2 $e | exact Mine.nk3 $e | exact Mine.nk4 $e | exact Mine.nk5 $e | exact Mine.nk6 $e
  | (guard_hyp $e :~ _ = _;first
    | (replace $e := Mine.okI $e;subst $e)
    | (replace $e := Option.some.inj $e;subst $e)
    | (replace $e := Eq.symm $e;subst $e)
    | (have e1:=(Prod.mk.inj $e).1;have e2:=(Prod.mk.inj $e).2;clear $e;cases e1;cases e2)
    | focus (injection $e;done)
    | cases ($e))
  | cases ($e))
 | `(tactic| omega)=>`(tactic| first|lia|omega (config:={}))
section
namespace Mine
theorem gU {b:Bool} (h:(!b)=true):b=false:=by
 cases b with
 | false=>rfl
 | true=>exact nk6 h
theorem eK {n m:Nat} (h:Nat.blt n m=true):n < m:=Nat.le_of_ble_eq_true h
theorem qG {x y:List Nat}:gE x y=true ↔ x=y:=PySem.W.Fast.lEq_iff
theorem hV {a b:Str}:seq a b=true ↔ a=b:=qG.trans ⟨fun h=>by
 cases a;cases b;exact congrArg Str.mk (Array.toList_inj.mp h),fun h=>h ▸ rfl⟩
theorem nY (a:Str):seq a a=true:=hV.mpr rfl
theorem D8 {a b:Str} (h:seq a b=false):a ≠ b:=fun e=>nk5 ((nY b).symm.trans (e ▸ h))
theorem BC {a b:Str} (h:a ≠ b):seq a b=false:=Bool.eq_false_iff.mpr fun e=>h (hV.mp e)
theorem mD {α:Type}{x:Str}{p:Str × α}{r:List (Str × α)} (h:x=p.1):lk x (p::r)=some p.2:=by
 show @Bool.rec (fun _=>Option α) (lk x r) (some p.2) (seq x p.1)=_
 rw[h,nY]
theorem iP {α:Type}{x:Str}{p:Str × α}{r:List (Str × α)} (h:x ≠ p.1):lk x (p::r)=lk x r:=by
 show @Bool.rec (fun _=>Option α) (lk x r) (some p.2) (seq x p.1)=_
 rw[BC h]
theorem AM {α:Type}{x:Str}{p:Str × α}{r:List (Str × α)}{y:Option α}{P:Prop} (e:lk x (p::r)=y) (h1:x=p.1→some p.2=y→P) (h2:x ≠ p.1→lk x r=y→P):P :=
 (Classical.em (x=p.1)).elim (fun h=>h1 h ((mD h).symm.trans e)) fun h=>h2 h ((iP h).symm.trans e)
theorem fW {α:Type} (x:Str) (l:List (Str × α)):lk x l=l.lookup x:=by
 induction l with
 | nil=>rfl
 | cons p r ih =>
  rw[List.lookup_cons]
  by_cases h:x=p.1
  ·rw[mD h,beq_iff_eq.mpr h]
  ·rw[iP h,beq_eq_false_iff_ne.mpr h];exact ih
theorem AW {α:Type}{x:Str}{v:α}{p:Str × α}{r:List (Str × α)} (h:x=p.1):put x v (p::r)=(x,v)::r:=by
 show @Bool.rec (fun _=>List (Str × α)) (p::put x v r) ((x,v)::r) (seq x p.1)=_
 rw[h,nY]
theorem A0 {α:Type}{x:Str}{v:α}{p:Str × α}{r:List (Str × α)} (h:x ≠ p.1):put x v (p::r)=p::put x v r:=by
 show @Bool.rec (fun _=>List (Str × α)) (p::put x v r) ((x,v)::r) (seq x p.1)=_
 rw[BC h]
theorem rB {α:Type}{x y:Str}{v:α} (e:y=x) (l:List (Str × α)):lk y (put x v l)=some v:=by
 induction l with
 | nil=>exact mD e
 | cons p r ih =>
  by_cases h:x=p.1
  ·rw[AW h];exact mD e
  ·rw[A0 h,iP fun z=>h (e.symm.trans z)];exact ih
theorem rA {α:Type}{x y:Str}{v:α} (e:y ≠ x) (l:List (Str × α)):lk y (put x v l)=lk y l:=by
 induction l with
 | nil=>exact iP e
 | cons p r ih =>
  by_cases h:x=p.1
  ·rw[AW h,iP e,iP fun z=>e (z.trans h.symm)]
  ·rw[A0 h]
   by_cases z:y=p.1
   ·rw[mD z,mD z]
   ·rw[iP z,iP z];exact ih
theorem zQ {α:Type}{x y:Str}{v:α}{l:List (Str × α)}{u:Option α}{P:Prop} (e:lk y (put x v l)=u) (h1:y=x→some v=u→P) (h2:y ≠ x→lk y l=u→P):P :=
 (Classical.em (y=x)).elim (fun h=>h1 h ((rB h l).symm.trans e)) fun h=>h2 h ((rA h l).symm.trans e)
theorem mQ {α:Type} (l:List α):∀ n,nth l n=l[n]?:=by
 induction l with
 | nil=>exact fun _=>rfl
 | cons x r ih=>intro n;cases n with
  | zero=>rfl
  | succ n=>exact ih n
theorem nL {α:Type} (l:List α) (v:α):∀ n,e8 l n v=l.set n v:=by
 induction l with
 | nil=>intro n;rfl
 | cons x r ih=>intro n;cases n with
  | zero=>rfl
  | succ n=>exact congrArg (x::·) (ih n)
theorem kH {α:Type} (l:List α) (n:Nat) (v:α):(e8 l n v).length=l.length:=by rw[nL,List.length_set]
theorem dZ {α:Type}{l:List α}{n m:Nat}{v:α}{x:Option α}{P:Prop} (e:(e8 l n v)[m]? = x) (h1:n=m→n < l.length→some v=x→P) (h2:n ≠ m→l[m]? = x→P) (h3:l[m]? = none→P):P:=by
 rw[nL]at e
 by_cases h:n=m
 ·by_cases q:n < l.length
  ·exact h1 h q ((List.getElem?_set_self q).symm.trans (by rw[h]at e ⊢;exact e))
  ·exact h3 (List.getElem?_eq_none (Nat.le_of_not_lt (h ▸ q)))
 ·exact h2 h ((List.getElem?_set_ne h).symm.trans e)
theorem rS {a:Str}{l:List Str}:BQ a l=true ↔ a ∈ l:=by
 induction l with
 | nil=>exact⟨nk6,fun h=>absurd h List.not_mem_nil⟩
 | cons b r ih =>
  show @Bool.rec (fun _=>Bool) (BQ a r) true (seq a b)=true ↔ _
  by_cases h:a=b
  ·rw[h,nY];exact⟨fun _=>List.mem_cons_self,fun _=>rfl⟩
  ·rw[BC h];exact⟨fun e=>List.mem_cons_of_mem _ (ih.mp e),fun e=>ih.mpr ((List.mem_cons.mp e).resolve_left h)⟩
theorem tQ {a:Nat}{l:List Nat} (e:dY a l=true):a ∈ l:=by
 induction l with
 | nil=>exact nk6 e
 | cons b r ih =>
  replace e : @Bool.rec (fun _=>Bool) (dY a r) true (Nat.beq a b)=true:=e
  cases h:Nat.beq a b with
  | true=>rw[Nat.eq_of_beq_eq_true h];exact List.mem_cons_self
  | false=>rw[h]at e;exact List.mem_cons_of_mem _ (ih e)
theorem eA {α:Type}{l:List α}{x:α} (h:one l=some x):l=[x]:=by
 cases l with
 | nil=>exact nk3 h
 | cons a r=>cases r with
  | nil=>exact congrArg (fun y=>[y]) (Option.some.inj h)
  | cons=>exact nk3 h
theorem kD {α:Type}{l:List α}{x:α × α} (h:mX l=some x):l=[x.1,x.2]:=by
 cases l with
 | nil=>exact nk3 h
 | cons a r=>exact ob h fun y h1 h2=>by rw[eA h1,← Option.some.inj h2]
theorem bN {α:Type}{l:List α} (h:bV l=true):l=[]:=by
 cases l with
 | nil=>rfl
 | cons=>exact nk6 h
theorem nG {w:PV}{x:FV} (h:cQ w=some x):w=.f x:=by
 cases w with
 | f y=>exact congrArg PV.f (Option.some.inj h)
 | ref=>exact nk3 h
 | loc=>exact nk3 h
theorem pE {w:PV}{k:Nat} (h:tN w=some k):w=.ref k:=by
 cases w with
 | ref y=>exact congrArg PV.ref (Option.some.inj h)
 | f=>exact nk3 h
 | loc=>exact nk3 h
theorem uO {w:PV}{k:Nat} (h:nQ w=some k):w=.loc k:=by
 cases w with
 | loc y=>exact congrArg PV.loc (Option.some.inj h)
 | f=>exact nk3 h
 | ref=>exact nk3 h
theorem lU {x:FV}{i:Int} (h:dQ x=some i):x=.int i:=by
 cases x with
 | int y=>exact congrArg FV.int (Option.some.inj h)
 | _=>exact nk3 h
theorem lH {x:FV}{i:List Nat} (h:dF x=some i):x=.str i:=by
 cases x with
 | str y=>exact congrArg FV.str (Option.some.inj h)
 | _=>exact nk3 h
theorem DL {x:FV}{i:List FV} (h:jW x=some i):x=.lst i:=by
 cases x with
 | lst y=>exact congrArg FV.lst (Option.some.inj h)
 | _=>exact nk3 h
theorem CC {x:FV}{i:List FV} (h:i9 x=some i):x=.tup i:=by
 cases x with
 | tup y=>exact congrArg FV.tup (Option.some.inj h)
 | _=>exact nk3 h
theorem u6 {x:FV}{i:List (FV × FV)} (h:pT x=some i):x=.dct i:=by
 cases x with
 | dct y=>exact congrArg FV.dct (Option.some.inj h)
 | _=>exact nk3 h
theorem CH {x:FV}{i:Nat × List (Str × FV)} (h:G6 x=some i):x=.obj i.1 i.2:=by
 cases x with
 | obj C fs=>rw[← Option.some.inj h]
 | _=>exact nk3 h
theorem vJ {x:FV}{i:Nat} (h:Bm x=some i):x=.top i:=by
 cases x with
 | top y=>exact congrArg FV.top (Option.some.inj h)
 | _=>exact nk3 h
theorem pJ {x:FV}{i:Ty} (h:v8 x=some i):x=.typ i:=by
 cases x with
 | typ y=>exact congrArg FV.typ (Option.some.inj h)
 | _=>exact nk3 h
theorem A8 {x:FV}{i:Bool} (h:oY x=some i):x=.bool i:=by
 cases x with
 | bool y=>exact congrArg FV.bool (Option.some.inj h)
 | _=>exact nk3 h
theorem fK {α:Type}{f:FV→Option α}{w:PV}{x:α}{P:Prop} (h:(cQ w).bind f=some x) (k:∀ y,w=.f y→f y=some x→P):P:=ob h fun y h1 h2=>k y (nG h1) h2
theorem It {w:PV}{x:List Nat} (h:oO w=some x):w=.f (.str x):=fK h fun y h1 h2=>by rw[h1,lH h2]
theorem Hw {w:PV}{x:Int} (h:nF w=some x):w=.f (.int x):=fK h fun y h1 h2=>by rw[h1,lU h2]
theorem n7 {m:MO}{x:Nat × List (Str × PV)} (h:pA m=some x):m=.inst x.1 x.2:=by
 cases m with
 | inst=>rw[← Option.some.inj h]
 | lst=>exact nk3 h
 | dead=>exact nk3 h
theorem Ew {m:MO}{x:List FV} (h:KQ m=some x):m=.lst x:=by
 cases m with
 | lst=>rw[← Option.some.inj h]
 | inst=>exact nk3 h
 | dead=>exact nk3 h
theorem nR {g:List MO}{k:Nat}{x:Nat × List (Str × PV)} (h:jD g k=some x):g[k]? = some (.inst x.1 x.2):=ob h fun m h1 h2=>by rw[← mQ,h1,n7 h2]
theorem fU {g:List MO}{k:Nat}{x:List FV} (h:f6 g k=some x):g[k]? = some (.lst x):=ob h fun m h1 h2=>by rw[← mQ,h1,Ew h2]
abbrev PM:=Addr→Option Obj
noncomputable def PM.le (B B':PM):Prop:=∀ a o,B a=some o→B' a=some o
theorem PM.le.refl (B:PM):B.le B:=fun _ _ h=>h
theorem PM.le.trans {B B' B'':PM} (h:B.le B') (h':B'.le B''):B.le B'':=fun a o e=>h' a o (h a o e)
noncomputable def nX (w:World) (e:DictEntry) (k:FV):Prop:=match k with
 | .int i=>∃ t,e.key=.int i t∧e.hash=hashInt i
 | .str s=>∃ t,e.key=.str ⟨s.toArray⟩ t∧e.hash=hashStr w ⟨s.toArray⟩
 | _=>False
noncomputable def aO (w:World) (B:PM) (v:Value) (x:FV):Prop:=@FV.rec (fun _=>Value→Prop) (fun _=>List Value→Prop) (fun _=>List DictEntry→Prop) (fun _=>List DictEntry→Prop) (fun _=>DictEntry→Prop) (fun _=>DictEntry→Prop)
 (fun v=>v=.none) (fun b v=>v=.bool b) (fun i v=>∃ t,v=.int i t) (fun s v=>∃ t,v=.str ⟨s.toArray⟩ t)
 (fun _ k v=>∃ a n us,v=.ref a∧B a=some ⟨.type "tuple",none,.seq us.toArray n,#[]⟩∧k us) (fun _ k v=>∃ a n us,v=.ref a∧B a=some (PySem.W.listOf us.toArray n)∧k us)
 (fun C _ k v=>∃ a d n es,v=.ref a∧B a=some (instObj C d)∧B d=some (dictOf es n)∧k es) (fun _ k v=>∃ a n es,v=.ref a∧(a == sysModules)=false∧B a=some (dictOf es n)∧k es)
 (fun a v=>v=.ref a) (fun n v=>v=.type n.id) (fun n v=>v=.builtin n.id) (fun us=>us=[]) (fun _ _ p q us=>∃ v r,us=v::r∧p v∧q r)
 (fun es=>es=[]) (fun _ _ p q es=>∃ e r,es=e::r∧p e∧q r) (fun es=>es=[]) (fun _ _ p q es=>∃ e r,es=e::r∧p e∧q r) (fun n _ p e=>(∃ t,e.key=.str n t)∧p e.val) (fun k _ _ p e=>nX w e k∧p e.val) x v
noncomputable def aQ (w:World) (B:PM) (us:List Value) (x:List FV):Prop:=@FV.rec_1 (fun _=>Value→Prop) (fun _=>List Value→Prop) (fun _=>List DictEntry→Prop) (fun _=>List DictEntry→Prop) (fun _=>DictEntry→Prop) (fun _=>DictEntry→Prop)
 (fun v=>v=.none) (fun b v=>v=.bool b) (fun i v=>∃ t,v=.int i t) (fun s v=>∃ t,v=.str ⟨s.toArray⟩ t)
 (fun _ k v=>∃ a n us,v=.ref a∧B a=some ⟨.type "tuple",none,.seq us.toArray n,#[]⟩∧k us) (fun _ k v=>∃ a n us,v=.ref a∧B a=some (PySem.W.listOf us.toArray n)∧k us)
 (fun C _ k v=>∃ a d n es,v=.ref a∧B a=some (instObj C d)∧B d=some (dictOf es n)∧k es) (fun _ k v=>∃ a n es,v=.ref a∧(a == sysModules)=false∧B a=some (dictOf es n)∧k es)
 (fun a v=>v=.ref a) (fun n v=>v=.type n.id) (fun n v=>v=.builtin n.id) (fun us=>us=[]) (fun _ _ p q us=>∃ v r,us=v::r∧p v∧q r)
 (fun es=>es=[]) (fun _ _ p q es=>∃ e r,es=e::r∧p e∧q r) (fun es=>es=[]) (fun _ _ p q es=>∃ e r,es=e::r∧p e∧q r) (fun n _ p e=>(∃ t,e.key=.str n t)∧p e.val) (fun k _ _ p e=>nX w e k∧p e.val) x us
noncomputable def iD (w:World) (B:PM) (es:List DictEntry) (x:List (Str × FV)):Prop:=@FV.rec_2 (fun _=>Value→Prop) (fun _=>List Value→Prop) (fun _=>List DictEntry→Prop) (fun _=>List DictEntry→Prop) (fun _=>DictEntry→Prop) (fun _=>DictEntry→Prop)
 (fun v=>v=.none) (fun b v=>v=.bool b) (fun i v=>∃ t,v=.int i t) (fun s v=>∃ t,v=.str ⟨s.toArray⟩ t)
 (fun _ k v=>∃ a n us,v=.ref a∧B a=some ⟨.type "tuple",none,.seq us.toArray n,#[]⟩∧k us) (fun _ k v=>∃ a n us,v=.ref a∧B a=some (PySem.W.listOf us.toArray n)∧k us)
 (fun C _ k v=>∃ a d n es,v=.ref a∧B a=some (instObj C d)∧B d=some (dictOf es n)∧k es) (fun _ k v=>∃ a n es,v=.ref a∧(a == sysModules)=false∧B a=some (dictOf es n)∧k es)
 (fun a v=>v=.ref a) (fun n v=>v=.type n.id) (fun n v=>v=.builtin n.id) (fun us=>us=[]) (fun _ _ p q us=>∃ v r,us=v::r∧p v∧q r)
 (fun es=>es=[]) (fun _ _ p q es=>∃ e r,es=e::r∧p e∧q r) (fun es=>es=[]) (fun _ _ p q es=>∃ e r,es=e::r∧p e∧q r) (fun n _ p e=>(∃ t,e.key=.str n t)∧p e.val) (fun k _ _ p e=>nX w e k∧p e.val) x es
noncomputable def nV (w:World) (B:PM) (es:List DictEntry) (x:List (FV × FV)):Prop:=@FV.rec_3 (fun _=>Value→Prop) (fun _=>List Value→Prop) (fun _=>List DictEntry→Prop) (fun _=>List DictEntry→Prop) (fun _=>DictEntry→Prop) (fun _=>DictEntry→Prop)
 (fun v=>v=.none) (fun b v=>v=.bool b) (fun i v=>∃ t,v=.int i t) (fun s v=>∃ t,v=.str ⟨s.toArray⟩ t)
 (fun _ k v=>∃ a n us,v=.ref a∧B a=some ⟨.type "tuple",none,.seq us.toArray n,#[]⟩∧k us) (fun _ k v=>∃ a n us,v=.ref a∧B a=some (PySem.W.listOf us.toArray n)∧k us)
 (fun C _ k v=>∃ a d n es,v=.ref a∧B a=some (instObj C d)∧B d=some (dictOf es n)∧k es) (fun _ k v=>∃ a n es,v=.ref a∧(a == sysModules)=false∧B a=some (dictOf es n)∧k es)
 (fun a v=>v=.ref a) (fun n v=>v=.type n.id) (fun n v=>v=.builtin n.id) (fun us=>us=[]) (fun _ _ p q us=>∃ v r,us=v::r∧p v∧q r)
 (fun es=>es=[]) (fun _ _ p q es=>∃ e r,es=e::r∧p e∧q r) (fun es=>es=[]) (fun _ _ p q es=>∃ e r,es=e::r∧p e∧q r) (fun n _ p e=>(∃ t,e.key=.str n t)∧p e.val) (fun k _ _ p e=>nX w e k∧p e.val) x es
section
variable {w:World}{B B':PM}{v:Value}
theorem aO.noneI (h:aO w B v .none):v=.none:=h
theorem aO.boolI {b:Bool} (h:aO w B v (.bool b)):v=.bool b:=h
theorem aO.intsI {i:Int} (h:aO w B v (.int i)):∃ t,v=.int i t:=h
theorem aO.strI {s:List Nat} (h:aO w B v (.str s)):∃ t,v=.str ⟨s.toArray⟩ t:=h
theorem aO.tupI {x:List FV} (h:aO w B v (.tup x)):∃ a n us,v=.ref a∧B a=some ⟨.type "tuple",none,.seq us.toArray n,#[]⟩∧aQ w B us x:=h
theorem aO.lstI {x:List FV} (h:aO w B v (.lst x)):∃ a n us,v=.ref a∧B a=some (PySem.W.listOf us.toArray n)∧aQ w B us x:=h
theorem aO.objI {C:Nat}{x:List (Str × FV)} (h:aO w B v (.obj C x)):∃ a d n es,v=.ref a∧B a=some (instObj C d)∧B d=some (dictOf es n)∧iD w B es x:=h
theorem aO.dctI {x:List (FV × FV)} (h:aO w B v (.dct x)):∃ a n es,v=.ref a∧(a == sysModules)=false∧B a=some (dictOf es n)∧nV w B es x:=h
theorem aO.int (i:Int) (t:Tok):aO w B (.int i t) (.int i):=⟨t,rfl⟩
theorem aO.str (s:List Nat) (t:Tok):aO w B (.str ⟨s.toArray⟩ t) (.str s):=⟨t,rfl⟩
theorem aO.strS (s:Str) (t:Tok):aO w B (.str s t) (.str s.cps.toList):=⟨t,rfl⟩
theorem aO.tup {a:Addr}{n:Nat}{us:List Value}{xs:List FV} (h:B a=some ⟨.type "tuple",none,.seq us.toArray n,#[]⟩) (r:aQ w B us xs):aO w B (.ref a) (.tup xs):=⟨a,n,us,rfl,h,r⟩
theorem aO.lst {a:Addr}{n:Nat}{us:List Value}{xs:List FV} (h:B a=some (PySem.W.listOf us.toArray n)) (r:aQ w B us xs):aO w B (.ref a) (.lst xs):=⟨a,n,us,rfl,h,r⟩
theorem aO.obj {a d C n:Nat}{es:List DictEntry}{fs:List (Str × FV)} (h:B a=some (instObj C d)) (h':B d=some (dictOf es n)) (r:iD w B es fs):aO w B (.ref a) (.obj C fs):=⟨a,d,n,es,rfl,h,h',r⟩
theorem aO.dct {a n:Nat}{es:List DictEntry}{fs:List (FV × FV)} (hm:(a == sysModules)=false) (h:B a=some (dictOf es n)) (r:nV w B es fs):aO w B (.ref a) (.dct fs):=⟨a,n,es,rfl,hm,h,r⟩
theorem aQ.nil:aQ w B [] []:=rfl
theorem aQ.cons {x:FV}{us:List Value}{xs:List FV} (h:aO w B v x) (r:aQ w B us xs):aQ w B (v::us) (x::xs):=⟨_,_,rfl,h,r⟩
theorem aQ.n {us:List Value} (h:aQ w B us []):us=[]:=h
theorem aQ.c {us:List Value}{x:FV}{xs:List FV} (h:aQ w B us (x::xs)):∃ v r,us=v::r∧aO w B v x∧aQ w B r xs:=h
@[elab_as_elim] theorem aO.iE {P:Value→Prop}{x:FV}{i:Int} (p:aO w B v x) (h:dQ x=some i) (k:∀ t,P (.int i t)):P v:=by obtain⟨t,rfl⟩:=(lU h ▸ p).intsI;exact k t
@[elab_as_elim] theorem aO.sE {P:Value→Prop}{x:FV}{i:List Nat} (p:aO w B v x) (h:dF x=some i) (k:∀ t,P (.str ⟨i.toArray⟩ t)):P v:=by obtain⟨t,rfl⟩:=(lH h ▸ p).strI;exact k t
@[elab_as_elim] theorem aO.lE {P:Value→Prop}{x:FV}{i:List FV} (p:aO w B v x) (h:jW x=some i) (k:∀ a n us,B a=some (PySem.W.listOf us.toArray n)→aQ w B us i→P (.ref a)):P v:=by obtain⟨a,n,us,rfl,h1,h2⟩:=(DL h ▸ p).lstI;exact k a n us h1 h2
@[elab_as_elim] theorem aO.tE {P:Value→Prop}{x:FV}{i:List FV} (p:aO w B v x) (h:i9 x=some i) (k:∀ a n us,B a=some ⟨.type "tuple",none,.seq us.toArray n,#[]⟩→aQ w B us i→P (.ref a)):P v:=by obtain⟨a,n,us,rfl,h1,h2⟩:=(CC h ▸ p).tupI;exact k a n us h1 h2
@[elab_as_elim] theorem aO.bE {P:Value→Prop}{x:FV}{i:Bool} (p:aO w B v x) (h:oY x=some i) (k:P (.bool i)):P v:=by obtain rfl:=(A8 h ▸ p).boolI;exact k
theorem aO.mono (l:B.le B') {x:FV}:aO w B v x→aO w B' v x :=
 @FV.rec (fun x=>∀ v,aO w B v x→aO w B' v x) (fun x=>∀ v,aQ w B v x→aQ w B' v x) (fun x=>∀ v,iD w B v x→iD w B' v x) (fun x=>∀ v,nV w B v x→nV w B' v x) (fun p=>∀ v,aO w B v p.2→aO w B' v p.2) (fun p=>∀ v,aO w B v p.2→aO w B' v p.2)
  (fun _ h=>h) (fun _ _ h=>h) (fun _ _ h=>h) (fun _ _ h=>h)
  (fun _ ih _ h=>h.imp fun a h=>h.imp fun n h=>h.imp fun us h=>⟨h.1,l _ _ h.2.1,ih us h.2.2⟩) (fun _ ih _ h=>h.imp fun a h=>h.imp fun n h=>h.imp fun us h=>⟨h.1,l _ _ h.2.1,ih us h.2.2⟩)
  (fun _ _ ih _ h=>h.imp fun a h=>h.imp fun d h=>h.imp fun n h=>h.imp fun es h=>⟨h.1,l _ _ h.2.1,l _ _ h.2.2.1,ih es h.2.2.2⟩)
  (fun _ ih _ h=>h.imp fun a h=>h.imp fun n h=>h.imp fun es h=>⟨h.1,h.2.1,l _ _ h.2.2.1,ih es h.2.2.2⟩)
  (fun _ _ h=>h) (fun _ _ h=>h) (fun _ _ h=>h) (fun _ h=>h) (fun _ _ p q _ h=>h.imp fun v h=>h.imp fun r h=>⟨h.1,p v h.2.1,q r h.2.2⟩)
  (fun _ h=>h) (fun _ _ p q _ h=>h.imp fun e h=>h.imp fun r h=>⟨h.1,⟨h.2.1.1,p _ h.2.1.2⟩,q r h.2.2⟩)
  (fun _ h=>h) (fun _ _ p q _ h=>h.imp fun e h=>h.imp fun r h=>⟨h.1,⟨h.2.1.1,p _ h.2.1.2⟩,q r h.2.2⟩) (fun _ _ p=>p) (fun _ _ _ p=>p) x v
theorem aQ.mono (l:B.le B') {xs:List FV}:∀ {us:List Value},aQ w B us xs→aQ w B' us xs:=by
 induction xs with
 | nil=>exact fun h=>h
 | cons x r ih=>exact fun h=>h.c.imp fun v h=>h.imp fun r h=>⟨h.1,h.2.1.mono l,ih h.2.2⟩
theorem aQ.length {xs:List FV}:∀ {us:List Value},aQ w B us xs→us.length=xs.length:=by
 induction xs with
 | nil=>exact fun h=>congrArg List.length h
 | cons x r ih=>intro us h;obtain⟨v,q,rfl,_,h⟩:=h.c;exact congrArg (· + 1) (ih h)
theorem aQ.get {xs:List FV}:∀ {us:List Value},aQ w B us xs→∀ {n:Nat}{x:FV},xs[n]? = some x→∃ v,us[n]? = some v∧aO w B v x:=by
 induction xs with
 | nil=>exact fun _ _ _ e=>nk3 e
 | cons y r ih =>
  intro us h n x e
  obtain⟨v,q,rfl,p,h⟩:=h.c
  cases n with
  | zero=>exact⟨v,rfl,Option.some.inj e ▸ p⟩
  | succ n=>exact ih h e
theorem aQ.append {ys:List FV}{vs:List Value} (q:aQ w B vs ys) {xs:List FV}:∀ {us:List Value},aQ w B us xs→aQ w B (us++vs) (xs++ys):=by
 induction xs with
 | nil=>intro us h;obtain rfl:=h.n;exact q
 | cons x r ih=>intro us h;obtain⟨v,u,rfl,p,h⟩:=h.c;exact .cons p (ih h)
theorem aQ.set {x:FV} (p:aO w B v x) {xs:List FV}:∀ {us:List Value},aQ w B us xs→∀ n,aQ w B (us.set n v) (xs.set n x):=by
 induction xs with
 | nil=>intro us h n;obtain rfl:=h.n;exact .nil
 | cons y r ih =>
  intro us h n;obtain⟨u,q,rfl,p',h⟩:=h.c
  cases n with
  | zero=>exact .cons p h
  | succ n=>exact .cons p' (ih h n)
theorem aQ.take {xs:List FV}:∀ {us:List Value},aQ w B us xs→∀ n,aQ w B (us.take n) (xs.take n):=by
 induction xs with
 | nil=>intro us h n;obtain rfl:=h.n;rw[List.take_nil,List.take_nil];exact .nil
 | cons y r ih =>
  intro us h n;obtain⟨u,q,rfl,p',h⟩:=h.c
  cases n with
  | zero=>exact .nil
  | succ n=>exact .cons p' (ih h n)
theorem aQ.drop {xs:List FV}:∀ {us:List Value},aQ w B us xs→∀ n,aQ w B (us.drop n) (xs.drop n):=by
 induction xs with
 | nil=>intro us h n;obtain rfl:=h.n;rw[List.drop_nil,List.drop_nil];exact .nil
 | cons y r ih =>
  intro us h n;obtain⟨u,q,rfl,p',h'⟩:=h.c
  cases n with
  | zero=>exact h
  | succ n=>exact ih h' n
theorem aQ.reverse {xs:List FV}:∀ {us:List Value},aQ w B us xs→aQ w B us.reverse xs.reverse:=by
 induction xs with
 | nil=>intro us h;obtain rfl:=h.n;exact .nil
 | cons x r ih=>intro us h;obtain⟨v,u,rfl,p,h⟩:=h.c;rw[List.reverse_cons,List.reverse_cons];exact aQ.append (.cons p .nil) (ih h)
end
inductive Slot where
 | o (a d:Addr) | l (a:Addr)
inductive bY where
 | v | c (x:Str) | g (k:Nat) | d (k:Nat) | l (k:Nat)
noncomputable def Slot.addr (s:Slot):Addr:=@Slot.rec (fun _=>Addr) (fun a _=>a) (fun a=>a) s
structure Cf where
 B:PM
 ow:Addr→Option bY
 S:List Slot
 L:List Addr
 ro:Bool
 fs:List Addr
structure Cf.le (c c':Cf):Prop where
 b:c.B.le c'.B
 s:c.S <+: c'.S
 l:c.L <+: c'.L
 ro:c.ro=c'.ro
 fs:c.fs=c'.fs
theorem Cf.le.refl (c:Cf):c.le c:=⟨.refl _,List.prefix_refl _,List.prefix_refl _,rfl,rfl⟩
theorem Cf.le.trans {c c' c'':Cf} (h:c.le c') (h':c'.le c''):c.le c'':=⟨h.b.trans h'.b,h.s.trans h'.s,h.l.trans h'.l,h.ro.trans h'.ro,h.fs.trans h'.fs⟩
theorem kA {α:Type}{l l':List α} (h:l <+: l') {n:Nat}{x:α} (e:l[n]? = some x):l'[n]? = some x:=by
 obtain⟨t,rfl⟩:=h
 rw[List.getElem?_append_left (List.getElem?_eq_some_iff.mp e).1];exact e
noncomputable def aH (w:World) (c:Cf) (v:Value) (x:PV):Prop:=@PV.rec (fun _=>Prop) (aO w c.B v) (fun k=>∃ s:Slot,v=.ref s.addr∧c.S[k]? = some s) (fun k=>∃ a,v=.ref a∧c.L[k]? = some a) x
noncomputable def aX (w:World) (c:Cf) (vs:List Value) (ws:List PV):Prop:=@List.rec PV (fun _=>List Value→Prop) (fun vs=>vs=[]) (fun x _ ih vs=>∃ v r,vs=v::r∧aH w c v x∧ih r) ws vs
noncomputable def fZ {α:Type} (R:Value→α→Prop) (es:List DictEntry) (fs:List (Str × α)):Prop:=@List.rec (Str × α) (fun _=>List DictEntry→Prop) (fun es=>es=[]) (fun x _ ih es=>∃ e r,es=e::r∧((∃ t,e.key=.str x.1 t)∧R e.val x.2)∧ih r) fs es
theorem fZ.cI {α:Type}{R:Value→α→Prop}{es:List DictEntry}{x:Str × α}{fs:List (Str × α)} (h:fZ R es (x::fs)):∃ e r,es=e::r∧((∃ t,e.key=.str x.1 t)∧R e.val x.2)∧fZ R r fs:=h
abbrev hJ (w:World) (c:Cf) (es:List DictEntry) (fs:List (Str × PV)):Prop:=fZ (aH w c) es fs
section
variable {w:World}{c c':Cf}{v:Value}
theorem aH.f {x:FV} (h:aO w c.B v x):aH w c v (.f x):=h
theorem aH.fI {x:FV} (h:aH w c v (.f x)):aO w c.B v x:=h
theorem aH.refI {k:Nat} (h:aH w c v (.ref k)):∃ s:Slot,v=.ref s.addr∧c.S[k]? = some s:=h
theorem aH.locI {k:Nat} (h:aH w c v (.loc k)):∃ a,v=.ref a∧c.L[k]? = some a:=h
theorem aH.ref {k:Nat}{sl:Slot} (h:c.S[k]? = some sl):aH w c (.ref sl.addr) (.ref k):=⟨sl,rfl,h⟩
theorem aH.loc {k:Nat}{a:Addr} (h:c.L[k]? = some a):aH w c (.ref a) (.loc k):=⟨a,rfl,h⟩
theorem aH.none:aH w c .none (.f .none):=rfl
theorem aH.bool (b:Bool):aH w c (.bool b) (.f (.bool b)):=rfl
theorem aH.int (i:Int) (t:Tok):aH w c (.int i t) (.f (.int i)):=⟨t,rfl⟩
theorem aH.str (s:List Nat) (t:Tok):aH w c (.str ⟨s.toArray⟩ t) (.f (.str s)):=⟨t,rfl⟩
theorem aH.strS (s:Str) (t:Tok):aH w c (.str s t) (.f (.str s.cps.toList)):=⟨t,rfl⟩
theorem aH.mono (l:c.le c') {x:PV} (h:aH w c v x):aH w c' v x:=by
 cases x with
 | f x=>exact h.fI.mono l.b
 | ref k=>exact h.refI.imp fun s q=>⟨q.1,kA l.s q.2⟩
 | loc k=>exact h.locI.imp fun s q=>⟨q.1,kA l.l q.2⟩
theorem aX.nil:aX w c [] []:=rfl
theorem aX.cons {x:PV}{vs:List Value}{ws:List PV} (h:aH w c v x) (r:aX w c vs ws):aX w c (v::vs) (x::ws):=⟨_,_,rfl,h,r⟩
theorem aX.c0 {vs:List Value} (p:aX w c vs []):vs=[]:=p
theorem aX.cI {vs:List Value}{x:PV}{xs:List PV} (p:aX w c vs (x::xs)):∃ v us,vs=v::us∧aH w c v x∧aX w c us xs:=p
theorem aX.c1 {vs:List Value}{x:PV} (p:aX w c vs [x]):∃ v,vs=[v]∧aH w c v x:=p.cI.elim fun v h=>h.elim fun us h=>⟨v,h.1.trans (congrArg _ h.2.2.c0),h.2.1⟩
theorem aX.c2 {vs:List Value}{x y:PV} (p:aX w c vs [x,y]):∃ v u,vs=[v,u]∧aH w c v x∧aH w c u y:=p.cI.elim fun v h=>h.elim fun us h=>h.2.2.c1.elim fun u q=>⟨v,u,h.1.trans (congrArg _ q.1),h.2.1,q.2⟩
@[elab_as_elim] theorem aH.iE {P:Value→Prop}{x:PV}{i:Int} (p:aH w c v x) (h:nF x=some i) (k:∀ t,P (.int i t)):P v:=by obtain⟨t,rfl⟩:=(Hw h ▸ p).fI.intsI;exact k t
@[elab_as_elim] theorem aH.sE {P:Value→Prop}{x:PV}{i:List Nat} (p:aH w c v x) (h:oO x=some i) (k:∀ t,P (.str ⟨i.toArray⟩ t)):P v:=by obtain⟨t,rfl⟩:=(It h ▸ p).fI.strI;exact k t
theorem aH.fE {x:PV}{y:FV} (p:aH w c v x) (h:cQ x=some y):aO w c.B v y:=(nG h ▸ p).fI
@[elab_as_elim] theorem aX.oneE {P:List Value→Prop}{vs:List Value}{ws:List PV}{u:PV} (p:aX w c vs ws) (h:one ws=some u) (k:∀ v,aH w c v u→P [v]):P vs:=by obtain⟨v,rfl,q⟩:=(eA h ▸ p).c1;exact k v q
@[elab_as_elim] theorem aX.twoE {P:List Value→Prop}{vs:List Value}{ws:List PV}{u:PV × PV} (p:aX w c vs ws) (h:mX ws=some u) (k:∀ v v',aH w c v u.1→aH w c v' u.2→P [v,v']):P vs:=by obtain⟨v,v',rfl,q,q'⟩:=(kD h ▸ p).c2;exact k v v' q q'
theorem aX.mono (l:c.le c') {ws:List PV}:∀ {vs:List Value},aX w c vs ws→aX w c' vs ws:=by
 induction ws with
 | nil=>exact fun h=>h
 | cons x r ih=>exact fun h=>h.cI.imp fun v h=>h.imp fun r h=>⟨h.1,h.2.1.mono l,ih h.2.2⟩
theorem aX.length {ws:List PV}:∀ {vs:List Value},aX w c vs ws→vs.length=ws.length:=by
 induction ws with
 | nil=>exact fun h=>congrArg List.length h
 | cons x r ih=>intro us h;obtain⟨v,q,rfl,_,h⟩:=h.cI;exact congrArg (· + 1) (ih h)
theorem hJ.nil:hJ w c [] []:=rfl
theorem hJ.map {fs:List (Str × PV)} (f:∀ x u,x ∈ fs→aH w c u x.2→aH w c' u x.2):∀ {es:List DictEntry},hJ w c es fs→hJ w c' es fs:=by
 induction fs with
 | nil=>exact fun h=>h
 | cons x r ih=>exact fun h=>(fZ.cI h).imp fun e h=>h.imp fun r h=>⟨h.1,⟨h.2.1.1,f _ _ List.mem_cons_self h.2.1.2⟩,ih (fun x u m=>f x u (List.mem_cons_of_mem _ m)) h.2.2⟩
theorem hJ.mono (l:c.le c') {es:List DictEntry}{fs:List (Str × PV)} (h:hJ w c es fs):hJ w c' es fs:=hJ.map (fun _ _ _ p=>p.mono l) h
end
noncomputable def jK (w:World) (c:Cf) (cc:List (Str × PV)) (x:Str) (o:Obj):Prop:=∃ v₀,o.data=.cell v₀∧∀ u,lk x cc=some u→∃ v,v₀=some v∧aH w c v u
noncomputable def jE (w:World) (c:Cf) (sl:Slot) (o:Obj) (m:MO):Prop:=@MO.rec (fun _=>Prop) (fun C _=>∃ a d,sl=.o a d∧o=instObj C d) (fun xs=>∃ a vs n,sl=.l a∧o=PySem.W.listOf vs.toArray n∧aQ w c.B vs xs) True m
noncomputable def Own (w:World) (env:Env) (c:Cf) (st:St) (a:Addr) (o:Obj) (t:bY):Prop:=@bY.rec (fun _=>Prop)
 (a=env.locals∧∃ es ep,o.data=.dict es ep∧StrKeys es∧∀ x u,lk x st.v=some u→∃ v,nsFind es x=some v∧aH w c v u)
 (fun x=>env.cells.lookup x=some a∧jK w c st.c x o)
 (fun k=>∃ sl:Slot,c.S[k]? = some sl∧sl.addr=a∧∀ m,st.g[k]? = some m→jE w c sl o m)
 (fun k=>∃ a',c.S[k]? = some (.o a' a)∧∀ C fs,st.g[k]? = some (.inst C fs)→∃ es n,o=dictOf es n∧hJ w c es fs)
 (fun k=>c.L[k]? = some a∧∀ xs,st.l[k]? = some (.lst xs)→∃ vs n,o=PySem.W.listOf vs.toArray n∧aQ w c.B vs xs) t
noncomputable def uJ (ow:Addr→Option bY) (k:Nat) (sl:Slot):Prop:=@Slot.rec (fun _=>Prop) (fun a d=>ow a=some (.g k)∧ow d=some (.d k)) (fun a=>ow a=some (.g k)) sl
noncomputable def nT (w:World) (H:PM) (c:Cf) (cc:List (Str × PV)) (x:Str) (a:Addr):Prop:=c.ow a=some (.c x)∨(c.ro=true∧∃ o,H a=some o∧jK w c cc x o)
structure Ix (w:World) (H:PM) (env:Env) (c:Cf) (G M:List MO) (cc:List (Str × PV)):Prop where
 loc:c.ow env.locals=some .v
 cel:∀ x a,env.cells.lookup x=some a→nT w H c cc x a
 celd:∀ x u,lk x cc=some u→(env.cells.lookup x).isSome=true
 gl:c.S.length=G.length
 g:∀ k sl,c.S[k]? = some sl→uJ c.ow k sl
 ll:c.L.length=M.length
 l:∀ k a xs,c.L[k]? = some a→M[k]? = some (.lst xs)→c.ow a=some (.l k)
 nol:∀ (k C:Nat) (fs:List (Str × PV)),M[k]? ≠ some (MO.inst C fs)
noncomputable def oJ (fs:List Addr) (h:Heap) (a:Addr) (o:Obj):Prop:=h.get? a=some o∨(a ∈ fs∧∃ sl,h.get? a=some { o with slots:=sl })
theorem oJ.slots {fs:List Addr}{h:Heap}{a:Addr}{o:Obj} (x:oJ fs h a o):∃ sl,h.get? a=.some { o with slots:=sl }:=x.elim (fun x=>⟨_,x⟩) fun x=>x.2
theorem oJ.is {fs:List Addr}{h:Heap}{a:Addr}{o:Obj} (x:oJ fs h a o) (n:a ∉ fs):h.get? a=.some o:=x.elim id fun x=>absurd x.1 n
structure aC (w:World) (H:PM) (env:Env) (c:Cf) (st:St) (h:Heap):Prop where
 b:∀ a o,c.B a=some o→h.get? a=some o
 bh:∀ a o,c.B a=some o→H a=none
 hh:∀ a o,H a=some o→oJ c.fs h a o
 fsH:∀ a,a ∈ c.fs→(H a).isSome=true
 own:∀ a t,c.ow a=some t→c.B a=none∧H a=none∧∃ o,h.get? a=some o∧Own w env c st a o t
 ix:Ix w H env c st.g st.l st.c
noncomputable def aY (h h':Heap):Prop:=∀ a o,h.get? a=some o→h'.get? a=some o
theorem aY.refl (h:Heap):aY h h:=fun _ _ e=>e
theorem aY.trans {h h' h'':Heap} (x:aY h h') (y:aY h' h''):aY h h'':=fun a o e=>y a o (x a o e)
theorem aY.push (h:Heap) (o:Obj):aY h (h.push o):=fun _ _ e=>Heap.get?_push_of_some _ e
theorem oJ.grows {fs:List Addr}{h h':Heap} (x:aY h h') {a:Addr}{o:Obj} (y:oJ fs h a o):oJ fs h' a o:=y.imp (x _ _) fun q=>⟨q.1,q.2.imp fun _=>x _ _⟩
noncomputable def iN {α:Type} (f:Addr→Option α) (a:Addr) (x:Option α):Addr→Option α:=fun b=>if b=a then x else f b
theorem gS {α:Type}{f:Addr→Option α}{a:Addr}{x:Option α}:iN f a x a=x:=if_pos rfl
theorem eZ {α:Type}{f:Addr→Option α}{a b:Addr}{x:Option α} (h:b ≠ a):iN f a x b=f b:=if_neg h
theorem jS {α:Type}{f:Addr→Option α}{a b:Addr}{x y:Option α}{P:Prop} (e:iN f a x b=y) (h1:b=a→x=y→P) (h2:b ≠ a→f b=y→P):P :=
 (Classical.em (b=a)).elim (fun h=>h1 h (by rw[h,gS]at e;exact e)) fun h=>h2 h ((eZ h).symm.trans e)
theorem qL {α:Type}{f:Addr→Option α}{a b:Addr}{x:Option α}{y:α} (n:f a=none) (e:f b=some y):iN f a x b=some y:=(eZ fun z=>nk3 (n.symm.trans (z ▸ e))).trans e
theorem lF {w:World}{c c':Cf} (l:c.le c') {v₀:Option Value}{u:PV} (h:∃ v,v₀=some v∧aH w c v u):∃ v,v₀=some v∧aH w c' v u:=h.imp fun _ q=>⟨q.1,q.2.mono l⟩
section
variable {w:World}{H:PM}{env:Env}{c c':Cf}{st:St}{h h':Heap}
theorem jK.mono {cc:List (Str × PV)}{x:Str}{o:Obj} (l:c.le c') (h:jK w c cc x o):jK w c' cc x o:=h.imp fun _ q=>⟨q.1,fun u e=>lF l (q.2 u e)⟩
theorem jE.mono {sl:Slot}{o:Obj}{m:MO} (l:c.B.le c'.B) (h:jE w c sl o m):jE w c' sl o m:=by
 cases m with
 | inst=>exact h
 | lst xs=>exact Exists.imp (fun a q=>q.imp fun vs q=>q.imp fun n q=>⟨q.1,q.2.1,q.2.2.mono l⟩) h
 | dead=>exact h
theorem Own.mono {a:Addr}{o:Obj}{t:bY} (l:c.le c') (h:Own w env c st a o t):Own w env c' st a o t:=by
 cases t with
 | v=>exact And.imp_right (fun q=>q.imp fun _ q=>q.imp fun _ q=>⟨q.1,q.2.1,fun x u e=>lF l (q.2.2 x u e)⟩) h
 | c x=>exact And.imp_right (jK.mono l) h
 | g k=>exact Exists.imp (fun sl q=>⟨kA l.s q.1,q.2.1,fun m e=>(q.2.2 m e).mono l.b⟩) h
 | d k=>exact Exists.imp (fun sl q=>⟨kA l.s q.1,fun C fs e=>(q.2 C fs e).imp fun _ q=>q.imp fun _ q=>⟨q.1,q.2.mono l⟩⟩) h
 | l k=>exact⟨kA l.l h.1,fun xs e=>(h.2 xs e).imp fun _ q=>q.imp fun _ q=>⟨q.1,q.2.mono l.b⟩⟩
theorem jE.instI {a d C:Addr}{fs:List (Str × PV)}:jE w c (.o a d) (instObj C d) (.inst C fs):=⟨a,d,rfl,rfl⟩
theorem jE.lstI {a:Addr}{vs:List Value}{n:Nat}{xs:List FV} (f:aQ w c.B vs xs):jE w c (.l a) (PySem.W.listOf vs.toArray n) (.lst xs):=⟨a,vs,n,rfl,rfl,f⟩
theorem Own.gI {a:Addr}{o:Obj}{k:Nat}{sl:Slot} (hS:c.S[k]? = some sl) (ha:sl.addr=a) (f:∀ m,st.g[k]? = some m→jE w c sl o m):Own w env c st a o (.g k):=⟨sl,hS,ha,f⟩
theorem Own.dI {a a':Addr}{o:Obj}{k:Nat} (hS:c.S[k]? = some (.o a' a)) (f:∀ C fs,st.g[k]? = some (.inst C fs)→∃ es n,o=dictOf es n∧hJ w c es fs):Own w env c st a o (.d k):=⟨a',hS,f⟩
theorem Own.lI {a:Addr}{o:Obj}{k:Nat} (hL:c.L[k]? = some a) (f:∀ xs,st.l[k]? = some (.lst xs)→∃ vs n,o=PySem.W.listOf vs.toArray n∧aQ w c.B vs xs):Own w env c st a o (.l k):=⟨hL,f⟩
theorem aC.owB (R:aC w H env c st h) {a:Addr}{t:bY} (e:c.ow a=some t):c.B a=none:=(R.own a t e).1
theorem aC.owH (R:aC w H env c st h) {a:Addr}{t:bY} (e:c.ow a=some t):H a=none:=(R.own a t e).2.1
theorem aC.owG (R:aC w H env c st h) {a:Addr}{t:bY} (e:c.ow a=some t):∃ o,h.get? a=some o∧Own w env c st a o t:=(R.own a t e).2.2
theorem aC.frz (R:aC w H env c st h) (g:aY h h') {B':PM} (hb:c.B.le B') (hB:∀ a o,B' a=some o→h'.get? a=some o∧H a=none∧c.ow a=none):c.le { c with B:=B' }∧aC w H env { c with B:=B' } st h':=by
 have l:c.le { c with B:=B' }:=⟨hb,List.prefix_refl _,List.prefix_refl _,rfl,rfl⟩
 refine⟨l,fun a o e=>(hB a o e).1,fun a o e=>(hB a o e).2.1,fun a o e=>(R.hh a o e).grows g,R.fsH,fun a t e=>⟨?_,R.owH e,(R.owG e).imp fun o q=>⟨g _ _ q.1,q.2.mono l⟩⟩,R.ix.loc,fun x a e=>(R.ix.cel x a e).imp id fun q=>⟨q.1,q.2.imp fun o q=>⟨q.1,q.2.mono l⟩⟩,R.ix.celd,R.ix.gl,R.ix.g,R.ix.ll,R.ix.l,R.ix.nol⟩
 cases q:B' a with
 | none=>exact q
 | some o=>exact nk3 ((hB a o q).2.2.symm.trans e)
theorem aC.grows (R:aC w H env c st h) (g:aY h h'):aC w H env c st h':=(R.frz g (.refl _) fun a o e=>⟨g _ _ (R.b a o e),R.bh a o e,by
 cases q:c.ow a with
 | none=>rfl
 | some t=>exact nk3 ((R.owB q).symm.trans e)⟩).2
noncomputable def Cf.freeze (c:Cf) (a:Addr) (o:Obj):Cf:={ c with B:=iN c.B a (some o) }
theorem aC.free (R:aC w H env c st h) {a:Addr} (ha:h.get? a=none):c.B a=none∧H a=none∧c.ow a=none:=by
 refine⟨?_,?_,?_⟩
 ·cases q:c.B a with
  | none=>rfl
  | some o=>exact nk3 (ha.symm.trans (R.b _ _ q))
 ·cases q:H a with
  | none=>rfl
  | some o=>obtain⟨sl,e⟩:=(R.hh _ _ q).slots;exact nk3 (ha.symm.trans e)
 ·cases q:c.ow a with
  | none=>rfl
  | some t=>obtain⟨o,e,_⟩:=R.owG q;exact nk3 (ha.symm.trans e)
theorem get?_size (h:Heap):h.get? h.objs.size=none:=by
 cases q:h.get? h.objs.size with
 | none=>rfl
 | some o=>exact absurd (Heap.lt_size q) (Nat.lt_irrefl _)
theorem aC.none_of_size (R:aC w H env c st h):c.B h.objs.size=none∧H h.objs.size=none∧c.ow h.objs.size=none:=R.free (get?_size h)
theorem aC.freezeAt (R:aC w H env c st h) {a:Addr}{o:Obj} (g:aY h h') (ho:h'.get? a=some o) (hB:c.B a=none) (hH:H a=none) (hw:c.ow a=none):aC w H env (c.freeze a o) st h'∧c.le (c.freeze a o)∧(c.freeze a o).B a=some o :=
 have R':=R.grows g
 have q:=R.frz g (B':=iN c.B a (some o)) (fun b x e=>qL hB e) fun b x e=>jS e (fun z1 z2=>⟨z1 ▸ z2 ▸ ho,z1 ▸ hH,z1 ▸ hw⟩) fun _ z=>⟨R'.b _ _ z,R'.bh _ _ z,by
  cases q:c.ow b with
  | none=>rfl
  | some t=>exact nk3 ((R.owB q).symm.trans z)⟩
 ⟨q.2,q.1,gS⟩
theorem aC.newAt (R:aC w H env c st h) {a:Addr}{o:Obj} (g:aY h h') (ha:h.get? a=none) (ho:h'.get? a=some o):aC w H env (c.freeze a o) st h'∧c.le (c.freeze a o)∧(c.freeze a o).B a=some o :=
 R.freezeAt g ho (R.free ha).1 (R.free ha).2.1 (R.free ha).2.2
theorem aC.newF (R:aC w H env c st h) (o:Obj) (ho:o.isFreed=false:=by rfl):aC w H env (c.freeze h.objs.size o) st (h.push o)∧c.le (c.freeze h.objs.size o)∧(c.freeze h.objs.size o).B h.objs.size=some o :=
 R.newAt (aY.push h o) (get?_size h) (Heap.get?_push_size _ ho)
theorem aC.set (R:aC w H env c st h) {a:Addr}{t:bY}{o':Obj}{st':St} (hw:c.ow a=some t) (hs:∀ b,b ≠ a→h'.get? b=h.get? b) (ha:h'.get? a=some o') (ho:Own w env c st' a o' t) (ix:Ix w H env c st'.g st'.l st'.c) (k:∀ b o u,b ≠ a→Own w env c st b o u→Own w env c st' b o u):aC w H env c st' h' where
 b b o e:=(hs b fun z=>nk3 ((R.owB hw).symm.trans (z ▸ e))).trans (R.b b o e)
 bh:=R.bh
 hh b o e:=by unfold oJ;rw[hs b fun z=>nk3 ((R.owH hw).symm.trans (z ▸ e))];exact R.hh b o e
 fsH:=R.fsH
 own b u e:=⟨R.owB e,R.owH e,(Classical.em (b=a)).elim (fun z=>⟨o',z ▸ ha,by rw[z,hw]at e;rw[z,← Option.some.inj e];exact ho⟩) fun z=>(R.owG e).imp fun o q=>⟨(hs b z).trans q.1,k b o u z q.2⟩⟩
 ix:=ix
theorem dJ {α:Type}{l:List α}{n:Nat}{x:α} (e:l[n]? = some x):n < l.length:=(List.getElem?_eq_some_iff.mp e).1
theorem aC.setV (R:aC w H env c st h) {x:Str}{v:Value}{u:PV} (hs:Heap.SameBut env.locals h h') (hn:h.Ns env.locals m) (hn':h'.Ns env.locals (fun y=>if y=x then some v else m y)) (p:aH w c v u):aC w H env c { st with v:=put x u st.v } h':=by
 obtain⟨o',es',ep',e1,e2,e3,e4⟩:=hn'
 obtain⟨o,es,ep,f1,f2,f3,f4⟩:=hn
 obtain⟨o₂,q1,_,es₂,ep₂,q2,q3,q4⟩:=R.owG R.ix.loc
 obtain rfl:=Option.some.inj (f1.symm.trans q1)
 have hes:es=es₂:=by rw[f2]at q2;injection q2
 subst hes
 refine R.set R.ix.loc hs.2 e1 ⟨rfl,es',ep',e2,e3,fun y z e=>zQ e (fun a b=>⟨v,(e4 y).trans (if_pos a),Option.some.inj b ▸ p⟩) fun a b=>(q4 y z b).imp fun u' q=>⟨((e4 y).trans (if_neg a)).trans ((f4 y).symm.trans q.1),q.2⟩⟩ ⟨R.ix.loc,R.ix.cel,R.ix.celd,R.ix.gl,R.ix.g,R.ix.ll,R.ix.l,R.ix.nol⟩ fun b o t nb q=>?_
 cases t with
 | v=>exact absurd q.1 nb
 | _=>exact q
theorem aC.setC (R:aC w H env c st h) {x:Str}{a:Addr}{v:Value}{u:PV} (hx:env.cells.lookup x=some a) (hw:c.ow a=some (.c x)) (hs:Heap.SameBut a h h') (hc:h'.IsCell a (some v)) (p:aH w c v u):aC w H env c { st with c:=put x u st.c } h':=by
 obtain⟨o',e1,e2⟩:=hc
 have other:∀ {y:Str}{o:Obj},y ≠ x→jK w c st.c y o→jK w c (put x u st.c) y o:=fun n q=>q.imp fun _ q=>⟨q.1,fun z e=>q.2 z ((rA n _).symm.trans e)⟩
 have ne:∀ {y:Str}{b:Addr},b ≠ a→env.cells.lookup y=some b→y ≠ x:=fun n e z=>n (Option.some.inj (e.symm.trans (z ▸ hx)))
 refine R.set hw hs.2 e1 ⟨hx,some v,e2,fun z e=>⟨v,rfl,Option.some.inj ((rB rfl _).symm.trans e) ▸ p⟩⟩ ⟨R.ix.loc,fun y b e=>?_,fun y z e=>zQ e (fun q _=>by rw[q,hx];rfl) fun _ q=>R.ix.celd y z q,R.ix.gl,R.ix.g,R.ix.ll,R.ix.l,R.ix.nol⟩ fun b o t nb q=>?_
 ·by_cases n:b=a
  ·refine(R.ix.cel y b e).elim .inl fun q=>?_
   obtain⟨_,o,q,_⟩:=q
   exact nk3 ((R.owH hw).symm.trans (n ▸ q))
  ·exact(R.ix.cel y b e).imp id fun q=>⟨q.1,q.2.imp fun o q=>⟨q.1,other (ne n e) q.2⟩⟩
 ·cases t with
  | c y=>exact⟨q.1,other (ne nb q.1) q.2⟩
  | _=>exact q
theorem aC.setL (R:aC w H env c st h) {k:Nat}{a:Addr}{m:MO}{xs:List FV}{vs:List Value}{n:Nat} (hL:c.L[k]? = some a) (hw:c.ow a=some (.l k)) (hs:∀ b,b ≠ a→h'.get? b=h.get? b) (ho:h'.get? a=some (PySem.W.listOf vs.toArray n)) (hf:aQ w c.B vs xs):aC w H env c { st with l:=e8 st.l k (.lst xs) } h':=by
 refine R.set hw hs ho ⟨hL,fun ys e=>dZ e (fun _ _ q=>⟨vs,n,rfl,by cases Option.some.inj q;exact hf⟩) (fun z=>absurd rfl z) fun z=>?_⟩ ⟨R.ix.loc,R.ix.cel,R.ix.celd,R.ix.gl,R.ix.g,(R.ix.ll).trans (kH _ _ _).symm,fun j b ys e1 e2=>dZ e2 (fun q _ _=>?_) (fun _ q=>R.ix.l j b ys e1 q) fun q=>?_,fun j C fs e=>dZ e (fun _ _ q=>by cases q) (fun _ q=>R.ix.nol j C fs q) fun q=>?_⟩ fun b o t nb q=>?_
 ·exact absurd (dJ hL) (Nat.not_lt.mpr (R.ix.ll ▸ List.getElem?_eq_none_iff.mp z))
 ·subst q;rw[← Option.some.inj (hL.symm.trans e1)];exact hw
 ·exact absurd (dJ e1) (Nat.not_lt.mpr (R.ix.ll ▸ List.getElem?_eq_none_iff.mp q))
 ·have:=dJ e;rw[kH]at this;exact absurd this (Nat.not_lt.mpr (List.getElem?_eq_none_iff.mp q))
 ·cases t with
  | l j=>exact⟨q.1,fun ys e=>dZ e (fun z=>by subst z;exact absurd (Option.some.inj (q.1.symm.trans hL)) nb) (fun _ z=>q.2 ys z) fun z=>absurd (dJ q.1) (Nat.not_lt.mpr (R.ix.ll ▸ List.getElem?_eq_none_iff.mp z))⟩
  | _=>exact q
end
end Mine
end
section
namespace Mine
structure zW where
 base:Heap
 H0:PM
structure Fr where
 A:Around
 env:Env
 fenv:Env
 outer:List Env
 ro:Bool
structure Gm where
 w:World
 K:Frag
 T:bQ
 X:zW
 C:bW
 n:Nat
inductive KM (base:Heap) (h:Heap) (e:Addr) (cls:Value) (LF:Addr):Prop where
 | new (oe:Obj) (vs:Array Value) (he:h.get? e=some oe) (hc:oe.cls=cls) (hd:oe.data=.fields vs) (h1:vs[1]? = some .none)
 | out (tr:h.Traced base e cls)
 | here (oe:Obj) (vs:Array Value) (T:Addr) (oT:Obj) (ts:Array Value) (he:h.get? e=some oe) (hc:oe.cls=cls) (hd:oe.data=.fields vs) (h1:vs[1]? = some (.ref T)) (hT:base.get? T=none) (hne:T ≠ e)
   (hoT:h.get? T=some oT) (hdT:oT.data=.fields ts) (h3:ts[3]? = some (rawInt LF))
noncomputable def aS (s s':Shared):Prop:=s'.gens=s.gens∧s'.os=s.os
theorem aS.refl (s:Shared):aS s s:=⟨rfl,rfl⟩
theorem aS.trans {s s' s'':Shared} (x:aS s s') (y:aS s' s''):aS s s'':=⟨y.1.trans x.1,y.2.trans x.2⟩
section
variable (Γ:Gm)
structure Up (F:Fr) (e:Value) (h:Heap):Prop where
 is:∃ a LF,e=.ref a∧F.fenv.frame=some LF∧Γ.X.base.get? a=none∧KM Γ.X.base h a (.ref Γ.T.fail) LF
 stays:Γ.X.base.StaysIn h
 frames:h.FunFrames Γ.X.base (F.fenv::F.outer)
 keep:∀ a o,Γ.X.H0 a=some o→(∀ vs,o.data ≠ .fields vs)→∃ sl,h.get? a=some { o with slots:=sl }
structure Ok (H:PM) (F:Fr) (c:Cf):Prop where
 ro:c.ro=F.ro
 k:∀ a o,Γ.K.lookup a=some o→c.B a=some o
 base:∀ a o,Γ.X.base.get? a=some o→c.B a=some o∨(H a=some o∧a ∉ c.fs)
 h0:∀ a o,Γ.X.H0 a=some o→H a=some o
 outer:∀ e ∈ F.outer,e.scope.kind ≠ .module∧∃ L o,e.frame=some L∧Γ.X.base.get? L=none∧H L=some o∧L ∈ c.fs∧∀ vs,o.data ≠ .fields vs
 fkind:F.fenv.scope.kind ≠ .module
 fframe:∃ L,F.fenv.frame=some L∧Γ.X.base.get? L=none∧(L=F.env.locals∨∃ o,H L=some o∧L ∈ c.fs∧∀ vs,o.data ≠ .fields vs)
 fsD:∀ a,a ∈ c.fs→∃ o,H a=some o∧∀ vs,o.data ≠ .fields vs
theorem Ok.mono {H:PM}{F:Fr}{c c':Cf} (x:Ok Γ H F c) (l:c.le c'):Ok Γ H F c' :=
 ⟨l.ro ▸ x.ro,fun a o e=>l.b _ _ (x.k a o e),fun a o e=>(x.base a o e).imp (l.b _ _) fun q=>⟨q.1,l.fs ▸ q.2⟩,x.h0,l.fs ▸ x.outer,x.fkind,l.fs ▸ x.fframe,l.fs ▸ x.fsD⟩
structure aV (F:Fr) (cx:Cx):Prop where
 kind:F.env.scope.kind=.function
 names:∀ x k,kindOf cx.sc x=some k→k ≠ .free→F.env.kindOf x=some k
 free:∀ x,kindOf cx.sc x=some .free→F.env.kindOf x=some .free∨F.env.kindOf x=some .cell
 cells:∀ x,kindOf cx.sc x=some .cell→F.ro=false∧(F.env.cells.lookup x).isSome=true
 globals:F.env.globals=mainGlobals
 builtins:F.env.builtins=builtinsNs
 handled:F.A.handled=none
 frames:F.A.frames=some (F.fenv::F.outer)
 frame:F.env.frame=F.fenv.frame
 depth:F.A.depth + 3 * Γ.n + 6 ≤ recursionLimit
 units:F.A.units + 8 * Γ.n + 40 ≤ cLine
structure aG {α β:Type} (V:Cf→α→β→Prop) (H:PM) (F:Fr) (x:Pg (β × St)) (c:Cf) (s:Shared) (Q:α→Shared→Prop) (E:Value→Shared→Prop):Prop where
 ok:∀ b st',aN Γ.C x=.ok (b,st')→∀ c' a s',c.le c'→aC Γ.w H F.env c' st' s'.heap→V c' a b→aS s s'→Q a s'
 raise:aN Γ.C x=.raise→∀ e s',Up Γ F e s'.heap→aS s s'→E e s'
 go:aN Γ.C x ≠ .stuck
noncomputable def TG {α β:Type} (V:Cf→α→β→Prop) (H:PM) (F:Fr) (st:St) (x:Pg (β × St)) (t:Sem α):Prop :=
 ∀ (c:Cf) (s:Shared) (Q:α→Shared→Prop) (E:Value→Shared→Prop),Ok Γ H F c→aC Γ.w H F.env c st s.heap→aG Γ V H F x c s Q E→wpAny (model pw Γ.w) F.A t Q E s
end
theorem aZ {α β:Type} (C:bW) (x:Pg α) (f:α→Pg β):aN C (x.bind f)=(aN C x).bind fun a=>aN C (f a):=by
 induction x with
 | ask c m q k ih =>
  show(lD c (q.run C)).bind (fun r=>aN C ((k r).bind f))=((lD c (q.run C)).bind fun r=>aN C (k r)).bind fun a=>aN C (f a)
  cases lD c (q.run C) with
  | ok r=>exact ih r
  | _=>rfl
 | _=>rfl
theorem OO {α β:Type}{x:O α}{f:α→O β}{b:β}{P:Prop} (e:x.bind f=.ok b) (k:∀ a,x=.ok a→f a=.ok b→P):P:=by
 cases x with
 | ok a=>exact k a rfl e
 | stuck=>exact nk1 e
 | raise=>exact nk2 e
theorem vH {α β:Type}{C:bW}{x:Pg α}{f:α→Pg β}{b:β}{P:Prop} (e:aN C (x.bind f)=.ok b) (k:∀ a,aN C x=.ok a→aN C (f a)=.ok b→P):P:=OO ((aZ C x f).symm.trans e) k
theorem Al {α β:Type}{C:bW}{x:Option α}{k:α→Pg β}{b:β}{P:Prop} (e:aN C (opt x k)=.ok b) (f:∀ a,x=some a→aN C (k a)=.ok b→P):P:=by
 cases x with
 | none=>exact nk1 e
 | some a=>exact f a rfl e
section
variable {Γ:Gm}{α β γ δ:Type}{V:Cf→α→β→Prop}{V₁:Cf→γ→δ→Prop}{H:PM}{F:Fr}{c c':Cf}{s s':Shared}{Q:α→Shared→Prop}{E:Value→Shared→Prop}{st:St}
theorem aG.mono {x:Pg (β × St)} (g:aG Γ V H F x c s Q E) (l:c.le c') (q:aS s s'):aG Γ V H F x c' s' Q E :=
 ⟨fun b st' e c'' a s'' l' R v z=>g.ok b st' e c'' a s'' (l.trans l') R v (q.trans z),fun e x s'' u z=>g.raise e x s'' u (q.trans z),g.go⟩
theorem aG.step {x:Pg (δ × St)}{k:δ × St→Pg (β × St)}{r:δ × St} (g:aG Γ V H F (x.bind k) c s Q E) (e:aN Γ.C x=.ok r) (l:c.le c') (z:aS s s'):aG Γ V H F (k r) c' s' Q E:=by
 have d:=aZ Γ.C x k
 rw[e]at d
 have g':=g.mono l z
 exact⟨fun b st' e=>g'.ok b st' (d.trans e),fun e=>g'.raise (d.trans e),fun e=>g'.go (d.trans e)⟩
theorem aG.bindC {x:Pg (δ × St)}{k:δ × St→Pg (β × St)}{Q₁:γ→Shared→Prop}{P:Prop} (g:aG Γ V H F (x.bind k) c s Q E) (h₁:aG Γ V₁ H F x c s Q₁ E→P) (o:Ok Γ H F c)
  (n:∀ b st' c' a s',aN Γ.C x=.ok (b,st')→c.le c'→Ok Γ H F c'→aC Γ.w H F.env c' st' s'.heap→V₁ c' a b→aS s s'→aG Γ V H F (k (b,st')) c' s' Q E→Q₁ a s'):P:=by
 have d:=aZ Γ.C x k
 exact h₁ ⟨fun b st' e c' a s' l R' v z=>n b st' c' a s' e l (o.mono _ l) R' v z (g.step e l z),fun e x s' u z=>g.raise (by rw[d,e];rfl) x s' u z,fun e=>g.go (by rw[d,e];rfl)⟩
theorem aG.bind {x:Pg (δ × St)}{k:δ × St→Pg (β × St)}{t₁:Sem γ}{Q₁:γ→Shared→Prop} (g:aG Γ V H F (x.bind k) c s Q E) (h₁:TG Γ V₁ H F st x t₁) (o:Ok Γ H F c) (R:aC Γ.w H F.env c st s.heap)
  (n:∀ b st' c' a s',aN Γ.C x=.ok (b,st')→c.le c'→Ok Γ H F c'→aC Γ.w H F.env c' st' s'.heap→V₁ c' a b→aS s s'→aG Γ V H F (k (b,st')) c' s' Q E→Q₁ a s'):wpAny (model pw Γ.w) F.A t₁ Q₁ E s :=
 g.bindC (fun a=>h₁ c s Q₁ E o R a) o n
theorem aG.bif {b:Bool}{x y:Pg (β × St)}{P:Prop} (g:aG Γ V H F (bif b then x else y) c s Q E) (k:b=true→aG Γ V H F x c s Q E→P) (m:b=false→aG Γ V H F y c s Q E→P):P:=by
 cases b with
 | true=>exact k rfl g
 | false=>exact m rfl g
theorem aG.opt {y:Option δ}{k:δ→Pg (β × St)}{P:Prop} (g:aG Γ V H F (Mine.opt y k) c s Q E) (f:∀ a,y=some a→aG Γ V H F (k a) c s Q E→P):P:=by
 cases y with
 | none=>exact absurd rfl g.go
 | some a=>exact f a rfl g
theorem aG.f {a:PV}{k:FV→Pg (β × St)}{P:Prop} (g:aG Γ V H F (Mine.opt (cQ a) k) c s Q E) (f:∀ x,a=.f x→aG Γ V H F (k x) c s Q E→P):P:=g.opt fun x e g=>f x (nG e) g
theorem aG.gp {b:Bool}{x:Pg (β × St)}{P:Prop} (g:aG Γ V H F (Mine.gp b x) c s Q E) (f:b=true→aG Γ V H F x c s Q E→P):P:=by
 cases b with
 | false=>exact absurd rfl g.go
 | true=>exact f rfl g
theorem aG.qB {m:Nat}{y:Option Bool}{k:Bool→Pg (β × St)}{P:Prop} (g:aG Γ V H F (Mine.qB m y k) c s Q E) (f:∀ a,y=some a→aG Γ V H F (k a) c s Q E→P):P:=by
 cases y with
 | none=>exact absurd rfl g.go
 | some a=>exact f a rfl ⟨g.ok,g.raise,g.go⟩
theorem aG.qV {m:Nat}{y:St→Option PV}{k:PV→Pg (β × St)}{P:Prop} (g:aG Γ V H F (Mine.qV m y st k) c s Q E) (f:∀ a,y st=some a→aG Γ V H F (k a) c s Q E→P):P:=by
 have e:∀ z,y st=z→aN Γ.C (Mine.qV m y st k)=(eF z).bind fun r=>aN Γ.C (k r):=fun z e=>e ▸ rfl
 cases h:y st with
 | none=>exact absurd (e _ h) g.go
 | some a=>have e:=e _ h;exact f a h ⟨fun b st' q=>g.ok b st' (e.trans q),fun q=>g.raise (e.trans q),fun q=>g.go (e.trans q)⟩
theorem aG.qS {m:Nat}{y:Option (PV × St)}{V:Cf→α→PV→Prop}{P:Prop} (g:aG Γ V H F (Mine.qS m y) c s Q E) (f:∀ a st',y=some (a,st')→aG Γ V H F (.ok (a,st')) c s Q E→P):P:=by
 cases y with
 | none=>exact absurd rfl g.go
 | some a=>exact f a.1 a.2 rfl ⟨g.ok,g.raise,g.go⟩
theorem aG.done {b:β} (g:aG Γ V H F (.ok (b,st)) c s Q E) {a:α} (R:aC Γ.w H F.env c st s.heap) (v:V c a b):Q a s:=g.ok b st rfl c a s (.refl c) R v (.refl s)
theorem aG.done' {b:β} (g:aG Γ V H F (.ok (b,st)) c s Q E) {a:α} (l:c.le c') (R:aC Γ.w H F.env c' st s'.heap) (v:V c' a b) (z:aS s s'):Q a s':=g.ok b st rfl c' a s' l R v z
theorem aG.stuck {P:Prop} (g:aG Γ V H F (.stuck:Pg (β × St)) c s Q E):P:=absurd rfl g.go
theorem aG.oe {y:Option γ}{k:γ→Pg (β × St)}{x:Pg (β × St)}{P:Prop} (g:aG Γ V H F (Mine.oe y k x) c s Q E) (f:∀ a,y=some a→aG Γ V H F (k a) c s Q E→P) (n:y=none→aG Γ V H F x c s Q E→P):P:=by
 cases y with
 | none=>exact n rfl g
 | some a=>exact f a rfl g
end
inductive Ah (K:Frag) (a:Addr) (fi:FI):Prop where
 | mk (o:Obj) (fd:FuncData) (h1:K.lookup a=some o) (h2:o.data=.func fd) (h3:fd.body=.stmts fi.body) (h4:fd.scope=fi.sc) (h5:fd.closure=[]) (h6:fd.globals=mainGlobals) (h7:fd.builtins=builtinsNs) (h8:codeIn K fd.code fd.qualname=true) (h9:fi.sc.isCoroutine=false) (h10:fi.sc.isGenerator=false) (h11:fi.sc.kind=.function) (h12:(∀ vals:List Value,vals.length=fi.ps.length→bindArgs fd ⟨vals,[]⟩=pure (fi.ps.zip vals))) (h13:fi.ps.Nodup):Ah K a fi
structure cW (w:World) (K:Frag) (T:bQ):Prop where
 glob:∀ x y,lk x T.glob=some y→∃ v,(nsIn K mainGlobals x=some (some v)∨(nsIn K mainGlobals x=some none∧nsIn K builtinsNs x=some (some v)))∧aO w (fun a=>K.lookup a) v y
 isi:∀ (tv c:Nat ⊕ Ty) (x t:FV),rW T x=some tv→Ag T t=some c→kitOne K (jN tv) (jN c)=some (FM tv c)
 isiO:∀ D,D ∈ T.isiC→plainGet K D "__class__" = true∧hasDictIn K D=true∧findIn K (.ref D) "__class__" = some (some (.builtin "object.__class__"))∧specialIn K (.builtin "object.__class__") "__get__" = some (some (.builtin "getset_descriptor.__get__"))∧takesIn K (.builtin "object.__class__")=some true∧mroIn K D (.type "object")=some true
 mods:∃ o,K.lookup sysModules=some o
 nolim:∀ h:Heap,K.In h→h.NoLimit
 fnI:∀ a p fi,iS a T.fns=some p→tR p.1 p.2=some fi→Ah K a fi
 fnK:∀ a p,iS a T.fns=some p→keepIn K (.ref a)=true
 clsK:∀ a p,iS a T.clss=some p→keepIn K (.ref a)=true∧makesIn K a=true∧findIn K (.ref a) "__init__" = some (some (.ref p.2))∧typeIn K (.ref p.2)=some (.type "function")
 meth:∀ C ms n a,iS C T.meths=some ms→lk n ms=some a→plainGet K C n=true∧findIn K (.ref C) n=some (some (.ref a))∧typeIn K (.ref a)=some (.type "function")∧keepIn K (.ref a)=true
 fld:∀ C a,nE T C a=true→plainGet K C a=true∧hasDictIn K C=true∧(∃ attr,findIn K (.ref C) a=some attr∧noGet K attr=true)∧findIn K (.ref C) "__setattr__" = some (some (.builtin "object.__setattr__"))∧plainOver K C=true∧takerIn K C a=some none
abbrev VB (c:Cf) (b:Bool) (b':Bool):Prop:=b=b'
abbrev VU (c:Cf) (b:Unit) (b':Unit):Prop:=True
noncomputable def cD (Γ:Gm) (H:PM) (ih:Cx→Expr→St→Pg (PV × St)):Prop :=
 ∀ (F:Fr) (cx:Cx) (e:Expr) (st:St),aV Γ F cx→TG Γ (aH Γ.w) H F st (ih cx e st) (eval e F.env)
abbrev BY (Q:Value→Shared→Prop) (E:Value→Shared→Prop) (r:Result) (s:Shared):Prop:=match r with
 | .ok (.ret v)=>Q v s
 | .ok _=>False
 | .error e=>E e s
noncomputable def fH (w:World) (K:Frag) (T:bQ) (n:Nat) (C:bW):Prop :=
 ∀ (A:Around) (X:zW) (H:PM) (F:Fr) (st:St) (m a:Nat) (vs:List Value) (ws:List PV) (c:Cf) (s:Shared) (Q:Value→Shared→Prop) (E:Value→Shared→Prop),A.frames=some (F.fenv::F.outer)→A.handled=none→A.depth + 3 * n + 4 ≤ recursionLimit→A.units + 8 * n + 36 ≤ cLine →
  Ok ⟨w,K,T,X,C,n⟩ H F c→aC w H F.env c st s.heap→aX w c vs ws →
  aG ⟨w,K,T,X,C,n⟩ (aH w) H F (qC m a ws st.g fun q=>.ok (q.1,{ st with g:=q.2 })) c s Q E→codeAny (model pw w) A (.call (.ref a) ⟨vs,[]⟩) (BY Q E) s
end Mine
end
section
namespace Mine
section
variable {Γ:Gm}{H:PM}{F:Fr}{cx:Cx}{c:Cf}{s:Shared}{st:St}{Q:Value→Shared→Prop}{E:Value→Shared→Prop}
theorem Ok.kin {h:Heap} (o:Ok Γ H F c) (R:aC Γ.w H F.env c st h):Γ.K.In h:=fun a x e=>R.b a x (o.k a x e)
theorem E1 {co:Const}{k:Nat}{p:Pos}:TG Γ (aH Γ.w) H F st (opt (Df co) fun w=>.ok (w,st)) (eval (.Constant co k p) F.env):=by
 intro c s Q E o R g
 cases co with
 | none=>exact wpAny_Constant_none (g.done R .none)
 | bool b=>exact wpAny_Constant_bool (g.done R (.bool b))
 | int i=>exact wpAny_Constant_int (g.done' (.refl c) R (.int i _) ⟨rfl,rfl⟩)
 | str x=>exact Calls.Constant_str (g.done' (.refl c) R (.strS x _) ⟨rfl,rfl⟩)
 | _=>exact absurd rfl g.go
theorem iV {x:Str}{k:NameKind}{sc:Scope} (h:kindOf sc x=some k):(x == ("__debug__" : Str))=false∧(x == ("__classdict__" : Str))=false :=
 aD h fun h1 h=>aD h fun h2 _=>⟨beq_eq_false_iff_ne.mpr (D8 (gU h1)),beq_eq_false_iff_ne.mpr (D8 (gU h2))⟩
theorem dT {sc:Scope}{x:Str}{k:NameKind} (h:kindOf sc x=some k):sc.names.lookup x=some k:=aD h fun _ h=>aD h fun _ h=>(fW _ _).symm.trans h
theorem zA (hK:cW Γ.w Γ.K Γ.T) {env:Env} (hg:env.globals=mainGlobals) (hb:env.builtins=builtinsNs) (KI:Γ.K.In s.heap) {A:Around}{x:Str}{y:FV} (h:lk x Γ.T.glob=some y) (q:∀ v,aO Γ.w (fun a=>Γ.K.lookup a) v y→Q v s):wpAny (model pw Γ.w) A (loadGlobal env x) Q E s:=by
 obtain⟨v,hv,fv⟩:=hK.glob x y h
 unfold loadGlobal
 rw[hg,hb]
 exact hv.elim (fun hv=>wpAny_bind ((looks_nsIn KI hv).here (wpAny_pure (q v fv)))) fun h=>wpAny_bind ((looks_nsIn KI h.1).here (wpAny_bind ((looks_nsIn KI h.2).here (wpAny_pure (q v fv)))))
theorem zZ (hK:cW Γ.w Γ.K Γ.T) (hF:aV Γ F cx) {x:Str}{pv:PV} (o:Ok Γ H F c) (R:aC Γ.w H F.env c st s.heap) (h:gR Γ.T cx x st=some pv) (q:∀ v,aH Γ.w c v pv→Q v s):(x == ("__debug__" : Str))=false∧wpAny (model pw Γ.w) F.A (loadName F.env x) Q E s:=by
 refine ob h fun k hk h=>⟨(iV hk).1,?_⟩
 have cell:∀ k',F.env.kindOf x=some k'→(k'=.cell∨k'=.free)→lk x st.c=some pv→wpAny (model pw Γ.w) F.A (loadName F.env x) Q E s:=by
  intro k' e1 e2 e4
  obtain⟨a,ha⟩:=Option.isSome_iff_exists.mp (R.ix.celd x pv e4)
  have hc:∃ o,s.heap.get? a=some o∧∃ v,o.data=.cell (some v)∧aH Γ.w c v pv:=by
   have fin:∀ {o ob:Obj},s.heap.get? a=some ob→ob.data=o.data→jK Γ.w c st.c x o→∃ o,s.heap.get? a=some o∧∃ v,o.data=.cell (some v)∧aH Γ.w c v pv:=fun e e' q=>by
    obtain⟨v₀,q1,q2⟩:=q
    obtain⟨v,q3,q4⟩:=q2 pv e4
    exact⟨_,e,v,e'.trans (q1.trans (congrArg _ q3)),q4⟩
   rcases R.ix.cel x a ha with q | ⟨_,o,q1,q2⟩
   ·obtain⟨o,q1,q2⟩:=R.owG q
    exact fin q1 rfl q2.2
   ·obtain⟨sl,e⟩:=(R.hh a o q1).slots
    exact fin e rfl q2
  obtain⟨ob,q1,v,q2,pv'⟩:=hc
  rcases e2 with rfl | rfl
  ·exact wpAny_loadName_cell hF.kind e1 ha ⟨ob,q1,q2⟩ (q v pv')
  ·exact wpAny_loadName_free hF.kind e1 ha ⟨ob,q1,q2⟩ (q v pv') (iV hk).2
 cases k with
 | «local» =>
  obtain⟨ob,q1,_,es,ep,q2,q3,q4⟩:=R.owG R.ix.loc
  obtain⟨v,hv,pv'⟩:=q4 x pv h
  exact wpAny_loadName_local hF.kind (hF.names x _ hk nofun) ⟨ob,es,ep,q1,q2,q3,fun _=>rfl⟩ hv (q v pv')
 | cell=>exact cell _ (hF.names x _ hk nofun) (.inl rfl) h
 | free=>exact(hF.free x hk).elim (fun e=>cell _ e (.inr rfl) h) fun e=>cell _ e (.inl rfl) h
 | globalExplicit=>exact nk3 h
 | globalImplicit=>exact ob h fun y hy h=>ks_loadName_global hF.kind (hF.names x _ hk nofun) (zA hK hF.globals hF.builtins (o.kin R) hy fun v fv=>q v (Option.some.inj h ▸ fv.mono o.k))
theorem pM (hK:cW Γ.w Γ.K Γ.T) (hF:aV Γ F cx) {x:Str}{p:Pos}{pv:PV} (o:Ok Γ H F c) (R:aC Γ.w H F.env c st s.heap) (h:gR Γ.T cx x st=some pv) (q:∀ v,aH Γ.w c v pv→Q v s):wpAny (model pw Γ.w) F.A (eval (.Name x p) F.env) Q E s :=
 have r:=zZ (E:=E) hK hF o R h q;wpAny_Name r.2 r.1
theorem Im (hK:cW Γ.w Γ.K Γ.T) (hF:aV Γ F cx) {x:Str}{p:Pos}:TG Γ (aH Γ.w) H F st (opt (gR Γ.T cx x st) fun w=>.ok (w,st)) (eval (.Name x p) F.env) :=
 fun c s Q E o R g=>g.opt fun pv h g=>pM hK hF o R h fun v pv'=>g.done R pv'
variable {ih:Cx→Expr→St→Pg (PV × St)}
theorem iC {M:Model}{A:Around}{x:Sem Value}{rest:List (Bool × Sem Value)}{Q:List Value→Shared→Prop}{E:Value→Shared→Prop}
  (h:wpAny M A x (fun v s₁=>wpAny M A (spliced rest) (fun vs s₂=>Q (v::vs) s₂) E s₁) E s):wpAny M A (spliced ((false,x)::rest)) Q E s :=
 wpAny_bind (wpAny_mono h (fun v s₁ z=>wpAny_bind (wpAny_pure (wpAny_bind (wpAny_holding (wpAny_mono z (fun vs s₂ q=>wpAny_pure q) fun _ _ q=>q))))) fun _ _ z=>z)
theorem hY {e:Expr} (h:bO e=true) (r:List Expr) (p:Pos) (env:Env):backTo p (starEach (e::r) env)=(false,eval e env)::backTo p (starEach r env):=by
 cases e with
 | Set=>exact nk6 h
 | Starred=>exact nk6 h
 | _=>rfl
theorem i8 (hI:cD Γ H ih) (hF:aV Γ F cx) (p:Pos) (es:List Expr):∀ st:St,TG Γ (aX Γ.w) H F st (oR ih cx es st) (spliced (backTo p (starEach es F.env))):=by
 induction es with
 | nil=>exact fun st c s Q E o R g=>wpAny_pure (g.done R .nil)
 | cons e r ihr =>
  intro st c s Q E o R g
  refine aG.gp g fun h g=>?_
  rw[hY h]
  refine iC (g.bind (hI F cx e st hF) o R fun w₁ st₁ c₁ v₁ s₁ _ l₁ o₁ R₁ p₁ z₁ g₁=>?_)
  exact g₁.bind (ihr st₁) o₁ R₁ fun ws st₂ c₂ vs s₂ _ l₂ o₂ R₂ p₂ z₂ g₂=>g₂.done R₂ (.cons (p₁.mono l₂) p₂)
end
section
variable {w:World}{A:Around}{s:Shared}{B:PM}
theorem qD (x y:List Nat):((⟨x.toArray⟩:Str) == (⟨y.toArray⟩:Str))=gE x y:=by
 by_cases h:x=y
 ·rw[qG.mpr h,h];exact beq_iff_eq.mpr rfl
 ·rw[show gE x y=false from Bool.eq_false_iff.mpr fun e=>h (qG.mp e)]
  exact beq_eq_false_iff_ne.mpr fun q=>h (congrArg (fun z:Str=>z.cps.toList) q)
theorem pF {x:Int}{l:List FV}:∀ {vs:List Value}{b:Bool},aQ w B vs l→Ls x l=some b→∃ ns,IntsAre vs ns∧(ns.any fun y=>y == x)=b:=by
 induction l with
 | nil=>intro vs b q h;obtain rfl:=q.n;exact⟨[],.nil,Option.some.inj h⟩
 | cons a r ih =>
  intro vs b q h
  obtain⟨v,us,rfl,p,q2⟩:=q.c
  refine ob h fun y h1 h=>ob h fun b' h2 h=>?_
  obtain⟨ns,i,j⟩:=ih q2 h2
  exact p.iE h1 fun t=>⟨y::ns,.cons y t i,by rw[List.any_cons,j];exact Option.some.inj h⟩
theorem pN {x:List Nat}{l:List FV}:∀ {vs:List Value}{b:Bool},aQ w B vs l→KV x l=some b→∃ ns,StrsAre vs ns∧(ns.any fun y=>y == (⟨x.toArray⟩:Str))=b:=by
 induction l with
 | nil=>intro vs b q h;obtain rfl:=q.n;exact⟨[],.nil,Option.some.inj h⟩
 | cons a r ih =>
  intro vs b q h
  obtain⟨v,us,rfl,p,q2⟩:=q.c
  refine ob h fun y h1 h=>ob h fun b' h2 h=>?_
  obtain⟨ns,i,j⟩:=ih q2 h2
  exact p.sE h1 fun t=>⟨⟨y.toArray⟩::ns,.cons _ t i,by rw[List.any_cons,j,qD];exact Option.some.inj h⟩
theorem len_str (x:List Nat):(⟨x.toArray⟩:Str).length=x.length:=rfl
theorem tZ (x y:List Nat):(⟨x.toArray⟩:Str)++(⟨y.toArray⟩:Str)=⟨(x++y).toArray⟩:=congrArg Str.mk (List.append_toArray _ _)
theorem cY {n:Nat} (h:fits n=true):n ≤ sizeLine:=(Nat.le_of_ble_eq_true h:n ≤ 16777216)
theorem Fk {x:List Nat} (n:Nat):∀ a:Array Nat,(List.replicate n x.toArray).foldl (·++·) a=(a.toList++(List.replicate n x).flatten).toArray:=by
 induction n with
 | zero=>intro a;simp
 | succ n ih=>intro a;rw[List.replicate_succ,List.foldl_cons,ih,List.replicate_succ,List.flatten_cons];simp
end
section
variable {Γ:Gm}{H:PM}{F:Fr}{c:Cf}{s:Shared}{st:St}{Q:Value→Shared→Prop}{E:Value→Shared→Prop}
theorem Ln {A:Around}{op:Operator}{x y z:Int}{t u:Tok} (h:OU op x y=some z) (q:Q (.int z s.toks) { s with toks:=s.toks + 1 }):wpAny (model pw Γ.w) A (binaryOp op (.int x t) (.int y u)) Q E s:=by
 replace q:∀ k,some k=some z→Q (.int k s.toks) { s with toks:=s.toks + 1 }:=fun k e=>Option.some.inj e ▸ q
 cases op with
 | Add=>exact add_int (q _ h)
 | Sub=>exact sub_int (q _ h)
 | Mult=>exact aD h fun g h=>mul_int (q _ h) ((Bool.or_eq_true_iff.mp g).elim (fun g=>IntMulOk.of_left (of_decide_eq_true g)) fun g=>IntMulOk.of_right (of_decide_eq_true g))
 | FloorDiv=>exact aD h fun g1 h=>aD h fun g2 h=>floordiv_int (of_decide_eq_true g1) (q _ h) (.inl (gU g2))
 | Mod=>exact aD h fun g h=>PyProof.Rows.mod_int (of_decide_eq_true g) (q _ h)
 | LShift=>exact aD h fun g1 h=>aD h fun g2 h=>lshift_int (of_decide_eq_true g1) (of_decide_eq_true g2) (q _ h)
 | RShift=>exact aD h fun g h=>rshift_int (of_decide_eq_true g) (q _ h)
 | BitOr=>exact or_int (q _ h)
 | BitAnd=>exact and_int (q _ h)
 | Pow=>exact aD h fun g1 h=>aD h fun g2 h=>pow_int (of_decide_eq_true g1) (of_decide_eq_true g2) (q _ h)
 | _=>exact nk3 h
theorem u5 {op:Operator} (h:A5 op=true):op=.Add:=by cases op<;>first | rfl | exact nk6 h
theorem C9 {op:Operator} (h:GE op=true):op=.Mult:=by cases op<;>first | rfl | exact nk6 h
theorem lT {i:Int}{n:Nat} (h:sG i=some n):i=(n:Int):=by
 cases i with
 | ofNat=>exact congrArg Int.ofNat (Option.some.inj h)
 | negSucc=>exact nk3 h
theorem Lv {A:Around}{x:List Nat}{n:Nat}{t u:Tok} (g1:x.length < 2) (g2:n < 1000000) (fin:∀ v s',aO Γ.w c.B v (.str (List.replicate n x).flatten)→s'.heap=s.heap→aS s s'→Q v s'):wpAny (model pw Γ.w) A (binaryOp .Mult (.str ⟨x.toArray⟩ t) (.int n u)) Q E s:=by
 refine P.mul_str ?_ (fun h1 h2=>?_) (fun h1 h2=>?_) ?_
 ·rw[decide_eq_false (by omega),decide_eq_false (by omega)];rfl
 ·rw[len_str]
  have b1:¬ ((n:Int) < 1):=h1
  intro h3
  have h3:(x.length:Int) > (2 ^ 63 - 1) / (n:Int):=h3
  have h4:((2:Int) ^ 63 - 1) / n ≥ 2:=Int.le_ediv_of_mul_le (by omega) (by omega)
  omega
 ·rw[len_str]
  exact decide_eq_false (Nat.not_lt.mpr (Nat.le_trans (Nat.mul_le_mul_right n (Nat.le_of_lt_succ g1)) (by show _ ≤ 16777216;omega)))
 ·have fl:∀ y:List Nat,y=(List.replicate n x).flatten→∀ v s',v=Value.str ⟨y.toArray⟩ s.toks→s'.heap=s.heap→aS s s'→Q v s':=fun y e v s' e2=>fin v s' (e2 ▸ e ▸ aO.str _ _)
  split
  ·rename_i h1
   have h2:n=0:=by have:(n:Int) < 1:=h1;omega
   subst h2
   exact⟨by decide,fin _ _ (aO.str [] _) rfl ⟨rfl,rfl⟩⟩
  ·split
   ·rename_i h2
    refine fin _ _ ?_ rfl (.refl s)
    have h3:(List.replicate n x).flatten=x:=by
     rcases Bool.or_eq_true_iff.mp h2 with h2 | h2
     ·have h2:=beq_iff_eq.mp h2
      have:n=1:=by have:(n:Int)=1:=h2;omega
      rw[this];exact(List.append_nil x)
     ·obtain rfl:x=[]:=List.eq_nil_of_length_eq_zero (beq_iff_eq.mp h2)
      simp
    rw[h3];exact aO.str x _
   ·have e:((List.replicate n x.toArray).foldl (·++·) #[])=(List.replicate n x).flatten.toArray:=Fk n #[]
    refine⟨?_,fin _ _ ?_ rfl ⟨rfl,rfl⟩⟩
    ·show(⟨(List.replicate n x.toArray).foldl (·++·) #[]⟩:Str).length ≤ sizeLine
     rw[e,len_str,show(List.replicate n x).flatten.length=n * x.length by simp]
     exact Nat.le_trans (Nat.mul_le_mul_left n (Nat.le_of_lt_succ g1)) (by show _ ≤ 16777216;omega)
    ·show aO _ _ (.str ⟨(List.replicate n x.toArray).foldl (·++·) #[]⟩ _) _
     rw[e];exact aO.str _ _
theorem N5 (R:aC Γ.w H F.env c st s.heap) {op:Operator}{a b:Value}{x y z:FV} (pa:aO Γ.w c.B a x) (pb:aO Γ.w c.B b y) (hz:BX op x y=some z)
  (q:∀ c' v s',c.le c'→aC Γ.w H F.env c' st s'.heap→aO Γ.w c'.B v z→aS s s'→Q v s'):wpAny (model pw Γ.w) F.A (binaryOp op a b) Q E s:=by
 revert hz
 refine qM (P:=fun e=>e=some z→_) (fun i hi e=>ob e fun j hj e=>ob e fun k hk e=>?_) fun _=>qM (P:=fun e=>e=some z→_) (fun xs hx e=>ob e fun i hi e=>ob e fun n hn e=>aD e fun g0 e=>aD e fun g1 e=>aD e fun g2 e=>?_) fun _ e=>ob e fun xs hx e=>ob e fun ys hy e=>aD e fun g0 e=>aD e fun g1 e=>?_
 ·exact pa.iE hi fun t=>pb.iE hj fun u=>Ln (Γ:=Γ) hk (q c _ _ (.refl c) R (Option.some.inj e ▸ aO.int k _) ⟨rfl,rfl⟩)
 ·refine pa.sE hx fun t=>pb.iE hi fun u=>?_
  rw[C9 g0,lT hn]
  exact Lv (eK g1) (eK g2) fun v s' f h z=>q c v s' (.refl c) (h ▸ R) (Option.some.inj e ▸ f) z
 ·refine pa.lE hx fun a₁ n₁ vs₁ ha ra=>pb.lE hy fun a₂ n₂ vs₂ hb rb=>?_
  rw[u5 g0]
  refine P.add_list (R.b _ _ ha) (R.b _ _ hb) ?_ (by rw[List.size_toArray,List.size_toArray,ra.length,rb.length];exact cY g1)
  obtain⟨R',l,e'⟩:=R.newF { cls:=.type "list",data:=.seq (_++_) }
  exact q _ _ _ l R' (Option.some.inj e ▸ aO.lst (n:=0) (us:=vs₁++vs₂) (e'.trans (by rw[List.append_toArray])) ((aQ.append rb ra).mono l.b)) ⟨rfl,rfl⟩
theorem JX {a b:Value}{x y:FV}{p:List Nat × List Nat}{op:Operator}{z:PV} (pa:aO Γ.w c.B a x) (pb:aO Γ.w c.B b y) (h:HN op x y=some p) (hz:rX p.1 p.2=some z) (q:∀ v s',aH Γ.w c v z→s'.heap=s.heap→aS s s'→Q v s'):wpAny (model pw Γ.w) F.A (binaryOp op a b) Q E s:=by
 refine aD h fun g0 h=>ob h fun i hi h=>ob h fun j hj h=>ob hz fun k hk hz'=>aD hk fun g1 hk'=>?_
 obtain rfl:=Option.some.inj h
 rw[u5 g0]
 refine pa.sE hi fun t=>pb.sE hj fun u=>PyProof.Rows.add_str (fun t' tk=>?_) (cY g1)
 rw[tZ]
 exact q _ _ (Option.some.inj hz' ▸ Option.some.inj hk' ▸ aH.str (i++j) t') rfl ⟨rfl,rfl⟩
end
end Mine
end
section
namespace Mine
theorem fC {α γ:Type}{x:Option α}{s:α→Option γ}{n:Option γ}{r:γ}{P:Prop} (h:oe x s n=some r) (k:∀ a,x=some a→s a=some r→P) (m:x=none→n=some r→P):P:=by
 cases x with
 | none=>exact m rfl h
 | some a=>exact k a rfl h
theorem oB {β:Type}{b:Bool}{x y:Option β}{r:β}{P:Prop} (h:(bif b then x else y)=some r) (k:b=true→x=some r→P) (m:b=false→y=some r→P):P:=by
 cases b with
 | true=>exact k rfl h
 | false=>exact m rfl h
noncomputable def sX (w:World) (B:PM) (f:Option Value) (o:Option FV):Prop:=oe o (fun y=>∃ u,f=some u∧aO w B u y) (f=none)
section
variable {w:World}{B:PM}
theorem B6 {x:Int}{l:List (FV × FV)}:∀ {es:List DictEntry}{o:Option FV},nV w B es l→GV x l=some o →
  (∀ e ∈ es,∃ k:Int,(intKind pw w).is k e.key=true∧e.hash=(intKind pw w).hash k)∧sX w B ((es.find? fun e=>(intKind pw w).is x e.key).map (·.val)) o:=by
 induction l with
 | nil=>intro es o hd h;obtain rfl:es=[]:=hd;exact⟨iG,Option.some.inj h ▸ rfl⟩
 | cons p l ih =>
  intro es o hd h
  obtain⟨e,r,rfl,⟨hk,hv⟩,hd⟩:∃ e r,es=e::r∧(nX w e p.1∧aO w B e.val p.2)∧nV w B r l:=hd
  refine ob h fun y h1 h=>ob h fun o' h2 h=>?_
  obtain⟨i,j⟩:=ih hd h2
  obtain⟨t,q1,q2⟩:∃ t,e.key=.int y t∧e.hash=hashInt y:=by rw[lU h1]at hk;exact hk
  have q:(intKind pw w).is x e.key=(y == x):=by rw[q1];rfl
  refine⟨fun z hz=>(List.mem_cons.mp hz).elim (fun z=>⟨y,by rw[z,q1];exact beq_self_eq_true y,z ▸ q2⟩) (i z),Option.some.inj h ▸ ?_⟩
  cases g:y == x with
  | true=>rw[List.find?_cons_of_pos (p:=fun e:DictEntry=>(intKind pw w).is x e.key) (q.trans g)];exact⟨_,rfl,hv⟩
  | false=>rw[List.find?_cons_of_neg (p:=fun e:DictEntry=>(intKind pw w).is x e.key) (fun z=>nk5 (z.symm.trans (q.trans g)))];exact j
theorem AX {x:List Nat}{l:List (FV × FV)}:∀ {es:List DictEntry}{o:Option FV},nV w B es l→Gg x l=some o →
  (∀ e ∈ es,∃ k:Str,(PySem.strKind pw w).is k e.key=true∧e.hash=(PySem.strKind pw w).hash k)∧sX w B ((es.find? fun e=>(PySem.strKind pw w).is ⟨x.toArray⟩ e.key).map (·.val)) o:=by
 induction l with
 | nil=>intro es o hd h;obtain rfl:es=[]:=hd;exact⟨iG,Option.some.inj h ▸ rfl⟩
 | cons p l ih =>
  intro es o hd h
  obtain⟨e,r,rfl,⟨hk,hv⟩,hd⟩:∃ e r,es=e::r∧(nX w e p.1∧aO w B e.val p.2)∧nV w B r l:=hd
  refine ob h fun y h1 h=>ob h fun o' h2 h=>?_
  obtain⟨i,j⟩:=ih hd h2
  obtain⟨t,q1,q2⟩:∃ t,e.key=.str ⟨y.toArray⟩ t∧e.hash=hashStr w ⟨y.toArray⟩:=by rw[lH h1]at hk;exact hk
  have q:(PySem.strKind pw w).is ⟨x.toArray⟩ e.key=gE y x:=by rw[q1];exact qD y x
  refine⟨fun z hz=>(List.mem_cons.mp hz).elim (fun z=>⟨⟨y.toArray⟩,by rw[z,q1];exact beq_self_eq_true (⟨y.toArray⟩:Str),z ▸ q2⟩) (i z),Option.some.inj h ▸ ?_⟩
  cases g:gE y x with
  | true=>rw[List.find?_cons_of_pos (p:=fun e:DictEntry=>(PySem.strKind pw w).is ⟨x.toArray⟩ e.key) (q.trans g)];exact⟨_,rfl,hv⟩
  | false=>rw[List.find?_cons_of_neg (p:=fun e:DictEntry=>(PySem.strKind pw w).is ⟨x.toArray⟩ e.key) (fun z=>nk5 (z.symm.trans (q.trans g)))];exact j
inductive Gy (w:World) (B:PM) (h:Heap) (d:Addr) (k:Value) (o:Option FV):Prop where
 | mk (Kt:Type) (i:DecidableEq Kt) (knd:PySem.KeyKind pw w Kt) (kk:Kt) (f:Kt→Option Value) (hm:(d == sysModules)=false) (hk:knd.is kk k=true) (hf:Heap.MapOf knd h d f) (r:sX w B (f kk) o):Gy w B h d k o
@[elab_as_elim] theorem dgetE {h:Heap} (hb:∀ a o,B a=some o→h.get? a=some o) {v k:Value}{x y:FV}{es:List (FV × FV)}{o:Option FV}{P:Value→Prop} (pv:aO w B v y) (ey:pT y=some es) (pk:aO w B k x) (e:wQ x es=some o) (q:∀ d,Gy w B h d k o→P (.ref d)):P v:=by
 obtain⟨a,n,ds,rfl,hm,ha,hd⟩:=(u6 ey ▸ pv).dctI
 refine q a (fC e (fun i hi e=>?_) fun _ e=>ob e fun s hs e=>?_)
 ·obtain⟨z1,z2⟩:=B6 hd e
  refine pk.iE hi fun t=>⟨Int,inferInstance,intKind pw w,i,fun k=>findBy (intKind pw w).is ds.toArray k,hm,beq_self_eq_true i,⟨_,_,_,hb _ _ ha,⟨rfl,rfl,rfl⟩,rfl,fun e he=>z1 e (by simpa using he),fun _=>rfl⟩,?_⟩
  unfold findBy;rw[List.find?_toArray];exact z2
 ·obtain⟨z1,z2⟩:=AX hd e
  refine pk.sE hs fun t=>⟨Str,inferInstance,PySem.strKind pw w,⟨s.toArray⟩,fun k=>findBy (PySem.strKind pw w).is ds.toArray k,hm,beq_self_eq_true (⟨s.toArray⟩:Str),⟨_,_,_,hb _ _ ha,⟨rfl,rfl,rfl⟩,rfl,fun e he=>z1 e (by simpa using he),fun _=>rfl⟩,?_⟩
  unfold findBy;rw[List.find?_toArray];exact z2
end
section
variable {Γ:Gm}{H:PM}{F:Fr}{cx:Cx}{c:Cf}{s:Shared}{st:St}{Q:Value→Shared→Prop}{E:Value→Shared→Prop}
theorem yL {x:FV} (h:EP x=true):x=.none:=by
 cases x with
 | none=>rfl
 | _=>exact nk6 h
theorem aH.isNone {v:Value}{x:PV} (h:aH Γ.w c v x):(v == Value.none)=isNone x:=by
 cases x with
 | f x=>cases x with
  | none=>rw[h.fI.noneI];rfl
  | bool=>rw[h.fI.boolI];rfl
  | int=>rw[(h.fI.intsI).choose_spec];rfl
  | str=>rw[(h.fI.strI).choose_spec];rfl
  | tup=>obtain⟨_,_,_,rfl,_⟩:=h.fI.tupI;rfl
  | lst=>obtain⟨_,_,_,rfl,_⟩:=h.fI.lstI;rfl
  | obj=>obtain⟨_,_,_,_,rfl,_⟩:=h.fI.objI;rfl
  | dct=>obtain⟨_,_,_,rfl,_⟩:=h.fI.dctI;rfl
  | top a=>rw[show v=.ref a from h];rfl
  | typ n=>rw[show v=.type n.id from h];rfl
  | blt n=>rw[show v=.builtin n.id from h];rfl
 | ref=>rw[(h.refI).choose_spec.1];rfl
 | loc=>rw[(h.locI).choose_spec.1];rfl
theorem sN {v:Value}{x:PV} (p:aH Γ.w c v x) (h:isNone x=true):v=.none:=beq_iff_eq.mp (p.isNone.trans h)
theorem JN (R:aC Γ.w H F.env c st s.heap) {a b:Value}{x y:FV}{l:List FV}{r:Bool} (pa:aO Γ.w c.B a x) (pb:aO Γ.w c.B b y) (hl:jW y=some l) (hz:AD x l=some r) (q:Q (.bool r) s):wpAny (model pw Γ.w) F.A (compareOp .In a b) Q E s :=
 pb.lE hl fun d n vs hb rb=>fC hz (fun i hi e=>pa.iE hi fun t=>(pF rb e).elim fun ns z=>in_list_ints ⟨_,R.b _ _ hb,rfl,_,rfl⟩ z.1 (z.2 ▸ q))
  fun _ e=>ob e fun s hs e=>pa.sE hs fun t=>(pN rb e).elim fun ns z=>in_list_strs ⟨_,R.b _ _ hb,rfl,_,rfl⟩ z.1 (z.2 ▸ q)
theorem J5 (R:aC Γ.w H F.env c st s.heap) {a b:Value}{x y:FV}{l:List FV}{r:Bool} (pa:aO Γ.w c.B a x) (pb:aO Γ.w c.B b y) (hl:i9 y=some l) (hz:AD x l=some r) (q:Q (.bool r) s):wpAny (model pw Γ.w) F.A (compareOp .In a b) Q E s :=
 pb.tE hl fun d n vs hb rb=>fC hz (fun i hi e=>pa.iE hi fun t=>(pF rb e).elim fun ns z=>in_tuple_ints ⟨_,R.b _ _ hb,rfl,_,rfl⟩ (by simpa using z.1) (z.2 ▸ q))
  fun _ e=>ob e fun s hs e=>pa.sE hs fun t=>(pN rb e).elim fun ns z=>in_tuple_strs ⟨_,R.b _ _ hb,rfl,_,rfl⟩ (by simpa using z.1) (z.2 ▸ q)
theorem CI (R:aC Γ.w H F.env c st s.heap) {a b:Value}{x y:FV}{l:List FV}{r:Bool} (pa:aO Γ.w c.B a x) (pb:aO Γ.w c.B b y) (hl:i9 y=some l) (hz:AD x l=some r) (q:Q (.bool (!r)) s):wpAny (model pw Γ.w) F.A (compareOp .NotIn a b) Q E s :=
 pb.tE hl fun d n vs hb rb=>fC hz (fun i hi e=>pa.iE hi fun t=>(pF rb e).elim fun ns z=>notin_tuple_ints ⟨_,R.b _ _ hb,rfl,_,rfl⟩ (by simpa using z.1) (z.2 ▸ q))
  fun _ e=>ob e fun s hs e=>pa.sE hs fun t=>(pN rb e).elim fun ns z=>notin_tuple_strs ⟨_,R.b _ _ hb,rfl,_,rfl⟩ (by simpa using z.1) (z.2 ▸ q)
theorem pX {op:CmpOp}{a b:Value}{x y:FV}{r:Bool}{f:Int→Int→Bool} (pa:aO Γ.w c.B a x) (pb:aO Γ.w c.B b y) (hz:xR x y f=some r) (q:Q (.bool r) s)
  (k:∀ i j t u,Q (.bool (f i j)) s→wpAny (model pw Γ.w) F.A (compareOp op (.int i t) (.int j u)) Q E s):wpAny (model pw Γ.w) F.A (compareOp op a b) Q E s :=
 ob hz fun i hi e=>ob e fun j hj e=>pa.iE hi fun t=>pb.iE hj fun u=>k i j t u (Option.some.inj e ▸ q)
theorem ME {a b:Value}{x y:FV}{r:Bool} (pa:aO Γ.w c.B a x) (pb:aO Γ.w c.B b y) (hz:O3 x y=some r) (q:Q (.bool r) s):wpAny (model pw Γ.w) F.A (compareOp .Eq a b) Q E s:=by
 cases x with
 | none=>exact aD hz fun h e=>by rw[pa.noneI,show b=.none from(yL h ▸ pb:aO Γ.w c.B b .none)];exact EqNone.eq_none_none (Option.some.inj e ▸ q)
 | bool i=>exact ob hz fun j h e=>pb.bE h (by rw[pa.boolI];exact eq_bool (Option.some.inj e ▸ q))
 | int i=>exact ob hz fun j h e=>pa.iE rfl fun t=>pb.iE h fun u=>eq_int (Option.some.inj e ▸ q)
 | str i=>exact ob hz fun j h e=>pa.sE rfl fun t=>pb.sE h fun u=>eq_str (by rw[qD];exact Option.some.inj e ▸ q)
 | _=>exact nk3 hz
theorem NN {a b:Value}{x y:FV}{r:Bool} (pa:aO Γ.w c.B a x) (pb:aO Γ.w c.B b y) (hz:O1 x y=some r) (q:Q (.bool r) s):wpAny (model pw Γ.w) F.A (compareOp .NotEq a b) Q E s:=by
 cases x with
 | bool i=>exact ob hz fun j h e=>pb.bE h (by rw[pa.boolI];exact ne_bool (Option.some.inj e ▸ q))
 | int i=>exact ob hz fun j h e=>pa.iE rfl fun t=>pb.iE h fun u=>PyProof.Rows.ne_int (Option.some.inj e ▸ q)
 | str i=>exact ob hz fun j h e=>pa.sE rfl fun t=>pb.sE h fun u=>ne_str (by rw[show((⟨i.toArray⟩:Str) != (⟨j.toArray⟩:Str))=!gE i j from congrArg (!·) (qD i j)];exact Option.some.inj e ▸ q)
 | _=>exact nk3 hz
theorem Mt (R:aC Γ.w H F.env c st s.heap) {a b:Value}{x y:FV}{r:Bool} (pa:aO Γ.w c.B a x) (pb:aO Γ.w c.B b y) (hz:GF x y=some r) (q:∀ s',s'.heap=s.heap→aS s s'→Q (.bool r) s'):wpAny (model pw Γ.w) F.A (compareOp .In a b) Q E s:=by
 have q0:=q s rfl (.refl s)
 refine fC hz (fun l hl e=>JN R pa pb hl e q0) fun _ hz=>fC hz (fun l hl e=>J5 R pa pb hl e q0) fun _ hz=>fC hz (fun es he e=>ob e fun o ho e=>?_) fun _ hz=>ob hz fun s' hs e=>ob e fun cc hc e=>?_
 ·refine dgetE R.b pb he pa ho fun d hd=>?_
  obtain⟨Kt,i,knd,kk,f,hm,hk,hf,hr⟩:=hd
  refine wpAny_in_of hk hm hf ?_
  have q1:=q { s with toks:=s.toks + 1 } rfl ⟨rfl,rfl⟩
  rw[← Option.some.inj e]at q1
  cases o with
  | none=>rw[show f kk=none from hr];exact q1
  | some y=>obtain⟨u,hu,_⟩:=hr;rw[hu];exact q1
 ·exact pa.sE hc fun t=>pb.sE hs fun u=>in_str (Option.some.inj e ▸ q0)
theorem Q3 (j i:Nat):decide ([j] < [i])=Nat.blt j i:=by
 cases h:Nat.blt j i with
 | true=>exact decide_eq_true (List.cons_lt_cons_iff.mpr (.inl (eK h)))
 | false=>exact decide_eq_false fun q=>(List.cons_lt_cons_iff.mp q).elim (fun q=>nk6 (h.symm.trans (Nat.ble_eq_true_of_le q))) fun q=>absurd q.2 (List.not_lt_nil _)
theorem Kd (R:aC Γ.w H F.env c st s.heap) {op:CmpOp}{a b:Value}{x y:FV}{r:Bool} (pa:aO Γ.w c.B a x) (pb:aO Γ.w c.B b y) (hz:Gl op x y=some r)
  (q:∀ s',s'.heap=s.heap→aS s s'→Q (.bool r) s'):wpAny (model pw Γ.w) F.A (compareOp op a b) Q E s:=by
 have q0:=q s rfl (.refl s)
 cases op with
 | Eq=>exact ME pa pb hz q0
 | NotEq=>exact NN pa pb hz q0
 | Lt=>exact pX pa pb hz q0 fun _ _ _ _=>lt_int
 | LtE=>exact fC hz (fun x hx e=>ob e fun y hy e=>ob e fun i hi e=>ob e fun j hj e=>pa.sE hx fun t=>pb.sE hy fun u=>P.le_str (by rw[eA hi,eA hj];rw[show(!decide ([j] < [i]))=r from(congrArg (!·) (Q3 j i)).trans (Option.some.inj e)];exact q0)) fun _ hz=>pX pa pb hz q0 fun _ _ _ _=>le_int
 | Gt=>exact pX pa pb hz q0 fun _ _ _ _=>gt_int
 | GtE=>exact pX pa pb hz q0 fun _ _ _ _=>PyProof.Rows.ge_int
 | In=>exact Mt R pa pb hz q
 | NotIn=>exact ob hz fun l hl e=>ob e fun x hx e=>CI R pa pb hl hx (Option.some.inj e ▸ q0)
 | _=>exact nk3 hz
theorem sT (R:aC Γ.w H F.env c st s.heap) {op:CmpOp}{a b:Value}{x y:PV}{r:Bool} (pa:aH Γ.w c a x) (pb:aH Γ.w c b y) (hz:cO op x y=some r)
  (q:∀ s',s'.heap=s.heap→aS s s'→Q (.bool r) s'):wpAny (model pw Γ.w) F.A (compareOp op a b) Q E s:=by
 have go:L9 op x y=some r→wpAny (model pw Γ.w) F.A (compareOp op a b) Q E s:=fun hz=>ob hz fun x' hx e=>ob e fun y' hy e=>Kd R (pa.fE hx) (pb.fE hy) e q
 have q0:=q s rfl (.refl s)
 cases op with
 | Is=>exact aD hz fun h e=>by rw[sN pb h];refine is_none_gen ?_;rw[pa.isNone];exact Option.some.inj e ▸ q0
 | IsNot=>exact aD hz fun h e=>by rw[sN pb h];refine isnot_none_gen ?_;rw[pa.isNone];exact Option.some.inj e ▸ q0
 | _=>exact go hz
theorem G7 {v:Value}{x:PV}{b:Bool}{Q:Bool→Shared→Prop} (p:aH Γ.w c v x) (h:sU x=some b) (q:Q b s):wpAny (model pw Γ.w) F.A (truthy v) Q E s:=by
 refine ob h fun y hy h=>?_
 have p:=p.fE hy
 cases y with
 | none=>rw[p.noneI];exact truthy_none (Option.some.inj h ▸ q)
 | bool b'=>rw[p.boolI];exact wpAny_truthy_bool (Option.some.inj h ▸ q)
 | _=>exact nk3 h
end
end Mine
end
section
namespace Mine
section
variable {Γ:Gm}{H:PM}{F:Fr}{cx:Cx}{c:Cf}{s:Shared}{st:St}{ih:Cx→Expr→St→Pg (PV × St)}
theorem Ks (hI:cD Γ H ih) (hF:aV Γ F cx) {a b:Expr}{op:Operator}{p:Pos}:TG Γ (aH Γ.w) H F st ((ih cx a st).bind fun r=>(ih cx b r.2).bind fun q=>JZ cx op r.1 q.1 q.2) (eval (.BinOp a op b p) F.env):=by
 intro c s Q E o R g
 refine wpAny_BinOp (g.bind (hI F cx a st hF) o R fun w₁ st₁ c₁ v₁ s₁ _ l₁ o₁ R₁ p₁ z₁ g=>?_)
 refine g.bind (hI F cx b st₁ hF) o₁ R₁ fun w₂ st₂ c₂ v₂ s₂ _ l₂ o₂ R₂ p₂ z₂ g=>g.opt fun x hx g=>g.opt fun y hy g=>?_
 have px:=(p₁.mono l₂).fE hx
 have py:=p₂.fE hy
 refine g.oe (fun q hq g=>?_) fun _ g=>g.qV fun z hz g=>ob hz fun k hk e=>N5 R₂ px py hk fun c₃ v s' l₃ R₃ fv zz=>g.done' l₃ R₃ (Option.some.inj e ▸ fv) zz
 have g:aG Γ (aH Γ.w) H F (qV 0 (fun _=>rX q.1 q.2) st₂ fun v=>.ok (v,st₂)) c₂ s₂ Q E:=⟨g.ok,g.raise,g.go⟩
 exact g.qV fun z hz g=>JX px py hq hz fun v s' pv e zz=>g.done' (.refl _) (e ▸ R₂) pv zz
noncomputable def VC (c:Cf) (v:Value) (b:Bool):Prop:=v=.bool b
theorem FO (hI:cD Γ H ih) (hF:aV Γ F cx) (pos:Pos) (ops:List CmpOp):∀ (es:List Expr) (left:PV) (st:St) (lv:Value) (c:Cf) (s:Shared) (Q:Value→Shared→Prop) (E:Value→Shared→Prop),
  ops.length=es.length→Ok Γ H F c→aC Γ.w H F.env c st s.heap→aH Γ.w c lv left→aG Γ VC H F (BE ih cx ops es left st) c s Q E→wpAny (model pw Γ.w) F.A (compareChain pos lv ops (evalEach es F.env)) Q E s:=by
 induction ops with
 | nil=>exact fun _ _ _ _ _ _ _ _ _ _ _ _ g=>g.stuck
 | cons op ops ihr =>
  intro es left st lv c s Q E hl o R pl g
  cases es with
  | nil=>exact g.stuck
  | cons e es =>
   cases ops with
   | nil =>
    obtain rfl:es=[]:=List.eq_nil_of_length_eq_zero (Nat.succ.inj hl).symm
    exact chain_last (aG.bind g (hI F cx e st hF) o R fun w₁ st₁ c₁ v₁ s₁ _ l₁ o₁ R₁ p₁ z₁ g=>g.qB fun b hb g=>sT R₁ (pl.mono l₁) p₁ hb fun s' e z=>aG.done' g (.refl _) (e ▸ R₁) rfl z)
   | cons op' ops=>cases es with
    | nil=>exact absurd hl nofun
    | cons e' es =>
     refine chain_link (aG.bind g (hI F cx e st hF) o R fun w₁ st₁ c₁ v₁ s₁ _ l₁ o₁ R₁ p₁ z₁ g=>g.qB fun b hb g=>?_)
     refine sT R₁ (pl.mono l₁) p₁ hb fun s' e z=>wpAny_truthy_bool ?_
     have R':aC Γ.w H F.env c₁ st₁ s'.heap:=e ▸ R₁
     have g:=aG.mono g (.refl _) z
     cases b with
     | true=>exact ihr _ _ _ _ _ _ _ _ (Nat.succ.inj hl) o₁ R' p₁ g
     | false=>exact aG.done g R' rfl
theorem Er (hI:cD Γ H ih) (hF:aV Γ F cx) (pos:Pos) (ops:List CmpOp):∀ (es:List Expr) (left:PV) (st:St) (lv:Value) (c:Cf) (s:Shared) (Q:Bool→Shared→Prop) (E:Value→Shared→Prop),
  ops.length=es.length→Ok Γ H F c→aC Γ.w H F.env c st s.heap→aH Γ.w c lv left→aG Γ VB H F (BE ih cx ops es left st) c s Q E→wpAny (model pw Γ.w) F.A (testChain pos lv ops (evalEach es F.env)) Q E s:=by
 induction ops with
 | nil=>exact fun _ _ _ _ _ _ _ _ _ _ _ _ g=>g.stuck
 | cons op ops ihr =>
  intro es left st lv c s Q E hl o R pl g
  cases es with
  | nil=>exact g.stuck
  | cons e es =>
   cases ops with
   | nil =>
    obtain rfl:es=[]:=List.eq_nil_of_length_eq_zero (Nat.succ.inj hl).symm
    exact test_last (aG.bind g (hI F cx e st hF) o R fun w₁ st₁ c₁ v₁ s₁ _ l₁ o₁ R₁ p₁ z₁ g=>g.qB fun b hb g=>sT R₁ (pl.mono l₁) p₁ hb fun s' e z=>wpAny_truthy_bool (aG.done' g (.refl _) (e ▸ R₁) rfl z))
   | cons op' ops=>cases es with
    | nil=>exact absurd hl nofun
    | cons e' es =>
     refine test_link (aG.bind g (hI F cx e st hF) o R fun w₁ st₁ c₁ v₁ s₁ _ l₁ o₁ R₁ p₁ z₁ g=>g.qB fun b hb g=>?_)
     refine sT R₁ (pl.mono l₁) p₁ hb fun s' e z=>wpAny_truthy_bool ?_
     have R':aC Γ.w H F.env c₁ st₁ s'.heap:=e ▸ R₁
     have g:=aG.mono g (.refl _) z
     cases b with
     | true=>exact ihr _ _ _ _ _ _ _ _ (Nat.succ.inj hl) o₁ R' p₁ g
     | false=>exact aG.done g R' rfl
theorem BP (hI:cD Γ H ih) (hF:aV Γ F cx) {a:Expr}{ops:List CmpOp}{es:List Expr}{p:Pos} :
  TG Γ (aH Γ.w) H F st ((ih cx a st).bind fun r=>(wZ ih cx r.1 ops es r.2).bind fun b=>.ok (.f (.bool b.1),b.2)) (eval (.Compare a ops es p) F.env):=by
 intro c s Q E o R g
 show wpAny _ _ (do compareChain p (← eval a F.env) ops (markedEach ops es (evalEach es F.env))) _ _ _
 refine wpAny_bind (g.bind (hI F cx a st hF) o R fun w₁ st₁ c₁ v₁ s₁ _ l₁ o₁ R₁ p₁ z₁ g=>?_)
 refine g.bindC (V₁:=VC) (fun g=>g.gp fun h1 g=>g.gp fun h2 g=>?_) o₁ fun b st₂ c₂ v s₂ _ l₂ o₂ R₂ q z g=>g.done R₂ (q ▸ aH.bool b)
 rw[markedEach_of_false _ _ _ (gU h1)]
 exact FO hI hF p ops es w₁ st₁ v₁ c₁ s₁ _ E (Nat.eq_of_beq_eq_true h2) o₁ R₁ p₁ g
theorem DV (hI:cD Γ H ih) (hF:aV Γ F cx) (pos:Pos) (op:BoolOp) (es:List Expr):∀ st:St,TG Γ (aH Γ.w) H F st (t4 ih cx op es st) (boolOp pos op (evalEach es F.env)):=by
 induction es with
 | nil=>exact fun st c s Q E o R g=>g.stuck
 | cons e r ihr =>
  cases r with
  | nil=>exact fun st c s Q E o R g=>hI F cx e st hF c s Q E o R g
  | cons e' r =>
   intro st c s Q E o R g
   show wpAny _ _ (do
    let v ← eval e F.env
    standAt pos
    let t ← holding [v] (truthy v)
    match op,t with
    | .And,false | .Or,true=>pure v
    | _,_=>boolOp pos op (evalEach (e'::r) F.env)) Q E s
   refine wpAny_bind (aG.bind (k:=fun a=>opt (sU a.1) fun t=>bif xV op t then .ok a else t4 ih cx op (e'::r) a.2) g (hI F cx e st hF) o R fun w₁ st₁ c₁ v₁ s₁ _ l₁ o₁ R₁ p₁ z₁ g=>?_)
   refine wpAny_bind (wpAny_standAt (wpAny_bind (wpAny_holding (g.opt fun b hb g=>G7 p₁ hb ?_))))
   cases op<;>cases b
   ·exact wpAny_pure (g.done R₁ p₁)
   ·exact ihr st₁ c₁ s₁ Q E o₁ R₁ g
   ·exact ihr st₁ c₁ s₁ Q E o₁ R₁ g
   ·exact wpAny_pure (g.done R₁ p₁)
theorem Hr {f:Expr→St→Pg (Bool × St)} (hT:∀ e st,TG Γ VB H F st (f e st) (PySem.isTrue e F.env (eval e F.env))) (op:BoolOp) (es:List Expr):∀ st:St,TG Γ VB H F st (Eu f op es st) (allTrue op es F.env):=by
 induction es with
 | nil =>
  intro st c s Q E o R g
  show wpAny _ _ (pure (op == .And)) Q E s
  cases op<;>exact wpAny_pure (g.done R rfl)
 | cons e r ihr =>
  intro st c s Q E o R g
  rw[arm_allTrue_cons]
  refine wpAny_bind (aG.bind (k:=fun a=>bif xV op a.1 then .ok a else Eu f op r a.2) g (hT e st) o R fun w₁ st₁ c₁ v₁ s₁ _ l₁ o₁ R₁ p₁ z₁ g=>?_)
  obtain rfl:v₁=w₁:=p₁
  cases op<;>cases v₁
  ·exact wpAny_pure (g.done R₁ rfl)
  ·exact ihr st₁ c₁ s₁ Q E o₁ R₁ g
  ·exact ihr st₁ c₁ s₁ Q E o₁ R₁ g
  ·exact wpAny_pure (g.done R₁ rfl)
theorem CN (hI:cD Γ H ih) (hF:aV Γ F cx) {e:Expr} (he:PySem.isTrue e F.env (eval e F.env)=(do
   let v ← eval e F.env
   standAt e.pos
   holding [v] (truthy v))):TG Γ VB H F st (fR ih cx e st) (PySem.isTrue e F.env (eval e F.env)):=by
 intro c s Q E o R g
 rw[he]
 exact wpAny_bind (aG.bind g (hI F cx e st hF) o R fun w₁ st₁ c₁ v₁ s₁ _ l₁ o₁ R₁ p₁ z₁ g=>wpAny_bind (wpAny_standAt (wpAny_holding (g.opt fun b hb g=>G7 p₁ hb (g.done R₁ rfl)))))
theorem vY (hI:cD Γ H ih) (hF:aV Γ F cx) (k:Nat):∀ (e:Expr) (st:St),TG Γ VB H F st (xK ih cx k e st) (PySem.isTrue e F.env (eval e F.env)):=by
 induction k with
 | zero=>exact fun e st c s Q E o R g=>g.stuck
 | succ k ihk =>
  intro e st
  cases e with
  | UnaryOp op x p =>
   cases op with
   | Not=>exact fun c s Q E o R g=>wpAny_isTrue_Not (aG.bind g (ihk x st) o R fun w₁ st₁ c₁ v₁ s₁ _ l₁ o₁ R₁ p₁ z₁ g=>g.done R₁ (congrArg (!·) p₁))
   | _=>exact CN hI hF rfl
  | BoolOp op es p=>exact fun c s Q E o R g=>wpAny_isTrue_BoolOp (Hr ihk op es st c s Q E o R g)
  | IfExp=>exact fun c s Q E o R g=>g.stuck
  | Compare a ops es p =>
   intro c s Q E o R g
   rw[arm_isTrue_Compare]
   refine wpAny_bind (aG.bind g (hI F cx a st hF) o R fun w₁ st₁ c₁ v₁ s₁ _ l₁ o₁ R₁ p₁ z₁ g=>g.gp fun h1 g=>g.gp fun h2 g=>?_)
   rw[markedEach_of_false _ _ _ (gU h1)]
   exact Er hI hF p ops es w₁ st₁ v₁ c₁ s₁ Q E (Nat.eq_of_beq_eq_true h2) o₁ R₁ p₁ g
  | _=>exact CN hI hF rfl
theorem EL (hI:cD Γ H ih) (hF:aV Γ F cx) {k:Nat}{t a b:Expr}{p:Pos}:TG Γ (aH Γ.w) H F st ((xK ih cx k t st).bind fun r=>bif r.1 then ih cx a r.2 else ih cx b r.2) (eval (.IfExp t a b p) F.env):=by
 intro c s Q E o R g
 refine wpAny_IfExp (g.bind (vY hI hF k t st) o R fun w₁ st₁ c₁ v₁ s₁ _ l₁ o₁ R₁ p₁ z₁ g=>?_)
 obtain rfl:v₁=w₁:=p₁
 cases v₁ with
 | true=>exact hI F cx a st₁ hF c₁ s₁ Q E o₁ R₁ g
 | false=>exact hI F cx b st₁ hF c₁ s₁ Q E o₁ R₁ g
theorem CG {op:UnaryOp} (h:v4 op=true):op=.USub:=by cases op<;>first | rfl | exact nk6 h
theorem EJ (hI:cD Γ H ih) (hF:aV Γ F cx) {op:UnaryOp}{a:Expr}{p:Pos}:TG Γ (aH Γ.w) H F st (gp (v4 op) ((ih cx a st).bind fun r=>opt (nF r.1) fun i=>.ok (.f (.int (-i)),r.2))) (eval (.UnaryOp op a p) F.env) :=
 fun c s Q E o R g=>g.gp fun hs g=>by
  rw[CG hs]
  exact wpAny_UnaryOp (g.bind (hI F cx a st hF) o R fun w₁ st₁ c₁ v₁ s₁ _ l₁ o₁ R₁ p₁ z₁ g=>g.opt fun i hi g=>p₁.iE hi fun t=>neg_int (g.done' (.refl _) R₁ (.int _ _) ⟨rfl,rfl⟩))
end
end Mine
end
section
namespace Mine
theorem DG (n a:Str) (t:Tok):(Value.str n t).isStr a=(n == a):=rfl
theorem zY {e:DictEntry}{n a:Str}{t:Tok}{r:List DictEntry} (hk:e.key=.str n t) (z:n ≠ a):W.getL a (e::r)=W.getL a r:=by
 unfold W.getL
 rw[List.find?_cons_of_neg (p:=fun x:DictEntry=>x.key.isStr a) (by show ¬ e.key.isStr a=true;rw[hk];exact fun y=>z (beq_iff_eq.mp y)),List.any_cons,show e.refKey=false by unfold DictEntry.refKey;rw[hk],Bool.false_or]
theorem fZ.getL {α:Type}{R:Value→α→Prop}{a:Str}{y:α}{fs:List (Str × α)}:∀ {es:List DictEntry},fZ R es fs→lk a fs=some y→∃ v,W.getL a es=some (some v)∧R v y:=by
 induction fs with
 | nil=>exact fun _ h=>nk3 h
 | cons x r ih =>
  intro es h q
  obtain⟨e,es,rfl,⟨⟨t,hk⟩,p⟩,h⟩:=h.cI
  refine AM q (fun z q=>⟨e.val,?_,Option.some.inj q ▸ p⟩) fun z q=>?_
  ·unfold W.getL
   rw[List.find?_cons_of_pos (p:=fun x:DictEntry=>x.key.isStr a) (by show e.key.isStr a=true;rw[hk,z];exact beq_self_eq_true x.1)]
  ·rw[zY hk fun y=>z y.symm];exact ih h q
theorem fZ.noKey {α:Type}{R:Value→α→Prop}{a:Str}{fs:List (Str × α)}:∀ {es:List DictEntry},fZ R es fs→lk a fs=none→W.getL a es=some none:=by
 induction fs with
 | nil=>intro es h _;obtain rfl:es=[]:=h;rfl
 | cons x r ih =>
  intro es h q
  obtain⟨e,es,rfl,⟨⟨t,hk⟩,p⟩,h⟩:=h.cI
  exact AM q (fun z q=>nk4 q) fun z q=>by rw[zY hk fun y=>z y.symm];exact ih h q
theorem iD.g {w:World}{B:PM}{fs:List (Str × FV)}:∀ {es:List DictEntry},iD w B es fs→fZ (aO w B) es fs:=by
 induction fs with
 | nil=>exact fun h=>h
 | cons x r ih=>exact fun {es} (h:∃ e r',es=e::r'∧((∃ t,e.key=.str x.1 t)∧aO w B e.val x.2)∧iD w B r' r)=>h.imp fun e h=>h.imp fun r h=>⟨h.1,h.2.1,ih h.2.2⟩
theorem hJ.frozen {w:World}{c:Cf}{fs:List (Str × PV)}:∀ {es:List DictEntry}{ys:List (Str × FV)},hJ w c es fs→nU fs=some ys→iD w c.B es ys:=by
 induction fs with
 | nil=>intro es ys h e;rw[← Option.some.inj e];exact h
 | cons x r ih =>
  intro es ys h e
  obtain⟨d,es,rfl,⟨hk,p⟩,h⟩:=fZ.cI h
  exact ob e fun y hy e=>ob e fun zs hz e=>Option.some.inj e ▸ ⟨d,es,rfl,⟨hk,p.fE hy⟩,ih h hz⟩
section
variable {w:World}{H:PM}{env:Env}{c:Cf}{st:St}{h h':Heap}{v:Value}
theorem Pz {ow:Addr→Option bY}{k:Nat}{sl:Slot} (h:uJ ow k sl):ow sl.addr=some (.g k):=by
 cases sl with
 | o a d=>exact h.1
 | l a=>exact h
inductive O2 (w:World) (c:Cf) (h:Heap) (k:Nat) (m:MO) (v:Value):Prop where
 | mk (sl:Slot) (o:Obj) (hv:v=.ref sl.addr) (hS:c.S[k]? = some sl) (ow:uJ c.ow k sl) (get:h.get? sl.addr=some o) (is:jE w c sl o m):O2 w c h k m v
theorem aC.gAt (R:aC w H env c st h) {k:Nat}{m:MO} (p:aH w c v (.ref k)) (hk:st.g[k]? = some m):O2 w c h k m v:=by
 obtain⟨sl,rfl,hS⟩:=p.refI
 have ow:=R.ix.g k sl hS
 obtain⟨o,e,D4,q1,_,q3⟩:=R.owG (Pz ow)
 obtain rfl:=Option.some.inj (hS.symm.trans q1)
 exact⟨sl,o,rfl,hS,ow,e,q3 m hk⟩
@[elab_as_elim] theorem aC.iE {P:Value→Prop}{k:Nat}{x:PV}{q:Nat × List (Str × PV)} (R:aC w H env c st h) (p:aH w c v x) (hx:tN x=some k) (hk:jD st.g k=some q)
  (f:∀ a d es n,c.S[k]? = some (.o a d)→c.ow a=some (.g k)→c.ow d=some (.d k)→h.get? a=some (instObj q.1 d)→h.get? d=some (dictOf es n)→hJ w c es q.2→P (.ref a)):P v:=by
 rw[pE hx]at p
 have hk:=nR hk
 obtain⟨sl,o,rfl,hS,ow,e,a,d,rfl,rfl⟩:=R.gAt p hk
 obtain⟨od,e2,_,q1,q2⟩:=R.owG ow.2
 obtain⟨es,n,rfl,q⟩:=q2 _ _ hk
 exact f a d es n hS ow.1 ow.2 e e2 q
@[elab_as_elim] theorem aC.lE {P:Value→Prop}{k:Nat}{x:PV}{xs:List FV} (R:aC w H env c st h) (p:aH w c v x) (hx:nQ x=some k) (hk:f6 st.l k=some xs)
  (f:∀ a us n,c.L[k]? = some a→c.ow a=some (.l k)→h.get? a=some (PySem.W.listOf us.toArray n)→aQ w c.B us xs→P (.ref a)):P v:=by
 rw[uO hx]at p
 have hk:=fU hk
 obtain⟨a,rfl,hL⟩:=p.locI
 have ow:=R.ix.l k a xs hL hk
 obtain⟨o,e,_,q⟩:=R.owG ow
 obtain⟨us,n,rfl,q2⟩:=q xs hk
 exact f a us n hL ow e q2
@[elab_as_elim] theorem aC.itE {P:Value→Prop}{x:PV}{xs:List FV} (R:aC w H env c st h) (p:aH w c v x) (e:fX x st=some xs) (f:∀ a us n,h.get? a=some (PySem.W.listOf us.toArray n)→aQ w c.B us xs→P (.ref a)):P v:=by
 cases x with
 | f x=>exact p.fI.lE e fun a n us ha q=>f a us n (R.b _ _ ha) q
 | loc k=>exact R.lE p rfl e fun a us n _ _ ha q=>f a us n ha q
 | ref k =>
  obtain⟨sl,o,rfl,_,_,get,a,us,n,rfl,rfl,q⟩:=R.gAt p (fU e)
  exact f a us n get q
end
section
variable {Γ:Gm}{H:PM}{F:Fr}{cx:Cx}{c:Cf}{s:Shared}{st:St}{Q:Value→Shared→Prop}{E:Value→Shared→Prop}{ih:Cx→Expr→St→Pg (PV × St)}
theorem DC {v:Value}{w:PV} (p:aH Γ.w c v w) (h:v9 w=true):handedIn v=true:=by
 cases w with
 | f x=>cases x with
  | none=>rw[p.fI.noneI];rfl
  | bool=>rw[p.fI.boolI];rfl
  | int=>exact p.fI.iE rfl fun t=>rfl
  | str=>exact p.fI.sE rfl fun t=>rfl
  | tup=>exact p.fI.tE rfl fun _ _ _ _ _=>rfl
  | lst=>exact p.fI.lE rfl fun _ _ _ _ _=>rfl
  | obj=>obtain⟨_,_,_,_,rfl,_⟩:=p.fI.objI;rfl
  | dct=>obtain⟨_,_,_,rfl,_⟩:=p.fI.dctI;rfl
  | top a=>rw[show v=.ref a from p];rfl
  | typ n=>rw[show v=.type n.id from p];rfl
  | blt=>exact nk6 h
 | ref=>obtain⟨_,rfl,_⟩:=p.refI;rfl
 | loc=>obtain⟨_,rfl,_⟩:=p.locI;rfl
theorem yS (hK:cW Γ.w Γ.K Γ.T) (KI:Γ.K.In s.heap) {x d C n:Nat}{a:Str}{u:Value}{y:PV}{es:List DictEntry} (hf:nE Γ.T C a=true) (h1:s.heap.get? x=some (instObj C d)) (h2:s.heap.get? d=some (dictOf es n)) (e:W.getL a es=some (some u)) (pu:aH Γ.w c u y) (hb:v9 y=true)
  (q:∀ s',s'.heap=s.heap→aS s s'→Q u s'):wpAny (model pw Γ.w) F.A (getAttr (.ref x) a true) Q E s:=by
 obtain⟨g1,g2,⟨attr,g3,g4⟩,_⟩:=hK.fld C a hf
 exact get_value KI (od:=some (dictOf es n)) ⟨h1,rfl,rfl,h2⟩ (plainGet_of g1).1 (findObj_own g2 g3 g4 e) (DC pu hb) (q _ rfl ⟨rfl,rfl⟩)
theorem DY (hK:cW Γ.w Γ.K Γ.T) (o:Ok Γ H F c) (R:aC Γ.w H F.env c st s.heap) {v:Value}{x y:PV}{a:Str} (p:aH Γ.w c v x) (h:yQ Γ.T x a st=some y)
  (q:∀ u s',aH Γ.w c u y→s'.heap=s.heap→aS s s'→Q u s'):wpAny (model pw Γ.w) F.A (getAttr v a true) Q E s:=by
 have KI:=o.kin R
 cases x with
 | f x =>
  refine ob h fun r hr h=>aD h fun hf h=>ob h fun y' hy h=>aD h fun hb h=>?_
  obtain⟨x,d,n,es,rfl,h1,h2,h3⟩:=aO.objI (CH hr ▸ p.fI)
  obtain⟨u,e1,e2⟩:=h3.g.getL hy
  exact yS hK KI hf (R.b _ _ h1) (R.b _ _ h2) e1 (c:=c) (y:=.f y') e2 hb fun s' e z=>q u s' (Option.some.inj h ▸ e2) e z
 | ref k =>
  refine ob h fun r hr h=>aD h fun hf h=>ob h fun y' hy h=>aD h fun hb h=>R.iE p rfl hr fun x d es n _ _ _ h1 h2 h3=>?_
  obtain⟨u,e1,e2⟩:=fZ.getL h3 hy
  exact yS hK KI hf h1 h2 e1 e2 hb fun s' e z=>q u s' (Option.some.inj h ▸ e2) e z
 | loc=>exact nk3 h
theorem zR {o:Expr}{a:Str}{env:Env} (h:tL o=true) (x:Sem Value):attributeBase o a env x=x:=by
 cases o with
 | Call f args ks p=>cases f with
  | Name=>cases args with
   | nil=>cases ks with
    | nil=>exact nk6 h
    | cons=>rfl
   | cons=>rfl
  | _=>rfl
 | _=>rfl
theorem Hq (hK:cW Γ.w Γ.K Γ.T) (hI:cD Γ H ih) (hF:aV Γ F cx) {e:Expr}{a:Str}{p:Pos}:TG Γ (aH Γ.w) H F st (gp (tL e) ((ih cx e st).bind fun r=>opt (yQ Γ.T r.1 a r.2) fun w=>.ok (w,r.2))) (eval (.Attribute e a p) F.env) :=
 fun c s Q E o R g=>g.gp fun hb g=>Attribute_any_ (aG.bind g (hI F cx e st hF) o R fun w₁ st₁ c₁ v₁ s₁ _ l₁ o₁ R₁ p₁ z₁ g=>g.opt fun y hy g=>DY hK o₁ R₁ p₁ hy fun u s' pu e z=>aG.done' g (.refl _) (e ▸ R₁) pu z) (by rw[arm_eval_Attribute,zR hb])
theorem uI (slice:Expr) (v i:Value):∃ ops,subscripted slice false v i=operate ops (getItem v i):=by
 unfold subscripted
 cases slice with
 | Slice a b c p=>cases c<;>exact⟨_,rfl⟩
 | _=>exact⟨_,rfl⟩
structure qF (i:Int) (n j:Nat):Prop where
 lt:j < n
 e:(0 ≤ i∧i=(j:Int))∨(i < 0∧i + (n:Int)=(j:Int))
 b1 : -(2 ^ 63) ≤ i
 b2:i < 2 ^ 63
theorem rG {i:Int}{n j:Nat} (h:Au i n=some j):qF i n j:=by
 cases i with
 | ofNat k =>
  refine aD h fun h1 h=>aD h fun h2 h=>?_
  obtain rfl:=Option.some.inj h
  have:=Int.ofNat_le.mpr (Nat.le_of_ble_eq_true h2)
  exact⟨eK h1,.inl ⟨Int.natCast_nonneg k,rfl⟩,Int.le_trans (by decide) (Int.natCast_nonneg k),Int.lt_of_le_of_lt this (by decide)⟩
 | negSucc k =>
  refine aD h fun h1 h=>aD h fun h2 h=>?_
  obtain rfl:=Option.some.inj h
  have:=Nat.le_of_ble_eq_true h2
  exact⟨Nat.sub_lt (Nat.lt_of_le_of_lt (Nat.zero_le k) (eK h1)) (Nat.succ_pos k),.inr ⟨Int.negSucc_lt_zero k,Int.subNatNat_of_le (eK h1)⟩,by lia,Int.lt_trans (Int.negSucc_lt_zero k) (by decide)⟩
theorem qF.idx {i:Int}{n j:Nat} (h:qF i n j):seqIndex? i n=some j:=by
 have e:(if i < 0 then i + (n:Int) else i)=(j:Int):=h.e.elim (fun q=>(if_neg (Int.not_lt.mpr q.1)).trans q.2) fun q=>(if_pos q.1).trans q.2
 show(if (decide (0 ≤ (if i < 0 then i + (n:Int) else i))&&decide ((if i < 0 then i + (n:Int) else i) < n))=true then some (if i < 0 then i + (n:Int) else i).toNat else none)=_
 rw[e,if_pos (by rw[decide_eq_true (Int.natCast_nonneg j),decide_eq_true (Int.ofNat_lt.mpr h.lt)];rfl)];rfl
theorem Bv {a:Addr}{us:List Value}{n:Nat}{i:Int}{t:Tok}{j:Nat}{u:Value}{A:Around} (h:s.heap.get? a=some (PySem.W.listOf us.toArray n)) (hp:qF i us.length j) (hu:us[j]? = some u) (q:Q u s):wpAny (model pw Γ.w) A (getItem (.ref a) (.int i t)) Q E s:=by
 have hl:s.heap.IsList a us.toArray:=⟨_,h,rfl,_,rfl⟩
 rcases hp.e with ⟨e1,e⟩ | ⟨e1,e⟩
 ·subst e;exact wpAny_getItem_list hl e1 hp.b2 (x:=u) ((List.getElem?_toArray ..).trans hu) q
 ·have e:i + (us.toArray.size:Int)=(j:Int):=e
  exact wpAny_getItem_list_neg hl e1 (Int.neg_le_of_neg_le (by lia)) hp.b1 (x:=u) (by rw[e];exact(List.getElem?_toArray ..).trans hu) q
theorem Kv (R:aC Γ.w H F.env c st s.heap) {v vi:Value}{x i y:PV} (p:aH Γ.w c v x) (pi:aH Γ.w c vi i) (h:bJ x i st=some y) {value slice:Expr}
  (q:∀ u s',aH Γ.w c u y→s'.heap=s.heap→aS s s'→Q u s'):wpAny (model pw Γ.w) F.A (subscriptTail value slice v vi) Q E s:=by
 obtain⟨ops,hops⟩:=uI slice v vi
 revert hops
 refine ob h fun k hk h=>fC h (fun es he h=>fK he fun x' hx he=>ob h fun oo ho h=>?_) fun _ h=>ob h fun i' hi h=>(pi.fE hk).iE hi fun t=>fC h (fun s' hs h=>ob h fun j hj h=>ob h fun ch hch h=>?_) fun _ h=>fC h (fun l hl h=>fK hl fun x' hx hl=>ob h fun j hj h=>ob h fun z hz h=>?_) fun _ h=>ob h fun l hl h=>ob h fun j hj h=>ob h fun z hz h=>?_
 ·refine ob h fun y' hy h=>dgetE R.b (p.fE (hx ▸ rfl)) he (pi.fE hk) ho fun d hd hops=>?_
  obtain⟨Kt,i,knd,kk,f,hm,hk,hf,hr⟩:=hd
  rw[hy]at hr
  obtain⟨u,hu,fu⟩:=hr
  exact tail_any hf.typeIs _root_.PySem.F.slot_dict_getitem.lookup (wpAny_getItem_of hk hf hu (q _ _ (Option.some.inj h ▸ fu) rfl ⟨rfl,rfl⟩)) hops
 ·refine p.sE hs fun t' hops=>?_
  have pl:=rG hj
  refine tail_any (typeIs_str s _ _) _root_.PySem.F.slot_str_getitem.lookup (P.getItem_str (c:=ch) ?_ ?_ (q _ _ (Option.some.inj h ▸ .str [ch] _) rfl ⟨rfl,rfl⟩)) hops
  ·rw[decide_eq_false (Int.not_lt.mpr pl.b1),decide_eq_false (Int.not_le.mpr pl.b2)];rfl
  ·rw[len_str,pl.idx,Option.bind_some,List.getElem?_toArray,← mQ];exact hch
 ·refine(p.fE (hx ▸ rfl)).tE hl fun a n us hb rb hops=>?_
  obtain⟨u,hu,fu⟩:=rb.get ((mQ _ _).symm.trans hz)
  have ht:IsTup s.heap a us.toArray:=⟨_,R.b _ _ hb,rfl,_,rfl⟩
  have pl:=rG hj
  exact tail_any ht.typeIs slot_tuple_getitem.lookup (getItem_tuple ht pl.b1 pl.b2 (by rw[List.size_toArray,rb.length];exact pl.idx) (by rw[List.getElem?_toArray];exact hu) (q _ _ (Option.some.inj h ▸ aH.f fu) rfl (.refl s))) hops
 ·refine R.itE p hl fun a us n hb rb hops=>?_
  obtain⟨u,hu,fu⟩:=rb.get ((mQ _ _).symm.trans hz)
  exact tail_any (T := "list") ⟨_,hb,rfl⟩ slot_list_getitem.lookup (Bv (Γ:=Γ) hb (rb.length ▸ rG hj) hu (q _ _ (Option.some.inj h ▸ fu) rfl (.refl s))) hops
theorem L5 (hI:cD Γ H ih) (hF:aV Γ F cx) {e i:Expr}{p:Pos}:TG Γ (aH Γ.w) H F st ((ih cx e st).bind fun r=>(ih cx i r.2).bind fun q=>qV cx.f (bJ r.1 q.1) q.2 fun w=>.ok (w,q.2)) (eval (.Subscript e i p) F.env) :=
 fun c s Q E o R g=>Subscript_ (g.bind (hI F cx e st hF) o R fun w₁ st₁ c₁ v₁ s₁ _ l₁ o₁ R₁ p₁ z₁ g=>aG.bind g (hI F cx i st₁ hF) o₁ R₁ fun w₂ st₂ c₂ v₂ s₂ _ l₂ o₂ R₂ p₂ z₂ g=>g.qV fun y hy g=>Kv R₂ (p₁.mono l₂) p₂ hy fun u s' pu e z=>aG.done' g (.refl _) (e ▸ R₂) pu z)
end
end Mine
end
section
namespace Mine
theorem cU {α:Type}{l:List α}{k:Nat}{x y:α}{P:Prop} (e:(l++[x])[k]? = some y) (h1:l[k]? = some y→P) (h2:k=l.length→x=y→P):P:=by
 by_cases z:k < l.length
 ·exact h1 (by rw[List.getElem?_append_left z]at e;exact e)
 ·rw[List.getElem?_append_right (Nat.le_of_not_lt z)]at e
  have z':k - l.length=0:=Nat.lt_one_iff.mp (dJ e)
  exact h2 (Nat.le_antisymm (Nat.le_of_sub_eq_zero z') (Nat.le_of_not_lt z)) (by rw[z']at e;exact Option.some.inj e)
theorem n6 {α:Type}{l:List α}{x:α}:(l++[x])[l.length]? = some x:=List.getElem?_concat_length
section
variable {w:World}{H:PM}{env:Env}{c:Cf}{st:St}{h h':Heap}{v:Value}
noncomputable def Cf.frzL (c:Cf) (a:Addr) (o:Obj):Cf:={ c with B:=iN c.B a (some o),ow:=iN c.ow a none }
theorem aC.freezeL (R:aC w H env c st h) {k:Nat}{xs:List FV} (hk:st.l[k]? = some (.lst xs)) {a:Addr} (hL:c.L[k]? = some a) :
  ∃ c',c.le c'∧aC w H env c' { st with l:=e8 st.l k .dead } h∧aO w c'.B (.ref a) (.lst xs):=by
 have ow:=R.ix.l k a xs hL hk
 obtain⟨o,get,_,q⟩:=R.owG ow
 obtain⟨us,n,rfl,q2⟩:=q xs hk
 have B0:=R.owB ow
 have l:c.le (c.frzL a (PySem.W.listOf us.toArray n)):=⟨fun b x e=>qL B0 e,List.prefix_refl _,List.prefix_refl _,rfl,rfl⟩
 have other:∀ {b:Addr}{t:bY},(∀ j,t ≠ .l j)→c.ow b=some t→iN c.ow a none b=some t:=fun {b t} n e=>(eZ (a:=a) (b:=b) fun z=>n k (Option.some.inj ((z ▸ e:c.ow a=some t).symm.trans ow))).trans e
 refine⟨_,l,⟨fun b x e=>jS e (fun z1 z2=>z1 ▸ z2 ▸ get) fun _=>R.b b x,fun b x e=>jS e (fun z1 _=>z1 ▸ R.owH ow) fun _=>R.bh b x,R.hh,R.fsH,fun b t e=>jS e (fun _=>nk3) fun z e=>⟨(eZ z).trans (R.owB e),R.owH e,(R.owG e).imp fun o p=>⟨p.1,?_⟩⟩,
  ⟨other nofun R.ix.loc,fun x b e=>(R.ix.cel x b e).imp (other nofun) fun q=>⟨q.1,q.2.imp fun o q=>⟨q.1,q.2.mono l⟩⟩,R.ix.celd,R.ix.gl,fun j sl e=>?_,R.ix.ll.trans (kH _ _ _).symm,fun j b ys e1 e2=>dZ e2 (fun _ _=>by rintro ⟨⟩) (fun ne e2=>?_) fun e2=>?_,fun j C fs e=>dZ e (fun _ _=>by rintro ⟨⟩) (fun _=>R.ix.nol j C fs) fun q=>?_⟩⟩,aO.lst gS (q2.mono l.b)⟩
 ·have own:=p.2.mono l
  cases t with
  | l j=>exact⟨own.1,fun ys e=>dZ e (fun _ _=>by rintro ⟨⟩) (fun _=>own.2 ys) fun q=>absurd (dJ own.1) (Nat.not_lt.mpr (R.ix.ll ▸ List.getElem?_eq_none_iff.mp q))⟩
  | _=>exact own
 ·have:=R.ix.g j sl e
  cases sl with
  | o b d=>exact⟨other nofun this.1,other nofun this.2⟩
  | l b=>exact other nofun this
 ·have e:=R.ix.l j b ys e1 e2
  exact(eZ fun z=>ne (by have:=Option.some.inj (ow.symm.trans (z ▸ e));injection this)).trans e
 ·exact absurd (dJ e1) (Nat.not_lt.mpr (R.ix.ll ▸ List.getElem?_eq_none_iff.mp e2))
 ·have:=dJ e;rw[kH]at this;exact absurd this (Nat.not_lt.mpr (List.getElem?_eq_none_iff.mp q))
inductive w9 (w:World) (H:PM) (env:Env) (c:Cf) (st:St) (h:Heap) (p:Cf→Prop):Prop where
 | mk (c':Cf) (l:c.le c') (R:aC w H env c' st h) (q:p c'):w9 w H env c st h p
theorem Ig (R:aC w H env c st h) {x:PV} (p:aH w c v x) {r:PV × St} (e:Jw x st=some r):w9 w H env c r.2 h fun c'=>aH w c' v r.1 :=
 fC e (fun k hk e=>ob e fun vs hv e=>by
  rw[uO hk]at p
  obtain⟨a,rfl,hL⟩:=p.locI
  obtain⟨c',l,R',f⟩:=R.freezeL (fU hv) hL
  exact Option.some.inj e ▸ ⟨c',l,R',f⟩) fun _ e=>Option.some.inj e ▸ ⟨c,.refl c,R,p⟩
theorem rP {ws:List PV}:∀ {vs:List Value}{c:Cf}{st:St}{r:List PV × St},aC w H env c st h→aX w c vs ws→tC ws st=some r→w9 w H env c r.2 h fun c'=>aX w c' vs r.1:=by
 induction ws with
 | nil=>intro vs c st r R p e;exact Option.some.inj e ▸ ⟨c,.refl c,R,p⟩
 | cons x ws ih =>
  intro vs c st r R p e
  obtain⟨v,us,rfl,p,q⟩:=p.cI
  refine ob e fun a e1 e=>ob e fun b e2 e=>?_
  obtain⟨c₁,l₁,R₁,p₁⟩:=Ig R p e1
  obtain⟨c₂,l₂,R₂,p₂⟩:=ih R₁ (q.mono l₁) e2
  exact Option.some.inj e ▸ ⟨c₂,l₁.trans l₂,R₂,.cons (p₁.mono l₂) p₂⟩
theorem vD {ws:List PV}:∀ {vs:List Value}{xs:List FV},aX w c vs ws→frozen ws=some xs→aQ w c.B vs xs:=by
 induction ws with
 | nil=>intro vs xs p e;exact Option.some.inj e ▸ p
 | cons x ws ih =>
  intro vs xs p e
  obtain⟨v,us,rfl,p,q⟩:=p.cI
  exact ob e fun y hy e=>ob e fun ys hys e=>Option.some.inj e ▸ .cons (p.fE hy) (ih q hys)
theorem aC.ext (R:aC w H env c st h) {c':Cf}{st':St} (l:c.le c') (hB:c'.B=c.B) (gr:aY h h') (how:∀ a t,c.ow a=some t→c'.ow a=some t) (hs:∀ a o t,c.ow a=some t→Own w env c' st a o t→Own w env c' st' a o t)
  (hn:∀ a t,c'.ow a=some t→c.ow a=some t∨(h.get? a=none∧∃ o,h'.get? a=some o∧Own w env c' st' a o t)) (ix:Ix w H env c' st'.g st'.l st'.c):aC w H env c' st' h' where
 b a o e:=gr _ _ (R.b a o (hB ▸ e))
 bh a o e:=R.bh a o (hB ▸ e)
 hh a o e:=l.fs ▸ (R.hh a o e).grows gr
 fsH a e:=R.fsH a (l.fs ▸ e)
 own a t e:=(hn a t e).elim (fun e=>⟨hB ▸ R.owB e,R.owH e,(R.owG e).imp fun o q=>⟨gr _ _ q.1,hs a o t e (q.2.mono l)⟩⟩) fun q=>⟨hB ▸ (R.free q.1).1,(R.free q.1).2.1,q.2⟩
 ix:=ix
theorem uJ.up {ow ow':Addr→Option bY} (f:∀ a t,ow a=some t→ow' a=some t) {k:Nat}{sl:Slot} (h:uJ ow k sl):uJ ow' k sl:=by
 cases sl with
 | o a d=>exact⟨f _ _ h.1,f _ _ h.2⟩
 | l a=>exact f _ _ h
theorem nT.up {c':Cf} (l:c.le c') (f:∀ a t,c.ow a=some t→c'.ow a=some t) {cc:List (Str × PV)}{x:Str}{a:Addr} (h:nT w H c cc x a):nT w H c' cc x a:=h.imp (f _ _) fun q=>⟨l.ro ▸ q.1,q.2.imp fun o q=>⟨q.1,q.2.mono l⟩⟩
theorem wN (R:aC w H env c st h) {us:List Value}{vs:List FV} (f:aQ w c.B us vs) {m g:Bool}{r:PV × St} (e:gQ m g vs st=some r) {a₀:Addr}{n₀:Nat} (gr:aY h h') (free:h.get? a₀=none) (get:h'.get? a₀=some (PySem.W.listOf us.toArray n₀)) :
  us.length ≤ sizeLine∧w9 w H env c r.2 h' fun c'=>aH w c' (.ref a₀) r.1:=by
 refine aD e fun hf e=>⟨f.length ▸ cY hf,?_⟩
 rw[← Option.some.inj e]
 have n3:=(R.free free).2.2
 have how:∀ {t:bY} b u,c.ow b=some u→iN c.ow a₀ (some t) b=some u:=fun b u e=>qL n3 e
 cases g with
 | true =>
  let c':Cf:={ c with ow:=iN c.ow a₀ (some (.g st.g.length)),S:=c.S++[.l a₀] }
  have l:c.le c':=⟨.refl _,List.prefix_append _ _,List.prefix_refl _,rfl,rfl⟩
  have hS:c'.S[st.g.length]? = some (.l a₀):=R.ix.gl ▸ n6
  refine⟨c',l,R.ext l rfl gr how (fun b o t eb q=>?_) (fun b t e=>jS e (fun z1 z2=>.inr ⟨z1 ▸ free,_,z1 ▸ get,Option.some.inj z2 ▸ Own.gI hS z1.symm fun mo e=>cU e (fun e=>absurd (dJ e) (Nat.lt_irrefl _)) fun _ e=>e ▸ jE.lstI f⟩) fun _=>.inl)
   ⟨how _ _ R.ix.loc,fun x b e=>(R.ix.cel x b e).up l how,R.ix.celd,(List.length_append ..).trans ((congrArg (· + 1) R.ix.gl).trans (List.length_append (as:=st.g) (bs:=[_])).symm),fun k sl e=>cU e (fun e=>(R.ix.g k sl e).up how) fun z e=>by subst e;rw[z,R.ix.gl];exact gS,R.ix.ll,fun k a xs e1 e2=>how _ _ (R.ix.l k a xs e1 e2),R.ix.nol⟩,aH.ref hS⟩
  cases t with
  | g k=>exact Exists.imp (fun sl q=>⟨q.1,q.2.1,fun mo e=>cU e (q.2.2 mo) fun z e=>by subst e;have z2:=q.1;rw[z,hS]at z2;rw[← Option.some.inj z2]at q;rw[← show a₀=b from q.2.1,n3]at eb;exact nk3 eb⟩) q
  | d k=>exact Exists.imp (fun sl q=>⟨q.1,fun C fs e=>cU e (q.2 C fs) fun _=>by rintro ⟨⟩⟩) q
  | _=>exact q
 | false=>cases m with
  | true =>
   let c':Cf:={ c with ow:=iN c.ow a₀ (some (.l st.l.length)),L:=c.L++[a₀] }
   have l:c.le c':=⟨.refl _,List.prefix_refl _,List.prefix_append _ _,rfl,rfl⟩
   have hL:c'.L[st.l.length]? = some a₀:=R.ix.ll ▸ n6
   refine⟨c',l,R.ext l rfl gr how (fun b o t eb q=>?_) (fun b t e=>jS e (fun z1 z2=>.inr ⟨z1 ▸ free,_,z1 ▸ get,Option.some.inj z2 ▸ Own.lI (z1 ▸ hL) fun xs e=>cU e (fun e=>absurd (dJ e) (Nat.lt_irrefl _)) fun _ e=>⟨us,n₀,rfl,by cases e;exact f⟩⟩) fun _=>.inl)
    ⟨how _ _ R.ix.loc,fun x b e=>(R.ix.cel x b e).up l how,R.ix.celd,R.ix.gl,fun k sl e=>(R.ix.g k sl e).up how,(List.length_append ..).trans ((congrArg (· + 1) R.ix.ll).trans (List.length_append (as:=st.l) (bs:=[_])).symm),fun k a xs e1 e2=>?_,fun k C fs e=>cU e (R.ix.nol k C fs) fun _=>by rintro ⟨⟩⟩,aH.loc hL⟩
   ·cases t with
    | l k=>exact⟨q.1,fun xs e=>cU e (q.2 xs) fun z _=>by have z2:=q.1;rw[z,hL]at z2;rw[← Option.some.inj z2,n3]at eb;exact nk3 eb⟩
    | _=>exact q
   ·refine cU e1 (fun e1=>cU e2 (fun e2=>how _ _ (R.ix.l k a xs e1 e2)) fun z _=>absurd (dJ e1) (by rw[z,R.ix.ll];exact Nat.lt_irrefl _)) fun z e=>by subst e;rw[z,R.ix.ll];exact gS
  | false =>
   obtain⟨R',l,e'⟩:=R.newAt gr free get
   exact⟨_,l,R',aO.lst e' (f.mono l.b)⟩
theorem rL (R:aC w H env c st h) {us:List Value}{vs:List FV} (f:aQ w c.B us vs) {m g:Bool}{r:PV × St} (e:gQ m g vs st=some r):us.length ≤ sizeLine∧w9 w H env c r.2 (h.push (PySem.W.listOf us.toArray 0)) fun c'=>aH w c' (.ref h.objs.size) r.1 :=
 wN R f e (aY.push _ _) (get?_size h) (Heap.get?_push_size _ rfl)
end
section
variable {Γ:Gm}{H:PM}{F:Fr}{cx:Cx}{c:Cf}{s:Shared}{st:St}{Q:Value→Shared→Prop}{E:Value→Shared→Prop}{ih:Cx→Expr→St→Pg (PV × St)}
theorem Em (hI:cD Γ H ih) (hF:aV Γ F cx) {es:List Expr}{p:Pos}{m g:Bool}:TG Γ (aH Γ.w) H F st ((oR ih cx es st).bind fun r=>opt (tC r.1 r.2) fun q=>opt (frozen q.1) fun xs=>opt (gQ m g xs q.2) .ok) (eval (.List es p) F.env) :=
 fun c s Q E o R g=>wpAny_List_spliced (g.bind (i8 hI hF p es st) o R fun w₁ st₁ c₁ v₁ s₁ _ l₁ o₁ R₁ p₁ z₁ g=>g.opt fun q hq g=>g.opt fun xs hx g=>g.opt fun r hr g=>by
  obtain⟨c₂,l₂,R₂,p₂⟩:=rP R₁ p₁ hq
  obtain⟨sz,c₃,l₃,R₃,p₃⟩:=rL R₂ (vD p₂ hx) hr
  exact⟨sz,aG.done' (st:=r.2) g (l₂.trans l₃) R₃ p₃ ⟨rfl,rfl⟩⟩)
theorem Iu (hI:cD Γ H ih) (hF:aV Γ F cx) {es:List Expr}{k:Nat}{p:Pos}:TG Γ (aH Γ.w) H F st ((oR ih cx es st).bind fun r=>opt (frozen r.1) fun xs=>gp (fits xs.length) (.ok (.f (.tup xs),r.2))) (eval (.Tuple es k p) F.env) :=
 fun c s Q E o R g=>wpAny_Tuple_spliced (g.bind (i8 hI hF p es st) o R fun w₁ st₁ c₁ v₁ s₁ _ l₁ o₁ R₁ p₁ z₁ g=>g.opt fun xs hx g=>g.gp fun hf g=>by
  have f:=vD p₁ hx
  obtain⟨R',l,e'⟩:=R₁.newF { cls:=.type "tuple",data:=.seq v₁.toArray }
  exact⟨f.length ▸ cY hf,aG.done' g l R' (aO.tup (n:=0) e' (f.mono l.b)) ⟨rfl,rfl⟩⟩)
theorem Ep (hK:cW Γ.w Γ.K Γ.T) (o:Ok Γ H F c) (R:aC Γ.w H F.env c st s.heap):(s.heap.objs.size == sysModules)=false :=
 hK.mods.elim fun ob e=>beq_eq_false_iff_ne.mpr fun z=>nk3 ((get?_size s.heap).symm.trans (z.symm ▸ R.b _ _ (o.k _ _ e)))
theorem EI (hK:cW Γ.w Γ.K Γ.T) {p:Pos}:TG Γ (aH Γ.w) H F st (.ok (.f (.dct []),st)) (eval (.Dict [] [] p) F.env):=by
 intro c s Q E o R g
 obtain⟨R',l,e'⟩:=R.newF emptyDict
 exact wpAny_Dict_empty (aG.done' g l R' (aO.dct (w:=Γ.w) (n:=0) (es:=[]) (fs:=[]) (Ep hK o R) e' rfl) ⟨rfl,rfl⟩)
noncomputable def K5 (v:Value) (i:Option Int):Prop:=∃ p:Option (Int × Tok),v=partValue p∧p.map (·.1)=i
theorem zT (hI:cD Γ H ih) (hF:aV Γ F cx) (lo:Option Expr):TG Γ (fun c v x=>∀ i,Dy x=some i→K5 v i) H F st (Bw ih cx lo st) (evalPart lo F.env):=by
 intro c s Q E o R g
 cases lo with
 | none=>exact wpAny_pure (g.done R fun i e=>Option.some.inj e ▸ ⟨none,rfl,rfl⟩)
 | some e =>
  refine aG.bind g (hI F cx e st hF) o R fun w₁ st₁ c₁ v₁ s₁ _ l₁ o₁ R₁ p₁ z₁ g=>g.done R₁ fun i e=>ob e fun x hx e=>?_
  have p:=p₁.fE hx
  cases x with
  | none=>exact Option.some.inj e ▸ ⟨none,p.noneI,rfl⟩
  | int j=>obtain⟨t,q⟩:=p.intsI;exact Option.some.inj e ▸ ⟨some (j,t),q,rfl⟩
  | _=>exact nk3 e
theorem zV {p:Option (Int × Tok)}:IsPart (partValue p) (p.map (·.1)):=by
 cases p with
 | none=>exact .none
 | some q=>exact .int _ _
theorem IB {α:Type} (x:List α) (i j:Option Int):(cut x i j).length ≤ x.length:=Nat.le_trans (List.length_take_le' _ _) (by rw[List.length_drop];exact Nat.sub_le _ _)
theorem zE (x:List Nat) (l u:Option (Int × Tok)):slicePicked ⟨x.toArray⟩ l u none=sliceRange ((l.map (·.1)).elim 0 (clipAt x.length):Nat) ((u.map (·.1)).elim x.length (clipAt x.length):Nat) 1:=by
 have:=sliceBounds_plain (l.map (·.1)) (u.map (·.1)) x.length
 show Builtin.Str.strSliceIndices _ _ 1 x.length=_
 rw[show Builtin.Str.strSliceIndices (l.map (·.1)) (u.map (·.1)) 1 x.length=sliceRange (sliceBounds (l.map (·.1)) (u.map (·.1)) none x.length).1 (sliceBounds (l.map (·.1)) (u.map (·.1)) none x.length).2.1 1 by cases l<;>cases u<;>rfl,this]
theorem I0 {x:List Nat}{i j:Option Int} (h:(cut x i j).length=x.length):cut x i j=x:=by
 have h1:(x.drop (i.elim 0 (clipAt x.length))).length=x.length:=Nat.le_antisymm (by rw[List.length_drop];exact Nat.sub_le _ _) (Nat.le_trans (Nat.le_of_eq h.symm) (List.length_take_le' _ _))
 have h2:x.drop (i.elim 0 (clipAt x.length))=x:=(List.drop_sublist _ _).eq_of_length h1
 unfold cut at h ⊢
 rw[h2]at h ⊢
 exact(List.take_sublist _ _).eq_of_length h
theorem Hm {x:List Nat}{t:Tok}{l u:Option (Int × Tok)} (hz:x.length ≤ sizeLine) (q:∀ t' s',s'.heap=s.heap→aS s s'→Q (.str ⟨(cut x (l.map (·.1)) (u.map (·.1))).toArray⟩ t') s'):(sliceMade ⟨x.toArray⟩ t l u none).post Q s:=by
 have e2:(slicePicked ⟨x.toArray⟩ l u none).filterMap ((⟨x.toArray⟩:Str).cps[·]?)=cut x (l.map (·.1)) (u.map (·.1)):=by
  rw[zE,sliceRange_one,pick_run];rfl
 unfold sliceMade
 split
 ·rename_i h
  have h:(slicePicked ⟨x.toArray⟩ l u none).length=x.length:=beq_iff_eq.mp (Bool.and_eq_true_iff.mp h).2
  rw[zE,sliceRange_one,List.length_map,List.length_range]at h
  have hb:(u.map (·.1)).elim x.length (clipAt x.length) ≤ x.length:=by
   cases u with
   | none=>exact Nat.le_refl _
   | some j =>
    show clipAt x.length j.1 ≤ _
    have:=clipAt_cast x.length j.1
    omega
  have e3:cut x (l.map (·.1)) (u.map (·.1))=x:=I0 (by unfold cut;rw[List.length_take,List.length_drop,h];omega)
  rw[e3]at q
  exact q t s rfl (.refl s)
 ·rw[e2]
  exact⟨Nat.le_trans (IB x _ _) hz,q _ _ rfl ⟨rfl,rfl⟩⟩
theorem No {us:List Value}{vs:List FV} (f:aQ Γ.w c.B us vs) (i j:Option Int):aQ Γ.w c.B (cut us i j) (cut vs i j):=by
 unfold cut
 rw[f.length]
 exact(f.drop _).take _
theorem EB (hI:cD Γ H ih) (hF:aV Γ F cx) {e:Expr}{lo hi:Option Expr}{p p':Pos}{m:Bool} :
  TG Γ (aH Γ.w) H F st ((ih cx e st).bind fun r=>(Bw ih cx lo r.2).bind fun a=>(Bw ih cx hi a.2).bind fun b=>J1 cx m r.1 a.1 b.1 b.2) (eval (.Subscript e (.Slice lo hi none p') p) F.env):=by
 intro c s Q E o R g
 refine Subscript_ (g.bind (hI F cx e st hF) o R fun w₁ st₁ c₁ v₁ s₁ _ l₁ o₁ R₁ p₁ z₁ g=>wpAny_Slice ?_)
 refine aG.bind g (zT hI hF lo) o₁ R₁ fun x₂ st₂ c₂ v₂ s₂ _ l₂ o₂ R₂ q₂ z₂ g=>?_
 refine aG.bind g (zT hI hF hi) o₂ R₂ fun x₃ st₃ c₃ v₃ s₃ _ l₃ o₃ R₃ q₃ z₃ g=>?_
 rw[evalPart_none]
 refine wpAny_pure (g.opt fun i hi' g=>g.opt fun j hj g=>?_)
 obtain⟨pi,rfl,rfl⟩:=q₂ _ hi'
 obtain⟨pj,rfl,rfl⟩:=q₃ _ hj
 have p₃:=(p₁.mono l₂).mono l₃
 obtain⟨ops,hops⟩:=uI (.Slice lo hi none p') v₁ (.ref s₃.heap.objs.size)
 have R₄:=R₃.grows (aY.push s₃.heap { cls:=.type "slice",data:=.fields #[partValue pi,partValue pj,.none] })
 have get:(s₃.heap.push { cls:=.type "slice",data:=.fields #[partValue pi,partValue pj,.none] }).get? s₃.heap.objs.size=some { cls:=.type "slice",data:=.fields #[partValue pi,partValue pj,.none] }:=Heap.get?_push_size _ rfl
 revert hops
 refine g.oe (fun x hx g=>g.qV fun y hy g=>aD hy fun hf hy=>p₃.sE hx fun t hops=>?_) fun _ g=>aG.qS (V:=aH Γ.w) g fun y st' hy g=>ob hy fun vs hv hy=>aD hy fun hf hy=>R₃.itE p₃ hv fun a us n ha f hops=>?_
 ·exact tail_any (typeIs_str _ _ _) _root_.PySem.F.slot_str_getitem.lookup (wpAny_getItem_str_slice (l:=pi) (u:=pj) (st:=none) ⟨_,get,rfl,rfl⟩ rfl (Hm (cY hf) fun t' s' e z=>aG.done' g (.refl _) (e ▸ R₄) (Option.some.inj hy ▸ .str _ _) z)) hops
 ·obtain⟨sz,c₅,l₅,R₅,p₅⟩:=rL R₄ (No (Γ:=Γ) f (pi.map (·.1)) (pj.map (·.1))) hy
  refine tail_any (T := "list") ⟨_,aY.push _ _ _ _ ha,rfl⟩ slot_list_getitem.lookup (wpAny_getItem_list_slice ⟨_,aY.push _ _ _ _ ha,rfl,_,rfl⟩ ⟨_,get,rfl,rfl⟩ zV zV .none (by simp) ?_ (by rw[List.size_toArray,f.length];exact cY hf)) hops
  rw[show slicePick us.toArray (pi.map (·.1)) (pj.map (·.1)) none=(cut us (pi.map (·.1)) (pj.map (·.1))).toArray by rw[slicePick_plain];simp[cut]]
  exact aG.done' g l₅ R₅ p₅ ⟨rfl,rfl⟩
theorem Ja (hI:cD Γ H ih) (hF:aV Γ F cx) {e:Expr}{p p' q1 q2:Pos}{k:Nat}{m:Bool} :
  TG Γ (aH Γ.w) H F st ((ih cx e st).bind fun r=>K9 m r.1 r.2) (eval (.Subscript e (.Slice none none (some (.UnaryOp .USub (.Constant (.int 1) k q1) q2)) p') p) F.env):=by
 intro c s Q E o R g
 refine Subscript_ (g.bind (hI F cx e st hF) o R fun w₁ st₁ c₁ v₁ s₁ _ l₁ o₁ R₁ p₁ z₁ g=>wpAny_Slice ?_)
 rw[evalPart_none]
 refine wpAny_pure (wpAny_pure ?_)
 show wpAny _ _ (eval (.UnaryOp .USub (.Constant (.int 1) k q1) q2) F.env) _ _ _
 refine wpAny_UnaryOp (wpAny_Constant_int (neg_int (g.opt fun vs hv g=>g.gp fun hf g=>g.opt fun r hr g=>R₁.itE p₁ hv fun a us n ha f=>?_)))
 obtain⟨ops,hops⟩:=uI (.Slice none none (some (.UnaryOp .USub (.Constant (.int 1) k q1) q2)) p') (.ref a) (.ref s₁.heap.objs.size)
 have R₂:=R₁.grows (aY.push s₁.heap { cls:=.type "slice",data:=.fields #[.none,.none,.int (-1) (s₁.toks + 1)] })
 obtain⟨sz,c₅,l₅,R₅,p₅⟩:=rL R₂ f.reverse hr
 refine tail_any (T := "list") ⟨_,aY.push _ _ _ _ ha,rfl⟩ slot_list_getitem.lookup (wpAny_getItem_list_slice ⟨_,aY.push _ _ _ _ ha,rfl,_,rfl⟩ ⟨_,Heap.get?_push_size _ rfl,rfl,rfl⟩ .none .none (.int (-1) _) (by simp) ?_ (by rw[List.size_toArray,f.length];exact cY hf)) hops
 rw[krv_pick]
 exact aG.done' (st:=r.2) g l₅ R₅ p₅ ⟨rfl,rfl⟩
end
end Mine
end
section
namespace Mine
section
variable {w:World}{H:PM}{env:Env}{c:Cf}{st:St}{h h':Heap}{v:Value}
theorem aC.updL (R:aC w H env c st h) {k:Nat}{a:Addr}{ys:List FV}{us vs:List Value}{n:Nat}{f:Array Value→Array Value} (hL:c.L[k]? = some a) (hw:c.ow a=some (.l k)) (ho:h.get? a=some (PySem.W.listOf us.toArray n)) (hf:f us.toArray=vs.toArray) (hv:aQ w c.B vs ys) :
  aC w H env c { st with l:=e8 st.l k (.lst ys) } (h.update a (Obj.mapSeq f)) :=
 R.setL (m:=.dead) (n:=if (f us.toArray).size == us.toArray.size then n else n + 1) hL hw (fun b hb=>Heap.get?_update_ne _ _ _ _ hb) ((Heap.get?_update_self _ ho rfl).trans (hf ▸ rfl)) hv
theorem aQ.last {B:PM}{us:List Value}{xs:List FV}{x:FV}{r:List FV} (f:aQ w B us xs) (e:xs.reverse=x::r):∃ p y,us=p++[y]∧aQ w B p r.reverse∧aO w B y x:=by
 obtain⟨y,q,h,a,b⟩:=aQ.c (e ▸ f.reverse)
 exact⟨q.reverse,y,by rw[← List.reverse_reverse us,h,List.reverse_cons],b.reverse,a⟩
theorem CQ {B:PM}{xs:List FV}:∀ {us:List Value}{n:Nat},aQ w B us xs→mZ xs=some n→∃ ys:List Str,StrsAre us ys∧(ys.map (·.length)).sum=n∧ys.length=xs.length∧∀ s t,oH s xs=some t→Str.join ⟨s.toArray⟩ ys=⟨t.toArray⟩:=by
 induction xs with
 | nil=>intro us n q e;obtain rfl:=q.n;exact⟨[],.nil,Option.some.inj e,rfl,fun s t e=>Option.some.inj e ▸ rfl⟩
 | cons a r ih =>
  intro us n q e
  obtain⟨v,us,rfl,p,q2⟩:=q.c
  refine ob e fun x hx e=>ob e fun m hm e=>p.sE hx fun t=>?_
  obtain⟨ys,h1,h2,h3,h4⟩:=ih q2 hm
  refine⟨⟨x.toArray⟩::ys,.cons _ t h1,by rw[List.map_cons,List.sum_cons,h2];exact Option.some.inj e,congrArg (· + 1) h3,fun s t e=>ob e fun x' hx' e=>?_⟩
  obtain rfl:=Option.some.inj (hx.symm.trans hx')
  cases r with
  | nil=>obtain rfl:=List.eq_nil_of_length_eq_zero h3;exact Option.some.inj e ▸ rfl
  | cons x2 r2 =>
   cases ys with
   | nil=>exact absurd h3 nofun
   | cons y2 ys2 =>
    refine ob e fun y hy e=>?_
    show(⟨x.toArray⟩:Str)++(⟨s.toArray⟩:Str)++Str.join ⟨s.toArray⟩ (y2::ys2)=_
    rw[h4 s y hy,tZ,tZ];exact Option.some.inj e ▸ rfl
end
section
variable {Γ:Gm}{H:PM}{F:Fr}{cx:Cx}{c:Cf}{s:Shared}{st:St}{Q:Value→Shared→Prop}{E:Value→Shared→Prop}{ih:Cx→Expr→St→Pg (PV × St)}
noncomputable def qO.id:qO→String
 | .app => "list.append" | .pop => "list.pop" | .ext => "list.extend" | .join => "str.join" | .starts => "str.startswith" | .lstrip => "str.lstrip" | .get => "dict.get" | .fn _ => ""
theorem JT (R:aC Γ.w H F.env c st s.heap) {v:Value}{x:PV}{vs:List Value}{ws:List PV} (p:aH Γ.w c v x) (ps:aX Γ.w c vs ws) {r:PV × St} (e:Ak x ws st=some r) (q:∀ u s',aC Γ.w H F.env c r.2 s'.heap→aH Γ.w c u r.1→aS s s'→Q u s'):wpAny (model pw Γ.w) F.A (call (.builtin "list.append") (v::vs)) Q E s:=by
 refine ob e fun k hk e=>ob e fun u hu e=>ob e fun x hx e=>ob e fun xs hxs e=>aD e fun hf e=>R.lE p hk hxs fun a us n h1 h2 h3 h4=>ps.oneE hu fun v' p1=>?_
 rw[← Option.some.inj e]at q
 exact call_meets (id := "list.append") slot_list_append ⟨_,h3,rfl⟩ entry_list_append (args_list_append _ _) (AutoListH.list_append_list_val_0 a us.toArray n _ (by rw[List.size_toArray,h4.length];exact cY hf)) ⟨h3,q _ _ (R.updL (vs:=us++[_]) h1 h2 h3 (by rw[List.push_toArray]) (aQ.append (.cons (p1.fE hx) .nil) h4)) .none ⟨rfl,rfl⟩⟩
theorem Je (R:aC Γ.w H F.env c st s.heap) {v:Value}{x:PV}{vs:List Value}{ws:List PV} (p:aH Γ.w c v x) (ps:aX Γ.w c vs ws) {r:PV × St} (e:mE x ws st=some r) (q:∀ u s',aC Γ.w H F.env c r.2 s'.heap→aH Γ.w c u r.1→aS s s'→Q u s'):wpAny (model pw Γ.w) F.A (call (.builtin "list.pop") (v::vs)) Q E s:=by
 refine ob e fun k hk e=>aD e fun hn e=>ob e fun xs hxs e=>aD e fun hf e=>R.lE p hk hxs fun a us n h1 h2 h3 h4=>?_
 obtain rfl:vs=[]:=aX.c0 (bN hn ▸ ps)
 cases hr:xs.reverse with
 | nil=>rw[hr]at e;exact nk3 e
 | cons y t =>
  rw[hr]at e
  rw[← Option.some.inj e]at q
  obtain⟨pp,yy,rfl,h6,h7⟩:=h4.last hr
  have hk':(pp++[yy]).toArray.size - 1=pp.length:=by rw[List.size_toArray,List.length_append];rfl
  refine call_meets (id := "list.pop") _root_.PySem.F.slot_list_pop ⟨_,h3,rfl⟩ _root_.PySem.F.entry_list_pop (_root_.PySem.F.args_list_pop_1 _) (PySem.MeetsSeq.list_pop_last a _ n yy (by rw[hk',List.getElem?_toArray];exact n6) (by rw[List.size_toArray,h4.length];exact cY hf)) ⟨h3,q _ _ (R.updL (vs:=pp) h1 h2 h3 (by
   show(pp++[yy]).toArray.eraseIdxIfInBounds ((pp++[yy]).toArray.size - 1)=pp.toArray
   rw[hk',kl_erase,List.append_nil]) h6) h7 ⟨rfl,rfl⟩⟩
theorem KN (R:aC Γ.w H F.env c st s.heap) {v:Value}{x:PV}{vs:List Value}{ws:List PV} (p:aH Γ.w c v x) (ps:aX Γ.w c vs ws) {r:PV × St} (e:rC x ws st=some r) (q:∀ u s',aC Γ.w H F.env c r.2 s'.heap→aH Γ.w c u r.1→aS s s'→Q u s'):wpAny (model pw Γ.w) F.A (call (.builtin "list.extend") (v::vs)) Q E s:=by
 refine ob e fun k hk e=>ob e fun u hu e=>ob e fun xs2 hx2 e=>ob e fun xs hxs e=>aD e fun hf e=>R.lE p hk hxs fun a us n h1 h2 h3 h4=>ps.oneE hu fun v' p1=>fK hx2 fun x2 hy hx2=>(p1.fE (hy ▸ rfl)).lE hx2 fun a2 n2 us2 h6 h7=>?_
 rw[← Option.some.inj e]at q
 have z:us.toArray.size + us2.toArray.size ≤ sizeLine:=by rw[List.size_toArray,List.size_toArray,h4.length,h7.length];exact cY hf
 have z4:¬ ((!us.toArray.isEmpty&&Builtin.List.listTooLong (us.toArray.size + us2.toArray.size))=true):=fun y=>Nat.not_lt.mpr z (of_decide_eq_true (Bool.and_eq_true_iff.mp y).2)
 exact call_meets (id := "list.extend") _root_.PySem.F.slot_list_extend ⟨_,h3,rfl⟩ _root_.PySem.F.entry_list_extend (_root_.PySem.F.args_list_extend_2 _ _) (AutoSeq1.list_extend_list_list_0 a us.toArray n a2 us2.toArray n2 z4 (Nat.le_trans (Nat.le_add_right _ _) z) (Nat.le_succ_of_le z)) ⟨h3,R.b _ _ h6,q _ _ (R.updL (vs:=us++us2) h1 h2 h3 (by rw[List.append_toArray]) (aQ.append h7 h4)) .none ⟨rfl,rfl⟩⟩
theorem Ib (R:aC Γ.w H F.env c st s.heap) {v:Value}{x u z:PV}{vs:List Value}{ws:List PV}{x':List Nat}{xs:List FV} (p:aH Γ.w c v x) (ps:aX Γ.w c vs ws) (hx:oO x=some x') (hu:one ws=some u) (hi:fX u st=some xs) (hz:oQ x' xs=some z) (q:∀ u s',s'.heap=s.heap→aH Γ.w c u z→aS s s'→Q u s'):wpAny (model pw Γ.w) F.A (call (.builtin "str.join") (v::vs)) Q E s:=by
 refine p.sE hx fun t=>ps.oneE hu fun v' p1=>R.itE p1 hi fun a us n h2 h1=>ob hz fun m hm hz=>aD hz fun hf hz=>ob hz fun y hy hz=>?_
 obtain⟨ys,h3,h4,h5,h6⟩:=CQ h1 hm
 refine join_list (s:=s) (D:=a) (items:=us.toArray) (ys:=ys) ⟨_,h2,rfl,_,rfl⟩ (by simpa using h3) (by rw[h4,h5,len_str];exact cY hf) fun t' k=>?_
 rw[show Txt.join ⟨_⟩ ys=_ from(StrLaws.glued_eq_join _ ys).trans (h6 _ _ hy)]
 exact q _ _ rfl (Option.some.inj hz ▸ .str _ _) ⟨rfl,rfl⟩
theorem Dr {v:Value}{x z:PV}{vs:List Value}{ws:List PV} (p:aH Γ.w c v x) (ps:aX Γ.w c vs ws) (e:t7 x ws=some z) (q:∀ u s',s'.heap=s.heap→aH Γ.w c u z→aS s s'→Q u s'):wpAny (model pw Γ.w) F.A (call (.builtin "str.startswith") (v::vs)) Q E s :=
 ob e fun x' hx e=>ob e fun w2 hw e=>ob e fun y hy e=>ob e fun i hi e=>p.sE hx fun t=>ps.twoE hw fun v1 v2 p1 p2=>p1.sE hy fun t1=>p2.iE hi fun t2 =>
  call_gives (id := "str.startswith") _root_.PySem.F.slot_str_startswith (typeIs_str s _ _) _root_.PySem.F.entry_str_startswith (_root_.PySem.F.args_str_startswith_3 _ _ _) (gives_str_startswith_from _ _ _ _ _ _) (q _ _ rfl (Option.some.inj e ▸ .bool _) (.refl s))
theorem Fh {v:Value}{x z:PV}{vs:List Value}{ws:List PV} (p:aH Γ.w c v x) (ps:aX Γ.w c vs ws) (e:Dn x ws=some z) (q:∀ u s',s'.heap=s.heap→aH Γ.w c u z→aS s s'→Q u s'):wpAny (model pw Γ.w) F.A (call (.builtin "str.lstrip") (v::vs)) Q E s:=by
 refine ob e fun x' hx e=>ob e fun u hu e=>ob e fun y hy e=>aD e fun hf e=>p.sE hx fun t=>ps.oneE hu fun v1 p1=>p1.sE hy fun t1=>?_
 rw[← Option.some.inj e]at q
 refine call_gives (id := "str.lstrip") _root_.PySem.F.slot_str_lstrip (typeIs_str s _ _) _root_.PySem.F.entry_str_lstrip (_root_.PySem.F.args_str_lstrip_2 _ _) (gives_str_lstrip_chars _ _ _ _) ?_
 split
 ·rename_i z
  rw[if_pos z]at q
  exact q _ _ rfl (.str _ _) (.refl s)
 ·rename_i z
  rw[if_neg z]at q
  exact⟨fits_stripped _ _ _ (cY hf),q _ _ rfl (.strS _ _) ⟨rfl,rfl⟩⟩
theorem sX.get {B:PM}{f:Option Value}{o:Option FV} (h:sX Γ.w B f o) (dv:Value) (d:FV) (pd:aO Γ.w B dv d):aO Γ.w B (f.getD dv) (o.getD d):=by
 cases o with
 | none=>rw[show f=none from h];exact pd
 | some y=>obtain⟨u,rfl,fu⟩:=h;exact fu
theorem Nq (R:aC Γ.w H F.env c st s.heap) {v:Value}{x z:PV}{vs:List Value}{ws:List PV} (p:aH Γ.w c v x) (ps:aX Γ.w c vs ws) (e:Lk x ws=some z) (q:∀ u s',s'.heap=s.heap→aH Γ.w c u z→aS s s'→Q u s'):wpAny (model pw Γ.w) F.A (call (.builtin "dict.get") (v::vs)) Q E s:=by
 refine ob e fun es he e=>fK he fun x' hx' he=>fC e (fun u hu e=>ob e fun k hk e=>ob e fun o ho e=>ps.oneE hu fun v1 p1=>?_) fun _ e=>ob e fun w2 hw e=>ob e fun k hk e=>ob e fun d hd e=>ob e fun o ho e=>ps.twoE hw fun v1 v2 p1 p2=>?_
 ·refine dgetE R.b (p.fE (hx' ▸ rfl)) he (p1.fE hk) ho fun dd hd=>?_
  obtain⟨Kt,i,knd,kk,f,hm,hk,hf,hr⟩:=hd
  have r:=hr.get .none .none rfl
  refine call_meetsIn (id := "dict.get") _root_.PySem.F.slot_dict_get hf.typeIs _root_.PySem.F.entry_dict_get (_root_.PySem.F.args_dict_get_2 _ _) (meets_dict_get knd dd hk hm) ⟨f,hf,q _ _ rfl (Option.some.inj e ▸ ?_) ⟨rfl,rfl⟩⟩
  exact r
 ·refine dgetE R.b (p.fE (hx' ▸ rfl)) he (p1.fE hk) ho fun dd hdd=>?_
  obtain⟨Kt,i,knd,kk,f,hm,hk,hf,hr⟩:=hdd
  have r:=hr.get _ _ (p2.fE hd)
  refine call_meetsIn (id := "dict.get") _root_.PySem.F.slot_dict_get hf.typeIs _root_.PySem.F.entry_dict_get (_root_.PySem.F.args_dict_get_3 _ _ _) (meets_dict_get_default knd dd hk hm _) ⟨f,hf,q _ _ rfl (Option.some.inj e ▸ ?_) ⟨rfl,rfl⟩⟩
  exact r
end
end Mine
end
section
namespace Mine
theorem aX.app {w:World}{c:Cf}{vs:List Value}{ws:List PV} (q:aX w c vs ws) {pws:List PV}:∀ {pre:List Value},aX w c pre pws→aX w c (pre++vs) (pws++ws):=by
 induction pws with
 | nil=>intro pre h;obtain rfl:=h.c0;exact q
 | cons x r ih=>intro pre h;obtain⟨v,u,rfl,p,h⟩:=h.cI;exact .cons p (ih h)
section
variable {Γ:Gm}{H:PM}{F:Fr}{cx:Cx}{c:Cf}{s:Shared}{st:St}{Q:Value→Shared→Prop}{E:Value→Shared→Prop}{ih:Cx→Expr→St→Pg (PV × St)}
theorem xT {p:Pos}{env:Env}{es:List Expr} (h:es.all bO=true):(backTo p (starEach es env)).all (fun x=>!x.1)=true∧(backTo p (starEach es env)).any (fun x=>x.1)=false:=by
 induction es with
 | nil=>exact⟨rfl,rfl⟩
 | cons e r ih =>
  obtain⟨h1,h2⟩:=Bool.and_eq_true_iff.mp h
  rw[hY h1]
  exact ih h2
theorem Cg {A:Around}{o:Expr}{n:Str}{ap p:Pos}{args:List Expr}{env:Env} (hb:Cd o ap p args=true)
  (h:wpAny (model pw Γ.w) A (eval o env) (fun ov s₁=>∀ pl,wpAny (model pw Γ.w) A (getMethod ov n pl) (fun fx s₂=>wpAny (model pw Γ.w) A (callWith p fx.1 fx.2 (backTo p (starEach args env)) []) Q E s₂) E s₁) E s) :
  wpAny (model pw Γ.w) A (eval (.Call (.Attribute o n ap) args [] p) env) Q E s:=by
 obtain⟨h',h4⟩:=Bool.and_eq_true_iff.mp hb
 obtain⟨h',h3⟩:=Bool.and_eq_true_iff.mp h'
 obtain⟨h1,h2⟩:=Bool.and_eq_true_iff.mp h'
 rw[arm_eval_Call,zR h1]
 refine wpAny_bind (wpAny_mono h (fun ov s₁ h₁=>wpAny_bind (wpAny_standAt ?_)) fun _ _ e=>e)
 have hform:methodCallForm (args.length + ([]:List Keyword).length) (backTo p (starEach args env)) (backToKw p (keywordEach [] env))=true:=by
  unfold methodCallForm
  rw[(xT h4).1]
  exact decide_eq_true (Nat.lt_trans (of_decide_eq_true h3:args.length < 20) (by decide:20 < 30))
 have hpos:methodCallPos true o env ap p=pure p:=by unfold methodCallPos;rw[h2];rfl
 unfold methodCall
 rw[hform]
 exact wpAny_bind (wpAny_holding (wpAny_mono (h₁ _) (fun fx s₂ h₂=>wpAny_bind (wpAny_of_eq hpos h₂)) fun _ _ e=>e))
theorem bM {A:Around}{p:Pos}{f:Value}{first:List Value}{args:List Expr}{P:Heap→Prop}{env:Env} (ha:args.all bO=true)
  (hk:∀ h,P h→∃ k,(k=Keeper.frame∨k=Keeper.machine∨k=Keeper.boundFrame)∧Looks (model pw Γ.w) h (keeperOf f) k)
  (h:wpAny (model pw Γ.w) A (spliced (backTo p (starEach args env))) (fun vs s₁=>P s₁.heap∧wpAny (model pw Γ.w) A (call f (first++vs)) Q E s₁) E s) :
  wpAny (model pw Γ.w) A (callWith p f first (backTo p (starEach args env)) []) Q E s:=by
 refine callWith_of (P:=P) (by rw[(xT ha).2];rfl) hk ?_
 cases args with
 | nil =>
  unfold evalArgs
  show wpAny _ A (spliced [] >>= _) _ E s
  exact wpAny_bind (wpAny_mono h (fun vs s₁ h₁=>wpAny_bind (wpAny_pure (wpAny_holding (wpAny_bind (wpAny_pure (wpAny_bind (wpAny_pure (wpAny_pure h₁)))))))) fun _ _ e=>e)
 | cons e r =>
  rw[hY (Bool.and_eq_true_iff.mp ha).1]at h ⊢
  exact evalArgs_plain h
noncomputable def qO.val (b:qO):Value:=match b with
 | .fn a=>.ref a
 | b=>.builtin b.id
theorem Aw {α:Type}{b:Bool}{x y:α}{P:α→Prop} (k:b=true→P x) (m:b=false→P y):P (bif b then x else y):=by
 cases b with
 | true=>exact k rfl
 | false=>exact m rfl
theorem ID (hK:cW Γ.w Γ.K Γ.T) (o:Ok Γ H F c) (R:aC Γ.w H F.env c st s.heap) {v:Value}{x:PV} (p:aH Γ.w c v x) {n:Str}{b:qO} (e:Dz Γ.T x n st=some b) {Q:Value × List Value→Shared→Prop}{pl:Sem Bool}
  (q:Q (b.val,[v]) s):wpAny (model pw Γ.w) F.A (getMethod v n pl) Q E s:=by
 have KI:=o.kin R
 cases x with
 | ref k =>
  refine ob e fun r hr e=>fC e (fun _ _=>nk3) fun hf e=>ob e fun ms hms e=>ob e fun a ha e=>?_
  rw[← Option.some.inj e]at q
  revert q
  refine R.iE p rfl hr fun xa dd es m _ _ _ a1 a4 a5 q=>?_
  obtain⟨g1,g2,g3,g4⟩:=hK.meth _ ms n a hms ha
  exact method_fn KI (od:=some (dictOf es m)) ⟨a1,rfl,rfl,a4⟩ (plainGet_of g1).1 (plainGet_of g1).2 g2 g3 (by show(W.getL n es).map _=_;rw[fZ.noKey a5 hf];rfl) q
 | loc k =>
  refine ob e fun xs hx e=>?_
  revert q
  refine R.lE p rfl hx fun a us m _ _ h4 _ q=>?_
  have go:∀ {n id:String},seq ‹Str› n=true→PySem.Slot "list" n id→typeOf (.builtin id)=pure (.type "method_descriptor")→Q (.builtin id,[.ref a]) s→wpAny (model pw Γ.w) F.A (getMethod (.ref a) ‹Str› pl) Q E s:=fun h h1 h2 q=>by
   rw[hV.mp h]
   exact getMethod_builtin ⟨_,h4,rfl⟩ _root_.PySem.F.plainAttrs_list h1 h2 (fun b e=>by cases e;exact⟨_,h4,rfl⟩) q
  exact oB e (fun z e=>go z slot_list_append _root_.PySem.F.type_list_append (by rw[← Option.some.inj e]at q;exact q)) fun _ e=>oB e (fun z e=>go z _root_.PySem.F.slot_list_pop _root_.PySem.F.type_list_pop (by rw[← Option.some.inj e]at q;exact q)) fun _ e=>aD e fun z e=>go z _root_.PySem.F.slot_list_extend _root_.PySem.F.type_list_extend (by rw[← Option.some.inj e]at q;exact q)
 | f x =>
  refine fC e (fun y hy e=>?_) fun _ e=>ob e fun y hy e=>aD e fun z e=>?_
  ·revert q
   refine p.fI.sE hy fun t q=>?_
   have go:∀ {n id:String},seq ‹Str› n=true→PySem.Slot "str" n id→typeOf (.builtin id)=pure (.type "method_descriptor")→Q (.builtin id,[.str ⟨y.toArray⟩ t]) s→wpAny (model pw Γ.w) F.A (getMethod (.str ⟨y.toArray⟩ t) ‹Str› pl) Q E s:=fun h h1 h2 q=>by
    rw[hV.mp h]
    exact getMethod_builtin (typeIs_str s _ _) _root_.PySem.F.plainAttrs_str h1 h2 (fun a e=>by cases e) q
   exact oB e (fun z e=>go z _root_.PySem.F.slot_str_join _root_.PySem.F.type_str_join (by rw[← Option.some.inj e]at q;exact q)) fun _ e=>oB e (fun z e=>go z _root_.PySem.F.slot_str_startswith _root_.PySem.F.type_str_startswith (by rw[← Option.some.inj e]at q;exact q)) fun _ e=>aD e fun z e=>go z _root_.PySem.F.slot_str_lstrip _root_.PySem.F.type_str_lstrip (by rw[← Option.some.inj e]at q;exact q)
  ·rw[← Option.some.inj e]at q
   obtain⟨a,m,es,rfl,hm,ha,_⟩:=aO.dctI (u6 hy ▸ p.fI)
   have hb:=R.b _ _ ha
   rw[hV.mp z]
   exact getMethod_builtin (T := "dict") ⟨_,hb,rfl⟩ _root_.PySem.F.plainAttrs_dict (id := "dict.get") _root_.PySem.F.slot_dict_get _root_.PySem.F.type_dict_get (fun b e=>by cases e;exact⟨_,hb,rfl⟩) q
theorem JC (hK:cW Γ.w Γ.K Γ.T) {x:PV}{n:Str}{a:Nat} (e:Dz Γ.T x n st=some (.fn a)):keepIn Γ.K (.ref a)=true:=by
 cases x with
 | ref k=>exact ob e fun r hr e=>fC e (fun _ _=>nk3) fun hf e=>ob e fun ms hms e=>ob e fun a' ha e=>by cases e;exact(hK.meth _ ms n _ hms ha).2.2.2
 | loc k=>exact ob e fun r hr e=>oB e (fun _=>nofun) fun _ e=>oB e (fun _=>nofun) fun _ e=>aD e fun _=>nofun
 | f x=>exact fC e (fun y hy e=>oB e (fun _=>nofun) fun _ e=>oB e (fun _=>nofun) fun _ e=>aD e fun _=>nofun) fun _ e=>ob e fun y hy e=>aD e fun z=>nofun
theorem eV (id:String) (h:Heap) (_:True):∃ k,(k=Keeper.frame∨k=Keeper.machine∨k=Keeper.boundFrame)∧Looks (model pw Γ.w) h (keeperOf (.builtin id)) k:=⟨.machine,.inr (.inl rfl),Looks.of_pure rfl⟩
theorem lK (id:String) (h:Heap) (_:True):∃ k,(k=Keeper.frame∨k=Keeper.machine∨k=Keeper.boundFrame)∧Looks (model pw Γ.w) h (keeperOf (.type id)) k:=⟨.machine,.inr (.inl rfl),Looks.of_pure rfl⟩
theorem GY (hC:fH Γ.w Γ.K Γ.T Γ.n Γ.C) (hF:aV Γ F cx) (o:Ok Γ H F c) (R:aC Γ.w H F.env c st s.heap) {a:Nat}{vs:List Value}{ws:List PV} (ps:aX Γ.w c vs ws) {pre:List Value}{pws:List PV} (pp:aX Γ.w c pre pws)
  (g:aG Γ (aH Γ.w) H F (Bb cx a pws ws st) c s Q E):wpAny (model pw Γ.w) F.A (call (.ref a) (pre++vs)) Q E s :=
 g.opt fun r hr g=>by
  obtain⟨c₂,l₂,R₂,p₂⟩:=rP R ps hr
  exact wpAny_call (hC F.A Γ.X H F r.2 cx.f a _ _ c₂ s Q E hF.frames hF.handled (Nat.le_trans (Nat.add_le_add_left (by decide) _) hF.depth) (Nat.le_trans (Nat.add_le_add_left (by decide) _) hF.units) (o.mono _ l₂) R₂ (p₂.app (pp.mono l₂)) (g.mono l₂ (.refl s)))
theorem IT (hK:cW Γ.w Γ.K Γ.T) (hC:fH Γ.w Γ.K Γ.T Γ.n Γ.C) (hI:cD Γ H ih) (hF:aV Γ F cx) {e:Expr}{n:Str}{ap p:Pos}{args:List Expr}:TG Γ (aH Γ.w) H F st (HB Γ.T ih cx e n ap args p st) (eval (.Call (.Attribute e n ap) args [] p) F.env) :=
 fun c s Q E o R g=>g.gp fun hb g=>by
  have ha:=(Bool.and_eq_true_iff.mp hb).2
  refine Cg hb (aG.bind g (hI F cx e st hF) o R fun w₁ st₁ c₁ v₁ s₁ _ l₁ o₁ R₁ p₁ z₁ g pl=>g.opt fun m hm g=>ID hK o₁ R₁ p₁ hm ?_)
  have sp:=i8 (Γ:=Γ) (H:=H) hI hF p args st₁
  cases m with
  | fn a=>exact bM (P:=fun h=>Γ.K.In h) ha (keeps_K (JC hK hm)) (g.bind sp o₁ R₁ fun ws st₂ c₂ vs s₂ _ l₂ o₂ R₂ p₂ z₂ g=>⟨o₂.kin R₂,GY hC hF o₂ R₂ p₂ (aX.cons (p₁.mono l₂) .nil) g⟩)
  | app=>exact bM ha (eV _) (g.bind sp o₁ R₁ fun ws st₂ c₂ vs s₂ _ l₂ o₂ R₂ p₂ z₂ g=>⟨trivial,aG.qS (V:=aH Γ.w) g fun y st' hy g=>JT R₂ (p₁.mono l₂) p₂ hy fun u s' R' pu z=>aG.done' g (.refl _) R' pu z⟩)
  | pop=>exact bM ha (eV _) (g.bind sp o₁ R₁ fun ws st₂ c₂ vs s₂ _ l₂ o₂ R₂ p₂ z₂ g=>⟨trivial,aG.qS (V:=aH Γ.w) g fun y st' hy g=>Je R₂ (p₁.mono l₂) p₂ hy fun u s' R' pu z=>aG.done' g (.refl _) R' pu z⟩)
  | ext=>exact bM ha (eV _) (g.bind sp o₁ R₁ fun ws st₂ c₂ vs s₂ _ l₂ o₂ R₂ p₂ z₂ g=>⟨trivial,aG.qS (V:=aH Γ.w) g fun y st' hy g=>KN R₂ (p₁.mono l₂) p₂ hy fun u s' R' pu z=>aG.done' g (.refl _) R' pu z⟩)
  | join =>
   refine bM ha (eV _) (g.bind sp o₁ R₁ fun ws st₂ c₂ vs s₂ _ l₂ o₂ R₂ p₂ z₂ g=>⟨trivial,g.opt fun x hx g=>g.opt fun u hu g=>g.opt fun xs hi g=>?_⟩)
   have g:aG Γ (aH Γ.w) H F (qV 0 (fun _=>oQ x xs) st₂ fun v=>.ok (v,st₂)) c₂ s₂ Q E:=⟨g.ok,g.raise,g.go⟩
   exact g.qV fun z hz g=>Ib R₂ (p₁.mono l₂) p₂ hx hu hi hz fun u s' e pu z=>g.done' (.refl _) (e ▸ R₂) pu z
  | starts=>exact bM ha (eV _) (g.bind sp o₁ R₁ fun ws st₂ c₂ vs s₂ _ l₂ o₂ R₂ p₂ z₂ g=>⟨trivial,g.qV fun z hz g=>Dr (p₁.mono l₂) p₂ hz fun u s' e pu z=>aG.done' g (.refl _) (e ▸ R₂) pu z⟩)
  | lstrip=>exact bM ha (eV _) (g.bind sp o₁ R₁ fun ws st₂ c₂ vs s₂ _ l₂ o₂ R₂ p₂ z₂ g=>⟨trivial,g.qV fun z hz g=>Fh (p₁.mono l₂) p₂ hz fun u s' e pu z=>aG.done' g (.refl _) (e ▸ R₂) pu z⟩)
  | get=>exact bM ha (eV _) (g.bind sp o₁ R₁ fun ws st₂ c₂ vs s₂ _ l₂ o₂ R₂ p₂ z₂ g=>⟨trivial,g.qV fun z hz g=>Nq R₂ (p₁.mono l₂) p₂ hz fun u s' e pu z=>aG.done' g (.refl _) (e ▸ R₂) pu z⟩)
end
end Mine
end
section
namespace Mine
theorem B4 {xs:List FV}{w:World}{B:PM}:∀ {us:List Value}{n:Int},aQ w B us xs→xG xs=some n→∃ ps:List (Int × Tok),us=ps.map (fun p=>Value.int p.1 p.2)∧(ps.map (·.1)).sum=n:=by
 induction xs with
 | nil=>intro us n q e;exact⟨[],q,Option.some.inj e⟩
 | cons a r ih =>
  intro us n q e
  obtain⟨v,us,rfl,p,q2⟩:=q.c
  refine ob e fun i hi e=>ob e fun m hm e=>p.iE hi fun t=>?_
  obtain⟨ps,h1,h2⟩:=ih q2 hm
  exact⟨(i,t)::ps,congrArg _ h1,by rw[List.map_cons,List.sum_cons,h2];exact Option.some.inj e⟩
section
variable {Γ:Gm}{H:PM}{F:Fr}{cx:Cx}{c:Cf}{s:Shared}{st:St}{Q:Value→Shared→Prop}{E:Value→Shared→Prop}{ih:Cx→Expr→St→Pg (PV × St)}
theorem DP (hK:cW Γ.w Γ.K Γ.T) (R:aC Γ.w H F.env c st s.heap) {v:Value}{x:FV}{tv:Nat ⊕ Ty} (p:aO Γ.w c.B v x) (e:rW Γ.T x=some tv):v ≠ .builtin "__main__.__loader__#opaque" ∧ ∃ Hx,KitX Γ.K v (jN tv) Hx∧Hx s.heap:=by
 cases x with
 | none=>rw[p.noneI,← Option.some.inj e];exact⟨nofun,_,kitx_none,trivial⟩
 | bool b=>rw[p.boolI,← Option.some.inj e];exact⟨nofun,_,kitx_bool,trivial⟩
 | int i=>rw[← Option.some.inj e];exact p.iE rfl fun t=>⟨nofun,_,kitx_int,trivial⟩
 | str i=>rw[← Option.some.inj e];exact p.sE rfl fun t=>⟨nofun,_,kitx_str,trivial⟩
 | tup i=>rw[← Option.some.inj e];exact p.tE rfl fun _ _ _ h _=>⟨nofun,_,kitx_tuple,⟨_,R.b _ _ h,rfl⟩⟩
 | lst i=>rw[← Option.some.inj e];exact p.lE rfl fun _ _ _ h _=>⟨nofun,_,kitx_list,⟨_,R.b _ _ h,rfl⟩⟩
 | obj D fs =>
  refine aD e fun hm e=>?_
  obtain⟨xa,dd,n,es,rfl,h1,h2,_⟩:=p.objI
  obtain⟨g1,g2,g3,g4,g5,g6⟩:=hK.isiO D (tQ hm)
  rw[← Option.some.inj e]
  exact⟨nofun,_,kitx_own (ox:=instObj D dd) (od:=dictOf es n) g1 g2 g3 g4 g5 g6,R.b _ _ h1,rfl,rfl,R.b _ _ h2⟩
 | _=>exact nk3 e
theorem Ek {t:FV}{tc:Value}{cc:Nat ⊕ Ty} (p:aO Γ.w c.B tc t) (e:Ag Γ.T t=some cc):tc=jN cc:=by
 cases t with
 | top C=>exact aD e fun _ e=>Option.some.inj e ▸ p
 | typ n=>exact aD e fun _ e=>Option.some.inj e ▸ p
 | _=>exact nk3 e
theorem zN (hK:cW Γ.w Γ.K Γ.T) {x t:FV}{b:Bool}{tc:Value}{tv:Nat ⊕ Ty} (hv:rW Γ.T x=some tv) (pt:aO Γ.w c.B tc t) (e:w3 Γ.T x t=some b):kitOne Γ.K (jN tv) tc=some b :=
 ob e fun tv' h1 e=>ob e fun cc h2 e=>by
  obtain rfl:=Option.some.inj (hv.symm.trans h1)
  rw[Ek pt h2,hK.isi tv cc x t hv h2];exact e
theorem IH (hK:cW Γ.w Γ.K Γ.T) {x:FV}{tv:Nat ⊕ Ty} (hv:rW Γ.T x=some tv) {ts:List FV}:∀ {cs:List Value}{b:Bool},aQ Γ.w c.B cs ts→AR Γ.T x ts=some b→kitAny Γ.K (jN tv) cs=some b:=by
 induction ts with
 | nil=>intro cs b p e;obtain rfl:=p.n;exact e
 | cons t r ihr =>
  intro cs b p e
  obtain⟨v,us,rfl,p,q⟩:=p.c
  refine ob e fun b' h e=>?_
  unfold kitAny
  rw[zN hK hv p h]
  cases b' with
  | true=>exact e
  | false=>exact ihr q e
theorem J8 (hK:cW Γ.w Γ.K Γ.T) (o:Ok Γ H F c) (R:aC Γ.w H F.env c st s.heap) {v t:Value}{x y:FV}{b:Bool} (p:aO Γ.w c.B v x) (pt:aO Γ.w c.B t y) (e:zF Γ.T x y=some b) (q:∀ s',s'.heap=s.heap→aS s s'→Q (.bool b) s'):wpAny (model pw Γ.w) F.A (call (.builtin "isinstance") [v,t]) Q E s:=by
 have KI:=o.kin R
 have fin:∀ tk,Q (.bool b) { s with toks:=tk }:=fun tk=>q _ rfl ⟨rfl,rfl⟩
 refine fC e (fun l hl e=>aD e fun hn e=>?_) fun _ e=>ob e fun tv hv e'=>?_
 ·have hv:∃ tv,rW Γ.T x=some tv:=by
   cases l with
   | nil=>exact nk6 hn
   | cons t r=>exact ob e fun b' h _=>ob h fun tv hv _=>⟨tv,hv⟩
  obtain⟨tv,hv⟩:=hv
  obtain⟨hx,Hx,Z,hz⟩:=DP hK R p hv
  exact pt.tE hl fun a n us ha r=>kia_tup Z KI hz (R.b _ _ ha) (IH hK hv r e) hx fin
 ·obtain⟨hx,Hx,Z,hz⟩:=DP hK R p hv
  exact kia_one Z KI hz (zN hK hv pt e) hx fin
theorem AC {n:Nat} (h:fits n=true):(n:Int) < 2 ^ 63:=Int.lt_of_le_of_lt (Int.ofNat_le.mpr (Nat.le_of_ble_eq_true h)) (by decide)
theorem Mr (hK:cW Γ.w Γ.K Γ.T) (hh:F.A.handled=none) (o:Ok Γ H F c) (R:aC Γ.w H F.env c st s.heap) {n:Bl}{vs:List Value}{ws:List PV} (ps:aX Γ.w c vs ws) {r:PV} (e:oV Γ.T n ws st=some r)
  (q:∀ u s',aC Γ.w H F.env c st s'.heap→aH Γ.w c u r→aS s s'→Q u s'):wpAny (model pw Γ.w) F.A (call (.builtin n.id) vs) Q E s:=by
 cases n with
 | len =>
  refine ob e fun w hw e=>ps.oneE hw fun v p=>fC e (fun x hx e=>aD e fun hf e=>p.sE hx fun t=>?_) fun _ e=>ob e fun xs hx e=>aD e fun hf e=>R.itE p hx fun a us m h2 h1=>?_
  ·exact PyProof.Rows.len_str (Int.not_le.mpr (AC hf)) (q _ _ R (Option.some.inj e ▸ .int _ _) ⟨rfl,rfl⟩)
  ·have hsz:(us.toArray.size:Int)=xs.length:=congrArg Int.ofNat h1.length
   refine call_len_list (items:=us.toArray) ⟨_,h2,rfl,_,rfl⟩ (by rw[hsz];exact AC hf) ?_
   rw[hsz]
   exact q _ _ R (Option.some.inj e ▸ .int _ _) ⟨rfl,rfl⟩
 | ord=>exact ob e fun w hw e=>ob e fun x hx e=>ob e fun k hk e=>ps.oneE hw fun v p=>p.sE hx fun t=>by rw[eA hk];exact P.ord_of_char (q _ _ R (Option.some.inj e ▸ .int _ _) ⟨rfl,rfl⟩)
 | chr =>
  refine ob e fun w hw e=>ob e fun i hi e=>ob e fun k hk e=>aD e fun hb e=>ps.oneE hw fun v p=>p.iE hi fun t=>?_
  rw[lT hk]
  refine P.chr_of_int ?_ (q _ _ R (Option.some.inj e ▸ .str [_] _) ⟨rfl,rfl⟩)
  rw[decide_eq_false (Int.not_lt.mpr (Int.natCast_nonneg k)),decide_eq_false (Int.not_lt.mpr (Int.ofNat_le.mpr (Nat.le_of_lt_succ (eK hb))):¬ (k:Int) > 0x10FFFF)];rfl
 | isi=>exact ob e fun w hw e=>ob e fun x hx e=>ob e fun y hy e=>ob e fun b hb e=>ps.twoE hw fun v1 v2 p1 p2=>J8 hK o R (p1.fE hx) (p2.fE hy) hb fun s' e' z=>q _ _ (e' ▸ R) (Option.some.inj e ▸ .bool _) z
 | max =>
  refine ob e fun w hw e=>ob e fun i hi e=>ob e fun j hj e=>ps.twoE hw fun v1 v2 p1 p2=>p1.iE hi fun t=>p2.iE hj fun u=>max_two_ints hh fun h' tk g=>?_
  rw[← Option.some.inj e]at q
  split
  ·rename_i z;rw[if_pos z]at q;exact q _ _ (R.grows g) (.int _ _) ⟨rfl,rfl⟩
  ·rename_i z;rw[if_neg z]at q;exact q _ _ (R.grows g) (.int _ _) ⟨rfl,rfl⟩
 | sum =>
  refine ob e fun w hw e=>ob e fun xs hx e=>ob e fun i hi e=>ps.oneE hw fun v p=>R.itE p hx fun a us m h2 h1=>?_
  obtain⟨pp,h3,h4⟩:=B4 h1 hi
  refine sum_intListG hh (xs:=pp.toArray) ⟨_,(show us.toArray=intItems pp.toArray by rw[h3];simp[intItems]) ▸ h2,rfl,_,rfl⟩ fun h' tk t' g=>?_
  rw[show preSum (numAt pp.toArray) pp.toArray.size=i by rw[preSum_eq,List.take_of_length_le (by simp)];simpa using h4]
  exact q _ _ (R.grows g) (Option.some.inj e ▸ .int _ _) ⟨rfl,rfl⟩
theorem N1 (R:aC Γ.w H F.env c st s.heap) {n:Ty}{line:Nat}{vs:List Value}{ws:List PV} (ps:aX Γ.w c vs ws) {r:PV × St} (e:jT Γ.T n line ws st=some r)
  (q:∀ c' u s',c.le c'→aC Γ.w H F.env c' r.2 s'.heap→aH Γ.w c' u r.1→aS s s'→Q u s'):wpAny (model pw Γ.w) F.A (call (.type n.id) vs) Q E s:=by
 refine ob e fun w hw e=>ps.oneE hw fun v p=>?_
 cases n with
 | list =>
  refine ob e fun xs hx e=>R.itE p hx fun a us m h2 h1=>?_
  refine call_list_seq a (items:=us.toArray) (.inl rfl) h2 rfl rfl (fun h' c' g get=>?_) (aD e fun hf _=>by rw[List.size_toArray,h1.length];exact cY hf)
  obtain⟨_,c₂,l₂,R₂,p₂⟩:=wN R h1 e (h':=h') g (get?_size _) get
  exact q c₂ _ _ l₂ R₂ p₂ ⟨rfl,rfl⟩
 | str =>
  refine ob e fun a ha e=>aD e fun hl e=>p.iE ha fun t=>?_
  rw[← Option.some.inj e]at q
  exact P.str_of_int (eK hl) (q c _ _ (.refl c) R (.strS _ _) ⟨rfl,rfl⟩)
 | int =>
  refine ob e fun b hb e=>fK hb fun y hy hb=>(p.fE (hy ▸ rfl)).bE hb ?_
  rw[← Option.some.inj e]at q
  exact call_int_bool (q c _ _ (.refl c) R (.int _ _) ⟨rfl,rfl⟩)
 | _=>exact nk3 e
end
end Mine
end
section
namespace Mine
theorem IY {w:World}{A:Around}{K:Frag}{C x dx:Addr}{s:Shared}{R:Result→Shared→Prop}{ox:Obj}{name:Str}{tk:Tok}{v:Value}{es:List DictEntry}{n:Nat} (X:K.In s.heap) (I:W.InstAt s.heap x ox C (some (dictOf es n))) (hd:ox.dict=some dx)
  (hp:plainOver K C=true) (ht:takerIn K C name=some none) (hh:hasDictIn K C=true) (hl:es.any (·.refKey)=false) (hz:(putL name (PyData.keyHash w.params name) (.str name s.toks) v es).length ≤ 1000)
  (h:R (.ok (.ret .none)) { s with heap:=s.heap.update dx (Obj.putName name (PyData.keyHash w.params name) (.str name s.toks) v),toks:=s.toks + 1 }) :
  codeAny (model pw w) A (.call (.builtin "object.__setattr__") ⟨[.ref x,.str name tk,v],[]⟩) R s:=by
 refine osa_open X I hp ht fun b=>?_
 have hh':∃ cd,clsIn K C=some cd∧cd.hasDict=true:=by
  unfold hasDictIn at hh
  cases hc:clsIn K C with
  | none=>rw[hc]at hh;exact nk6 hh
  | some cd=>rw[hc]at hh;exact⟨cd,rfl,hh⟩
 obtain⟨cd,hc,hcd⟩:=hh'
 obtain⟨hx,hcl,hn,hdd⟩:=I
 obtain⟨oc,odi,oda,osl⟩:=ox
 dsimp only at hcl hd hdd
 subst hcl hd
 have D:s.heap.get? dx=some (dictOf es n):=hdd
 have D':(s.heap.update dx (Obj.putName name (PyData.keyHash w.params name) (.str name s.toks) v)).get? dx=some (dictOf (putL name (PyData.keyHash w.params name) (.str name s.toks) v es) (putN name es n)):=by
  rw[Heap.get?_update_self _ D (by rw[putName_dict];rfl),putName_dict]
 refine wpAny_bind (wpAny_pure (wpAny_bind (wpAny_bind (wpAny_loadPart hx (wpAny_bind ((looks_clsIn X hc).here ?_))))))
 rw[hcd]
 refine wpAny_pure (a:=some dx) (wpAny_bind (wpAny_pure (wpAny_bind ?_)))
 unfold nsSet
 refine wpAny_bind (wpAny_bind (wpAny_askSetting (wpAny_pure (wpAny_bind (wpAny_mkText (wpAny_bind (wpAny_loadPart D ?_)))))))
 dsimp only
 have c:(!es.toArray.any (·.key.isStr name)&&es.toArray.any (·.refKey))=false:=by
  have e:es.toArray.any (·.refKey)=false:=by rw[← hl];simp
  rw[e,Bool.and_false]
 rw[aRefKeyMayBeTheName_at,c]
 refine wpAny_updatePart D ?_
 refine wpAny_bind (wpAny_lookBehind D' (pastItsLine_dict (by rw[List.size_toArray,sizeLine_eq];omega)) ?_)
 exact wpAny_pure h
theorem fZ.length {α:Type}{R:Value→α→Prop}{fs:List (Str × α)}:∀ {es:List DictEntry},fZ R es fs→es.length=fs.length:=by
 induction fs with
 | nil=>exact fun h=>congrArg List.length h
 | cons x r ih=>intro es h;obtain⟨e,q,rfl,_,h⟩:=h.cI;exact congrArg (· + 1) (ih h)
theorem fZ.noRef {α:Type}{R:Value→α→Prop}{fs:List (Str × α)}:∀ {es:List DictEntry},fZ R es fs→es.any (·.refKey)=false:=by
 induction fs with
 | nil=>intro es h;obtain rfl:es=[]:=h;rfl
 | cons x r ih =>
  intro es h
  obtain⟨e,q,rfl,⟨⟨t,hk⟩,_⟩,h⟩:=h.cI
  rw[List.any_cons,show e.refKey=false by unfold DictEntry.refKey;rw[hk],ih h];rfl
theorem FS (name:Str) (hsh:Int) (key v:Value) (es:List DictEntry):(putL name hsh key v es).length ≤ es.length + 1:=by
 induction es with
 | nil=>exact Nat.le_refl _
 | cons e r ih =>
  unfold putL
  split
  ·exact Nat.le_succ _
  ·exact Nat.succ_le_succ ih
theorem fZ.put {α:Type}{R:Value→α→Prop}{name:Str}{hsh:Int}{tk:Tok}{v:Value}{y:α} (p:R v y) {fs:List (Str × α)}:∀ {es:List DictEntry},fZ R es fs→fZ R (putL name hsh (.str name tk) v es) (Mine.put name y fs):=by
 induction fs with
 | nil=>intro es h;obtain rfl:es=[]:=h;exact⟨_,_,rfl,⟨⟨tk,rfl⟩,p⟩,rfl⟩
 | cons x r ih =>
  intro es h
  obtain⟨e,q,rfl,⟨⟨t,hk⟩,p'⟩,h⟩:=h.cI
  unfold putL
  rw[hk,DG]
  by_cases z:x.1=name
  ·rw[if_pos (beq_iff_eq.mpr z),AW z.symm]
   exact⟨_,_,rfl,⟨⟨t,congrArg (Value.str · t) z⟩,p⟩,h⟩
  ·rw[if_neg fun y=>z (beq_iff_eq.mp y),A0 fun y=>z y.symm]
   exact⟨_,_,rfl,⟨⟨t,hk⟩,p'⟩,ih h⟩
section
variable {w:World}{H:PM}{env:Env}{c:Cf}{st:St}{h h':Heap}{v:Value}
theorem aC.setG (R:aC w H env c st h) {k:Nat}{t:bY}{a:Addr}{sl:Slot}{o':Obj}{m m':MO} (ht:t=.g k∨t=.d k) (hw:c.ow a=some t) (hk:st.g[k]? = some m) (hS:c.S[k]? = some sl) (hs:∀ b,b ≠ a→h'.get? b=h.get? b) (ha:h'.get? a=some o')
  (ho:Own w env c { st with g:=e8 st.g k m' } a o' t) (kg:∀ b o,b ≠ a→sl.addr=b→jE w c sl o m→jE w c sl o m') (kd:∀ b a' o,b ≠ a→sl=.o a' b→∀ C fs,m'=.inst C fs→(∀ C fs,m=.inst C fs→∃ es n,o=dictOf es n∧hJ w c es fs)→∃ es n,o=dictOf es n∧hJ w c es fs):aC w H env c { st with g:=e8 st.g k m' } h':=by
 refine R.set (st':={ st with g:=e8 st.g k m' }) hw hs ha ho ⟨R.ix.loc,R.ix.cel,R.ix.celd,R.ix.gl.trans (kH _ _ _).symm,R.ix.g,R.ix.ll,R.ix.l,R.ix.nol⟩ fun b o u nb q=>?_
 cases u with
 | g j =>
  obtain⟨D4,q1,q2,q3⟩:=q
  refine Own.gI q1 q2 fun mm e=>dZ e (fun z _ e'=>?_) (fun _=>q3 mm) fun z=>absurd (dJ q1) (Nat.not_lt.mpr (R.ix.gl ▸ List.getElem?_eq_none_iff.mp z))
  subst z
  obtain rfl:=Option.some.inj (hS.symm.trans q1)
  exact Option.some.inj e' ▸ kg b o nb q2 (q3 m hk)
 | d j =>
  obtain⟨a',q1,q3⟩:=q
  refine Own.dI q1 fun C fs e=>dZ e (fun z _ e'=>?_) (fun _=>q3 C fs) fun z=>absurd (dJ q1) (Nat.not_lt.mpr (R.ix.gl ▸ List.getElem?_eq_none_iff.mp z))
  subst z
  exact kd b a' o nb (Option.some.inj (hS.symm.trans q1)) C fs (Option.some.inj e') fun C fs e=>q3 C fs (hk.trans (congrArg _ e))
 | _=>exact q
end
section
variable {Γ:Gm}{H:PM}{F:Fr}{cx:Cx}{c:Cf}{s:Shared}{st:St}{Q:Unit→Shared→Prop}{E:Value→Shared→Prop}{ih:Cx→Expr→St→Pg (PV × St)}
theorem DH (hK:cW Γ.w Γ.K Γ.T) (o:Ok Γ H F c) (R:aC Γ.w H F.env c st s.heap) {v u:Value}{x y:PV}{a:Str}{st':St} (p:aH Γ.w c v x) (py:aH Γ.w c u y) (e:BL Γ.T x a y st=some st') (q:∀ s',aC Γ.w H F.env c st' s'.heap→aS s s'→Q () s'):wpAny (model pw Γ.w) F.A (setAttr v a u) Q E s:=by
 have KI:=o.kin R
 refine ob e fun k hk e=>ob e fun r hr e=>aD e fun hf e=>aD e fun hl e=>aD e fun hn e=>?_
 rw[← Option.some.inj e]at q
 refine R.iE p hk hr fun xa dd es n hS o1 o2 a1 a4 a5=>?_
 obtain⟨g1,g2,g3,g4,g5,g6⟩:=hK.fld _ a hf
 have I:W.InstAt s.heap xa (instObj r.1 dd) r.1 (some (dictOf es n)):=⟨a1,rfl,rfl,a4⟩
 refine set_plain KI I g4 (IY (s:={ s with toks:=s.toks + 1 }) KI I rfl g5 g6 g2 (fZ.noRef a5) (Nat.le_trans (FS _ _ _ _ es) (Nat.le_trans (Nat.succ_le_of_lt (fZ.length a5 ▸ eK hl)) (by decide))) ?_)
 have get:(s.heap.update dd (Obj.putName a (PyData.keyHash Γ.w.params a) (.str a (s.toks + 1)) u)).get? dd=some (dictOf (putL a (PyData.keyHash Γ.w.params a) (.str a (s.toks + 1)) u es) (putN a es n)):=by
  rw[Heap.get?_update_self _ a4 (by rw[putName_dict];rfl),putName_dict]
 refine q _ (R.setG (t:=.d k) (.inr rfl) o2 (nR hr) hS (fun b hb=>Heap.get?_update_ne _ _ _ _ hb) get (Own.dI hS fun C fs e=>dZ e (fun _ _ e'=>?_) (fun z=>absurd rfl z) fun z=>nk4 ((nR hr).symm.trans z)) (fun b o nb e g=>?_) fun b a' o nb e=>absurd (by injection e with _ e;exact e.symm) nb) ⟨rfl,rfl⟩
 ·injection Option.some.inj e' with _ e2;exact⟨_,_,rfl,e2 ▸ fZ.put py a5⟩
 ·obtain⟨a1,d1,e1,e2⟩:=g;exact⟨a1,d1,e1,e2⟩
end
end Mine
end
section
namespace Mine
theorem jR {α:Type u}{c:Prop} [Decidable c] {x y:α}{P:α→Prop} (h1:c→P x) (h2:¬c→P y):P (if c then x else y):=by
 by_cases h:c
 ·rw[if_pos h];exact h1 h
 ·rw[if_neg h];exact h2 h
theorem aX.reverse {w:World}{c:Cf}{ws:List PV}:∀ {vs:List Value},aX w c vs ws→aX w c vs.reverse ws.reverse:=by
 induction ws with
 | nil=>intro vs h;obtain rfl:=h.c0;exact h
 | cons x r ih=>intro vs h;obtain⟨v,u,rfl,p,h⟩:=h.cI;rw[List.reverse_cons,List.reverse_cons];exact aX.app (aX.cons p .nil) (ih h)
theorem aX.ofF {w:World}{c:Cf}{xs:List FV}:∀ {vs:List Value},aQ w c.B vs xs→aX w c vs (xs.map .f):=by
 induction xs with
 | nil=>exact fun h=>h
 | cons x r ih=>exact fun h=>h.c.imp fun v h=>h.imp fun r h=>⟨h.1,h.2.1,ih h.2.2⟩
section
variable {Γ:Gm}{H:PM}{F:Fr}{cx:Cx}{c:Cf}{s:Shared}{st:St}{Q:Unit→Shared→Prop}{E:Value→Shared→Prop}{ih:Cx→Expr→St→Pg (PV × St)}
theorem Cz {env:Env} (h:env.scope.kind=.function):(env.scope.kind == .class||(env.scope.kind == .module&&env.locals != env.globals))=false:=by rw[h];rfl
theorem kI (hF:aV Γ F cx) (o:Ok Γ H F c) (R:aC Γ.w H F.env c st s.heap) {n:Str}{v:Value}{x:PV}{st':St} (p:aH Γ.w c v x) (e:gL cx n x st=some st') (q:∀ s',aC Γ.w H F.env c st' s'.heap→aS s s'→Q () s'):wpAny (model pw Γ.w) F.A (storeName F.env n v) Q E s:=by
 refine ob e fun k hk e=>?_
 cases k with
 | «local» =>
  rw[← Option.some.inj e]at q
  obtain⟨ob,e1,_,es,ep,e2,e3,_⟩:=R.owG R.ix.loc
  have hn:s.heap.Ns F.env.locals (nsFind es):=⟨ob,es,ep,e1,e2,e3,fun _=>rfl⟩
  exact wpAny_storeName_local (hF.names n _ hk nofun) hn (fun h' hn' hs=>q _ (R.setV hs hn hn' p) ⟨rfl,rfl⟩) (Cz hF.kind)
 | cell =>
  rw[← Option.some.inj e]at q
  obtain⟨hro,hce⟩:=hF.cells n hk
  obtain⟨a,ha⟩:=Option.isSome_iff_exists.mp hce
  have how:c.ow a=some (.c n):=(R.ix.cel n a ha).elim id fun z=>nk6 (hro.symm.trans (o.ro.symm.trans z.1))
  obtain⟨ob,e1,_,v₀,e2,_⟩:=R.owG how
  exact wpAny_storeName_cell hF.kind (hF.names n _ hk nofun) ha ⟨ob,e1,e2⟩ fun h' hc' hs=>q _ (R.setC ha how hs hc' p) ⟨rfl,rfl⟩
 | _=>exact nk3 e
theorem s6 {A:Around}{l:Addr}{us:List Value}{n:Nat}{k:Int}{j:Nat}{t:Tok}{v:Value} (h:s.heap.get? l=some (PySem.W.listOf us.toArray n)) (e:k=(j:Int)) (hj:j < us.length) (hf:k < 2 ^ 63)
  (q:Q () { s with heap:=s.heap.update l (Obj.mapSeq (·.setIfInBounds j v)) }):wpAny (model pw Γ.w) A (setItem (.ref l) (.int k t) v) Q E s:=by
 have hl:s.heap.IsList l us.toArray:=⟨_,h,rfl,_,rfl⟩
 have h0:0 ≤ k:=e ▸ Int.natCast_nonneg j
 unfold setItem
 refine wpAny_holding (wpAny_bind (wpAny_sequenceKey hl.typeIs (by decide) ?_))
 refine wpAny_bind (wpAny_callSpecial?_slot (name:=Str.ofString "__setitem__") hl.typeIs slot_list_setitem (wpAny_call_entry slot_list_setitem hl.typeIs entry_list_setitem ?_ (args_list_setitem _ _ _)))
 show wpAny _ _ (Builtin.List.listSubscript? (.int k t) >>= _) _ _ s
 refine wpAny_bind (wpAny_listSubscript_int (fitsIndex_of h0 hf) ?_)
 clear hf h0
 subst e
 show wpAny _ _ ((seqItemAt l j >>= fun r=>pure (r.map (j,·))) >>= _) _ _ s
 refine wpAny_bind (wpAny_bind (wpAny_seqItemAt h rfl (wpAny_pure ?_)))
 rw[show us.toArray[j]? = some (us[j]) from(List.getElem?_toArray ..).trans (List.getElem?_eq_getElem hj)]
 show wpAny _ _ (setSeqItemAt l j v >>= _) _ _ s
 exact wpAny_bind (wpAny_setSeqItemAt h rfl (wpAny_bind (wpAny_pure (wpAny_pure ⟨.none,rfl,wpAny_pure q⟩))))
theorem uW {i:Int}{n j:Nat} (h:w7 i n=some j):i=(j:Int)∧j < n∧(j:Int) < 2 ^ 63 :=
 ob h fun k hk h=>aD h fun h1 h=>aD h fun h2 h=>Option.some.inj h ▸ ⟨lT hk,eK h1,Int.lt_of_le_of_lt (Int.ofNat_le.mpr (Nat.le_of_ble_eq_true h2)) (by decide)⟩
theorem qY (us:List Value) (n j:Nat) (v:Value):∃ m,Obj.mapSeq (·.setIfInBounds j v) (PySem.W.listOf us.toArray n)=PySem.W.listOf (us.set j v).toArray m :=
 ⟨_,congrArg (fun x=>PySem.W.listOf x (if (us.toArray.setIfInBounds j v).size == us.toArray.size then n else n + 1)) (List.setIfInBounds_toArray us j v)⟩
theorem Iv (R:aC Γ.w H F.env c st s.heap) {v vi u:Value}{x i y:PV}{st':St} (p:aH Γ.w c v x) (pi:aH Γ.w c vi i) (py:aH Γ.w c u y) (e:KO x i y st=some st') (q:∀ s',aC Γ.w H F.env c st' s'.heap→aS s s'→Q () s'):wpAny (model pw Γ.w) F.A (setItem v vi u) Q E s:=by
 refine ob e fun i' hi e=>ob e fun y' hy e=>pi.iE hi fun t=>?_
 have py:=py.fE hy
 have get:∀ {a n j m:Nat}{us:List Value},Obj.mapSeq (·.setIfInBounds j u) (PySem.W.listOf us.toArray n)=PySem.W.listOf (us.set j u).toArray m→s.heap.get? a=some (PySem.W.listOf us.toArray n)→(s.heap.update a (Obj.mapSeq (·.setIfInBounds j u))).get? a=some (PySem.W.listOf (us.set j u).toArray m):=fun h e=>(Heap.get?_update_self _ e (by rw[h];rfl)).trans (congrArg some h)
 cases x with
 | f=>exact nk3 e
 | loc k =>
  refine ob e fun xs hx e=>ob e fun j hj e2=>R.lE p rfl hx fun a us n h1 h2 h4 h5=>?_
  obtain⟨rfl,a1,a2⟩:=uW hj
  obtain⟨m,hm⟩:=qY us n j u
  rw[← Option.some.inj e2]at q
  exact s6 (Γ:=Γ) h4 rfl (h5.length ▸ a1) a2 (q _ (R.setL (m:=.dead) h1 h2 (fun b hb=>Heap.get?_update_ne _ _ _ _ hb) (get hm h4) (by rw[nL];exact h5.set py j)) ⟨rfl,rfl⟩)
 | ref k =>
  refine ob e fun xs hx e=>ob e fun j hj e2=>?_
  obtain⟨sl,o,rfl,hS,how,g1,a,us,n,rfl,rfl,f⟩:=R.gAt p (fU hx)
  obtain⟨rfl,a1,a2⟩:=uW hj
  obtain⟨m,hm⟩:=qY us n j u
  rw[← Option.some.inj e2]at q
  refine s6 (Γ:=Γ) g1 rfl (f.length ▸ a1) a2 (q _ (R.setG (.inl rfl) how (fU hx) hS (fun b hb=>Heap.get?_update_ne _ _ _ _ hb) (get hm g1) (Own.gI hS rfl fun mm e'=>dZ e' (fun _ _ e'=>Option.some.inj e' ▸ jE.lstI (by rw[nL];exact f.set py j)) (fun z=>absurd rfl z) fun z=>nk4 ((fU hx).symm.trans z)) (fun b o nb e=>absurd e.symm nb) fun b a' o nb e=>nofun) ⟨rfl,rfl⟩)
noncomputable def OQ (Γ:Gm) (H:PM) (f:Cx→Expr→PV→St→Pg (Unit × St)):Prop :=
 ∀ (F:Fr) (cx:Cx) (t:Expr) (x:PV) (st:St) (v:Value) (c:Cf) (s:Shared) (Q:Unit→Shared→Prop) (E:Value→Shared→Prop),aV Γ F cx→Ok Γ H F c→aC Γ.w H F.env c st s.heap→aH Γ.w c v x →
  aG Γ VU H F (f cx t x st) c s Q E→wpAny (model pw Γ.w) F.A (assign t F.env v) Q E s
theorem d5 {ts:List Expr} (h:ts.all bO=true) (env:Env):assignEach ts env=ts.map fun t=>(false,assign t env):=by
 induction ts with
 | nil=>rfl
 | cons t r ih =>
  obtain⟨h1,h2⟩:=Bool.and_eq_true_iff.mp h
  rw[List.map_cons,← ih h2]
  cases t with
  | Set=>exact nk6 h1
  | Starred=>exact nk6 h1
  | _=>rfl
theorem zU {A:Cx→Expr→PV→St→Pg (Unit × St)} (hF:aV Γ F cx) (hA:OQ Γ H A) (ts:List Expr):∀ (ws:List PV) (vs:List Value) (st:St) (c:Cf) (s:Shared) (Q:Unit→Shared→Prop) (E:Value→Shared→Prop),Ok Γ H F c→aC Γ.w H F.env c st s.heap→aX Γ.w c vs ws →
  aG Γ VU H F (rM (A cx) ts ws st) c s Q E→wpAny (model pw Γ.w) F.A (assignInOrder (ts.map fun t=>assign t F.env) vs) Q E s:=by
 induction ts with
 | nil =>
  intro ws vs st c s Q E o R p g
  refine aG.gp g fun hn g=>?_
  obtain rfl:vs=[]:=aX.c0 (bN hn ▸ p)
  exact wpAny_pure (g.done R trivial)
 | cons t ts ih =>
  intro ws vs st c s Q E o R p g
  cases ws with
  | nil=>exact g.stuck
  | cons x ws =>
   obtain⟨v,us,rfl,p,q⟩:=p.cI
   show wpAny _ _ (do holding us (assign t F.env v);assignInOrder (ts.map fun t=>assign t F.env) us) Q E s
   exact wpAny_bind (wpAny_holding (aG.bindC (V₁:=VU) g (hA F cx t x st v c s _ E hF o R p) o fun b st₁ c₁ a s₁ _ l₁ o₁ R₁ _ z₁ g=>ih ws us st₁ c₁ s₁ Q E o₁ R₁ (q.mono l₁) g))
theorem JA (env:Env) (l:List Expr):(l.map fun t=>(false,assign t env)).findIdx? (·.1)=none:=by
 induction l with
 | nil=>rfl
 | cons a r ih=>rw[List.map_cons,List.findIdx?_cons,ih];rfl
theorem u4 (hF:aV Γ F cx) {ts:List Expr}{x1:Nat}{pos:Pos}{a:Addr}{us:List Value} (h2:ts.all bO=true) (ht:s.heap.IsTuple a us.toArray) (hl:ts.length=us.length)
  (q:∀ h',aY s.heap h'→wpAny (model pw Γ.w) F.A (assignInOrder (ts.map fun t=>assign t F.env) us) Q E { s with heap:=h' }):wpAny (model pw Γ.w) F.A (assign (.Tuple ts x1 pos) F.env (.ref a)) Q E s:=by
 refine wpAny_assign_Tuple (items:=us.toArray) hF.handled ht ?_ ?_ fun h' hx=>?_
 ·rw[d5 h2,List.length_map,List.size_toArray];exact hl
 ·rw[d5 h2];exact JA _ ts
 ·rw[d5 h2,List.map_map]
  exact q h' fun b ob e=>hx b ob (Nat.ne_of_lt (Heap.lt_size e)) e
theorem sO (hK:cW Γ.w Γ.K Γ.T) (hI:cD Γ H (E0 Γ.T)) (k:Nat):OQ Γ H (fun cx t x st=>pB Γ.T cx k t x st):=by
 induction k with
 | zero=>exact fun F cx t x st v c s Q E hF o R p g=>g.stuck
 | succ k ihk =>
  intro F cx t x st v c s Q E hF o R p g
  cases t with
  | Name n pos=>exact g.opt fun st' e g=>wpAny_assign_Name (kI hF o R p e fun s' R' z=>aG.done' g (.refl c) R' trivial z)
  | Attribute ob a pos =>
   show wpAny _ _ (do let ov ← holding [v] (eval ob F.env);standAt pos.atName;holding [v,ov] (setAttr ov a v);release [v,ov] []) Q E s
   exact wpAny_bind (wpAny_holding (aG.bind g (hI F cx ob st hF) o R fun w₁ st₁ c₁ v₁ s₁ _ l₁ o₁ R₁ p₁ z₁ g=>g.opt fun st' e g=>wpAny_bind (wpAny_standAt (wpAny_bind (wpAny_holding (DH hK o₁ R₁ p₁ (p.mono l₁) e fun s' R' z=>wpAny_release (aG.done' g (.refl _) R' trivial z)))))))
  | Subscript ob i pos =>
   rw[arm_assign_Subscript]
   exact wpAny_bind (wpAny_holding (aG.bind g (hI F cx ob st hF) o R fun w₁ st₁ c₁ v₁ s₁ _ l₁ o₁ R₁ p₁ z₁ g=>wpAny_bind (wpAny_holding (aG.bind g (hI F cx i st₁ hF) o₁ R₁ fun w₂ st₂ c₂ v₂ s₂ _ l₂ o₂ R₂ p₂ z₂ g=>g.opt fun st' e g =>
    wpAny_bind (wpAny_standAt (wpAny_bind (wpAny_holding (Iv R₂ (p₁.mono l₂) p₂ ((p.mono l₁).mono l₂) e fun s' R' z=>wpAny_release (aG.done' g (.refl _) R' trivial z)))))))))
  | Tuple ts x1 pos =>
   refine g.opt fun xs hx g=>g.gp fun h1 g=>g.gp fun h2 g=>fK hx fun y hy hx=>(p.fE (hy ▸ rfl)).tE hx fun a n us hb rb=>?_
   exact u4 hF h2 ⟨_,R.b _ _ hb,rfl,_,rfl⟩ ((Nat.eq_of_beq_eq_true h1).trans rb.length.symm) fun h' gr=>zU hF ihk ts (xs.map .f) us st c _ Q E o (R.grows gr) (.ofF rb) (aG.mono g (.refl c) ⟨rfl,rfl⟩)
  | _=>exact g.stuck
noncomputable def CM (env:Env) (ts:List Expr):List Str→Prop:=@List.rec Expr (fun _=>List Str→Prop) (fun ns=>ns=[]) (fun t _ ih ns=>∃ n p r,t=.Name n p∧ns=n::r∧env.kindOf n=some .local∧ih r) ts
noncomputable def p9 (L:List (Str × PV)):List (Str × PV)→List (Str × PV):=@List.rec (Str × PV) (fun _=>List (Str × PV)→List (Str × PV)) (fun m=>m) (fun p _ ih m=>ih (put p.1 p.2 m)) L
theorem pS {z:Str}{L:List (Str × PV)}:∀ {m:List (Str × PV)},z ∉ L.map (·.1)→lk z (p9 L m)=lk z m:=by
 induction L with
 | nil=>exact fun _=>rfl
 | cons p r ih=>intro m n;exact(ih fun h=>n (List.mem_cons_of_mem _ h)).trans (rA (fun h:z=p.1=>n (by rw[h];exact List.mem_cons_self)) m)
theorem uS {z:Str}{u:PV}{L:List (Str × PV)}:∀ {m:List (Str × PV)},(L.map (·.1)).Nodup→(z,u) ∈ L→lk z (p9 L m)=some u:=by
 induction L with
 | nil=>exact fun _ h=>absurd h List.not_mem_nil
 | cons p r ih =>
  intro m nd h
  obtain⟨n1,n2⟩:=List.nodup_cons.mp nd
  rcases List.mem_cons.mp h with h | h
  ·subst h;exact(pS n1).trans (rB rfl m)
  ·exact ih n2 h
theorem y0 {L:List (Str × PV)} (nd:(L.map (·.1)).Nodup) (m:List (Str × PV)) (z:Str):lk z (p9 L m)=lk z (p9 L.reverse m):=by
 have nd':(L.reverse.map (·.1)).Nodup:=by rw[List.map_reverse];exact List.pairwise_reverse.mpr (nd.imp Ne.symm)
 by_cases h:z ∈ L.map (·.1)
 ·obtain⟨p,h1,h2⟩:=List.mem_map.mp h
  have h1:(z,p.2) ∈ L:=h2 ▸ h1
  rw[uS nd h1,uS nd' (List.mem_reverse.mpr h1)]
 ·rw[pS h,pS (by rw[List.map_reverse];exact fun y=>h (List.mem_reverse.mp y))]
theorem aC.congrV {w:World}{env:Env}{h:Heap} (R:aC w H env c st h) {v':List (Str × PV)} (hv:∀ x,lk x v'=lk x st.v):aC w H env c { st with v:=v' } h :=
 ⟨R.b,R.bh,R.hh,R.fsH,fun a t e=>⟨R.owB e,R.owH e,(R.owG e).imp fun o q=>⟨q.1,by
  cases t with
  | v=>exact And.imp_right (fun q=>q.imp fun _ q=>q.imp fun _ q=>⟨q.1,q.2.1,fun x u e=>q.2.2 x u ((hv x).symm.trans e)⟩) q.2
  | _=>exact q.2⟩⟩,R.ix⟩
theorem Da (hF:aV Γ F cx) {k:Nat}{ts:List Expr}:∀ {ns:List Str}{ws:List PV}{st:St},CM F.env ts ns→aG Γ VU H F (rM (pB Γ.T cx (k + 1)) ts ws st) c s Q E →
  (∀ n ∈ ns,kindOf cx.sc n=some .local)∧ts.filterMap (A7 cx)=ns∧ns.length=ws.length∧aG Γ VU H F (.ok ((),{ st with v:=p9 (ns.zip ws) st.v })) c s Q E:=by
 induction ts with
 | nil=>intro ns ws st hn g;obtain rfl:ns=[]:=hn;exact g.gp fun h g=>bN h ▸ ⟨iG,rfl,rfl,g⟩
 | cons t r ihr =>
  intro ns ws st hn g
  obtain⟨n,p,ns,rfl,rfl,hk,hn⟩:∃ n p r',t=.Name n p∧ns=n::r'∧F.env.kindOf n=some .local∧CM F.env r r':=hn
  cases ws with
  | nil=>exact g.stuck
  | cons x ws =>
   have g:aG Γ VU H F ((opt (gL cx n x st) HH).bind fun q=>rM (pB Γ.T cx (k + 1)) r ws q.2) c s Q E:=g
   cases e:gL cx n x st with
   | none=>rw[e]at g;exact absurd rfl g.go
   | some st' =>
    rw[e]at g
    refine ob e fun kd hkd e=>?_
    cases kd with
    | «local» =>
     obtain rfl:=Option.some.inj e
     obtain⟨i1,i2,i3,i4⟩:=ihr hn g
     refine⟨fun m hm=>(List.mem_cons.mp hm).elim (fun z=>z ▸ hkd) (i1 m),?_,congrArg (· + 1) i3,i4⟩
     rw[List.filterMap_cons,show A7 cx (.Name n p)=some n by unfold A7;show(kindOf cx.sc n).bind _=_;rw[hkd];rfl,i2]
    | cell=>exact absurd ((hF.names n _ hkd nofun).symm.trans hk) nofun
    | _=>exact nk3 e
theorem Ds (hF:aV Γ F cx) (o:Ok Γ H F c) (L:List (Str × PV)):∀ {vs:List Value}{st:St}{s:Shared},(∀ p ∈ L,kindOf cx.sc p.1=some .local)→aC Γ.w H F.env c st s.heap→aX Γ.w c vs (L.map (·.2))→(∀ s',aC Γ.w H F.env c { st with v:=p9 L st.v } s'.heap→aS s s'→Q () s') →
  wpAny (model pw Γ.w) F.A (assignInOrder ((L.map (·.1)).map fun n=>bindName F.env n) vs) Q E s:=by
 induction L with
 | nil=>intro vs st s _ R p q;obtain rfl:=p.c0;exact wpAny_pure (q s R (.refl s))
 | cons a r ihr =>
  intro vs st s hk R p q
  obtain⟨v,us,rfl,p,ps⟩:=p.cI
  show wpAny _ _ (do holding us (bindName F.env a.1 v);assignInOrder ((r.map (·.1)).map fun n=>bindName F.env n) us) Q E s
  refine wpAny_bind (wpAny_holding (wpAny_bindName (kI hF o R p (st':={ st with v:=put a.1 a.2 st.v }) (by unfold gL;rw[hk a List.mem_cons_self];rfl) fun s' R' z=>ihr (fun p hp=>hk p (List.mem_cons_of_mem _ hp)) R' ps fun s2 R2 z2=>q s2 R2 (z.trans z2))))
theorem EQ {l:List Str} (h:v7 l=true):l.Nodup:=by
 induction l with
 | nil=>exact .nil
 | cons a r ih =>
  obtain⟨h1,h2⟩:=Bool.and_eq_true_iff.mp h
  exact List.nodup_cons.mpr ⟨fun m=>nk5 ((rS.mpr m).symm.trans (gU h1)),ih h2⟩
theorem K2 (hF:aV Γ F cx) {k:Nat}{ts:List Expr}{ns:List Str} (hn:CM F.env ts ns) (h2:Bt cx ts=true) {ws:List PV}{vs:List Value} (o:Ok Γ H F c) (R:aC Γ.w H F.env c st s.heap) (p:aX Γ.w c vs ws)
  (g:aG Γ VU H F (rM (pB Γ.T cx (k + 1)) ts ws st) c s Q E):wpAny (model pw Γ.w) F.A (assignInOrder (ns.reverse.map fun n=>bindName F.env n) vs.reverse) Q E s:=by
 obtain⟨i1,i2,i3,g⟩:=Da hF hn g
 have m1:(ns.zip ws).map (·.1)=ns:=List.map_fst_zip (Nat.le_of_eq i3)
 have m2:(ns.zip ws).map (·.2)=ws:=List.map_snd_zip (Nat.le_of_eq i3.symm)
 have nd:((ns.zip ws).map (·.1)).Nodup:=by rw[m1];exact EQ (i2 ▸ h2)
 have:=Ds (E:=E) (Q:=Q) hF o (ns.zip ws).reverse (vs:=vs.reverse) (fun p hp=>i1 _ (by rw[← m1];exact List.mem_map_of_mem (List.mem_reverse.mp hp))) R (by rw[List.map_reverse,m2];exact p.reverse) fun s' R' z=>aG.done' g (.refl c) (R'.congrV fun x=>y0 nd _ x) trivial z
 rw[List.map_reverse,m1]at this
 exact this
noncomputable def GS (env:Env) (line:Nat):Expr→Option Str:=fun
  | .Name id pos=>if env.kindOf id == some .local&&pos.line == line then some id else none
  | _=>none
theorem LN {env:Env}{line:Nat}{ts:List Expr}:(ts.filterMap (GS env line)).length=ts.length→CM env ts (ts.filterMap (GS env line)):=by
 induction ts with
 | nil=>exact fun _=>rfl
 | cons t r ih =>
  intro e
  have le:(r.filterMap (GS env line)).length ≤ r.length:=List.length_filterMap_le _ _
  cases q:GS env line t with
  | none=>rw[List.filterMap_cons,q]at e;exact absurd (e ▸ le) (Nat.not_succ_le_self _)
  | some n =>
   rw[List.filterMap_cons,q]at e ⊢
   cases t with
   | Name id pos =>
    by_cases z:(env.kindOf id == some .local&&pos.line == line)=true
    ·have q:(if (env.kindOf id == some .local&&pos.line == line)=true then some id else none)=some n:=q
     rw[if_pos z]at q
     exact⟨id,pos,_,rfl,congrArg (·::_) (Option.some.inj q).symm,beq_iff_eq.mp (Bool.and_eq_true_iff.mp z).1,ih (Nat.succ.inj e)⟩
    ·have q:(if (env.kindOf id == some .local&&pos.line == line)=true then some id else none)=some n:=q
     rw[if_neg z]at q;exact nk3 q
   | _=>exact nk3 q
noncomputable def pY (env:Env) (ts:List Expr) (X:Sem (Option (List Str))):Prop:=X=pure none∨∃ ns,X=pure (some ns)∧CM env ts ns
theorem Ab {env:Env}{ts es:List Expr}{x1 x2:Nat}{p1 p2:Pos} (hc:(es.all (foldedForSure 8)||!es.all (constantsAlone 8))=true):pY env ts (swappedStores [.Tuple ts x1 p1] (.Tuple es x2 p2) env):=by
 refine jR (P:=pY env ts) (fun _=>.inl rfl) fun _=>jR (P:=pY env ts) (fun _=>.inl rfl) fun _=>jR (P:=pY env ts) (fun _=>.inl rfl) fun h3=>jR (P:=pY env ts) (fun _=>.inl rfl) fun h4=>jR (P:=pY env ts) (fun h5=>?_) fun _=>.inr ⟨_,rfl,LN (line:=(ts.head?.map (·.pos.line)).getD 0) ?_⟩
 ·rw[h5]at hc;exact absurd ((Bool.or_false _).symm.trans hc) h4
 ·have h3:=Bool.or_eq_false_iff.mp (Bool.eq_false_iff.mpr h3)
  exact bne_eq_false_iff_eq.mp h3.1
end
end Mine
end
section
namespace Mine
noncomputable def VF (w:World) (c:Cf) (fl:Flow) (f:Fl):Prop:=match f with
 | .next=>fl=.next
 | .brk=>fl=.brk
 | .cont=>fl=.cont
 | .ret x=>∃ v,fl=.ret v∧aH w c v x
section
variable {Γ:Gm}{H:PM}{F:Fr}{cx:Cx}{c:Cf}{s:Shared}{st:St}{ih:Cx→Expr→St→Pg (PV × St)}{xh:Cx→Stmt→St→Pg (Fl × St)}
noncomputable def yB (Γ:Gm) (H:PM) (f:Cx→Stmt→St→Pg (Fl × St)):Prop:=∀ (F:Fr) (cx:Cx) (a:Stmt) (st:St),aV Γ F cx→TG Γ (VF Γ.w) H F st (f cx a st) (exec a F.env)
theorem mV (hX:yB Γ H xh) (hF:aV Γ F cx) (ss:List Stmt):∀ st:St,TG Γ (VF Γ.w) H F st (dS xh cx ss st) (execs ss F.env):=by
 induction ss with
 | nil=>exact fun st c s Q E o R g=>wpAny_execs_nil (g.done R (rfl:VF Γ.w c .next .next))
 | cons a r ihr =>
  intro st c s Q E o R g
  refine wpAny_execs_cons (aG.bind (k:=fun a=>match a.1 with
   | .next=>dS xh cx r a.2
   | _=>.ok a) g (hX F cx a st hF) o R fun w₁ st₁ c₁ v₁ s₁ _ l₁ o₁ R₁ p₁ z₁ g=>?_)
  cases w₁ with
  | next=>rw[show v₁=.next from p₁];exact ihr st₁ c₁ s₁ Q E o₁ R₁ g
  | brk=>rw[show v₁=.brk from p₁];exact g.done R₁ (rfl:VF Γ.w c₁ .brk .brk)
  | cont=>rw[show v₁=.cont from p₁];exact g.done R₁ (rfl:VF Γ.w c₁ .cont .cont)
  | ret=>obtain⟨v,rfl,p⟩:=p₁;exact g.done R₁ ⟨v,rfl,p⟩
theorem wK {e:Expr} (h:kP e=false) (t:Option Expr) (l:Nat) (env:Env):swapsWith e t l env=pure false:=by
 cases e with
 | ListComp=>exact nk5 h
 | SetComp=>exact nk5 h
 | DictComp=>exact nk5 h
 | _=>rfl
theorem F3 (hF:aV Γ F cx):interactive F.env=false:=by unfold interactive;rw[hF.kind];rfl
theorem Ie (hI:cD Γ H (E0 Γ.T)) (hF:aV Γ F cx) {e:Expr}{p:Pos}:TG Γ (VF Γ.w) H F st (gp (!kP e) ((E0 Γ.T cx e st).bind fun r=>.ok (.next,r.2))) (exec (.Expr e p) F.env) :=
 fun c s Q E o R g=>g.gp fun hc g=>wpAny_Expr_any (aG.bind g (hI F cx e st hF) o R fun w₁ st₁ c₁ v₁ s₁ _ l₁ o₁ R₁ p₁ z₁ g=>g.done R₁ (rfl:VF Γ.w c₁ .next .next)) (F3 hF) (wK (gU hc) _ _ _)
theorem LZ (hI:cD Γ H (E0 Γ.T)) (hF:aV Γ F cx) {v:Option Expr}{p:Pos}:TG Γ (VF Γ.w) H F st (opt v fun e=>(E0 Γ.T cx e st).bind fun r=>.ok (.ret r.1,r.2)) (exec (.Return v p) F.env) :=
 fun c s Q E o R g=>g.opt fun e he g=>by
  subst he
  exact wpAny_Return_some (aG.bind g (hI F cx e st hF) o R fun w₁ st₁ c₁ v₁ s₁ _ l₁ o₁ R₁ p₁ z₁ g=>g.done R₁ ⟨v₁,rfl,p₁⟩)
theorem Md (hI:cD Γ H (E0 Γ.T)) (hX:yB Γ H xh) (hF:aV Γ F cx) {t:Expr}{a b:List Stmt}{p:Pos}:TG Γ (VF Γ.w) H F st ((gC Γ.T cx t st).bind fun r=>bif r.1 then dS xh cx a r.2 else dS xh cx b r.2) (exec (.If t a b p) F.env):=by
 intro c s Q E o R g
 refine wpAny_If (g.bind (vY hI hF 6 t st) o R fun w₁ st₁ c₁ v₁ s₁ _ l₁ o₁ R₁ p₁ z₁ g=>?_)
 obtain rfl:v₁=w₁:=p₁
 cases v₁ with
 | true=>exact mV hX hF a st₁ c₁ s₁ Q E o₁ R₁ g
 | false=>exact mV hX hF b st₁ c₁ s₁ Q E o₁ R₁ g
theorem DK (R:aC Γ.w H F.env c st s.heap) {op:Operator}{a b:Value}{x y:FV}{z:PV} (pa:aO Γ.w c.B a x) (pb:aO Γ.w c.B b y) (hz:((Ar op x y).bind fun z=>some (.f z))=some z) {Q:Value→Shared→Prop}{E:Value→Shared→Prop}
  (q:∀ v s',aC Γ.w H F.env c st s'.heap→aH Γ.w c v z→aS s s'→Q v s'):wpAny (model pw Γ.w) F.A (inplaceOp op a b) Q E s :=
 ob hz fun k hk hz=>ob hk fun i hi hk=>ob hk fun j hj hk=>pa.iE hi fun t=>pb.iE hj fun u=>by
  rw[← Option.some.inj hz]at q
  cases op with
  | Add=>exact AutoIntOps.iadd_0 (q _ _ R (Option.some.inj hk ▸ aH.int _ _) ⟨rfl,rfl⟩)
  | Sub=>exact AutoIntOps.isub_0 (q _ _ R (Option.some.inj hk ▸ aH.int _ _) ⟨rfl,rfl⟩)
  | _=>exact nk3 hk
theorem I7 (hK:cW Γ.w Γ.K Γ.T) (hI:cD Γ H (E0 Γ.T)) (hF:aV Γ F cx) {n:Str}{np p:Pos}{op:Operator}{e:Expr}:TG Γ (VF Γ.w) H F st (opt (gR Γ.T cx n st) fun w=>(E0 Γ.T cx e st).bind fun r=>A9 cx op w r.1 r.2 fun z=>opt (gL cx n z r.2) fun st=>.ok (.next,st)) (exec (.AugAssign (.Name n np) op e p) F.env) :=
 fun c s Q E o R g=>g.opt fun w₀ h₀ g=>wpAny_AugAssign_Name (zZ hK hF o R h₀ fun v p₀=>aG.bind g (hI F cx e st hF) o R fun w₁ st₁ c₁ v₁ s₁ _ l₁ o₁ R₁ p₁ z₁ g=>g.opt fun x hx g=>g.opt fun y hy g=>g.qV fun z hz g=>g.opt fun st' e' g =>
  DK R₁ ((p₀.mono l₁).fE hx) (p₁.fE hy) hz fun v s' R' pv z=>kI hF o₁ R' pv e' fun s'' R'' z'=>aG.done' g (.refl _) R'' (rfl:VF Γ.w c₁ .next .next) (z.trans z')).2
theorem IN (hK:cW Γ.w Γ.K Γ.T) (hI:cD Γ H (E0 Γ.T)) (hF:aV Γ F cx) {ob:Expr}{a:Str}{np p:Pos}{op:Operator}{e:Expr}:TG Γ (VF Γ.w) H F st ((E0 Γ.T cx ob st).bind fun q=>opt (yQ Γ.T q.1 a q.2) fun w=>(E0 Γ.T cx e q.2).bind fun r=>A9 cx op w r.1 r.2 fun z=>opt (BL Γ.T q.1 a z r.2) fun st=>.ok (.next,st)) (exec (.AugAssign (.Attribute ob a np) op e p) F.env) :=
 fun c s Q E o R g=>wpAny_AugAssign_AttributeAny (aG.bind g (hI F cx ob st hF) o R fun w₀ st₀ c₀ v₀ s₀ _ l₀ o₀ R₀ p₀ z₀ g=>g.opt fun y hy g=>DY hK o₀ R₀ p₀ hy fun u s₁ pu es z₁ =>
  aG.bind (g.mono (.refl _) z₁) (hI F cx e st₀ hF) o₀ (es ▸ R₀) fun w₂ st₂ c₂ v₂ s₂ _ l₂ o₂ R₂ p₂ z₂ g=>g.opt fun x hx g=>g.opt fun y' hy' g=>g.qV fun z hz g=>g.opt fun st' e' g =>
   DK R₂ ((pu.mono l₂).fE hx) (p₂.fE hy') hz fun v s' R' pv z=>DH hK o₂ R' (p₀.mono l₂) pv e' fun s'' R'' z'=>aG.done' g (.refl _) R'' (rfl:VF Γ.w c₂ .next .next) (z.trans z'))
theorem z6 {C:bW} (es:List Expr):∀ {st:St}{r:List PV × St},aN C (oR ih cx es st)=.ok r→r.1.length=es.length:=by
 induction es with
 | nil=>intro st r e;exact mO e ▸ rfl
 | cons a r ihr =>
  intro st r' e
  replace e:aN C (gp (bO a) ((ih cx a st).bind fun a=>(oR ih cx r a.2).bind fun q=>.ok (a.1::q.1,q.2)))=.ok r':=e
  cases h:bO a with
  | false=>rw[h]at e;exact nk1 e
  | true=>rw[h]at e;exact vH e fun q _ e=>vH e fun q2 e2 e=>mO e ▸ congrArg (· + 1) (ihr e2)
theorem aG.un {x:Pg (Unit × St)}{Q:Flow→Shared→Prop}{E:Value→Shared→Prop} (g:aG Γ (VF Γ.w) H F (x.bind fun r=>.ok (.next,r.2)) c s Q E):aG Γ VU H F x c s (fun _ s'=>Q .next s') E :=
 have d:=aZ Γ.C x fun r=>.ok (Fl.next,r.2)
 ⟨fun b st' e c' a s' l R v z=>g.ok .next st' (d.trans (by rw[e];rfl)) c' .next s' l R (rfl:VF Γ.w c' .next .next) z,fun e=>g.raise (d.trans (by rw[e];rfl)),fun e=>g.go (d.trans (by rw[e];rfl))⟩
theorem IW {t:Expr} (hs:bO t=true) (env:Env):(assignEach [t] env).map (·.2)=[assign t env]:=by
 rw[d5 (ts:=[t]) (Bool.and_eq_true_iff.mpr ⟨hs,rfl⟩)];rfl
theorem JD (hK:cW Γ.w Γ.K Γ.T) (hI:cD Γ H (E0 Γ.T)) (hF:aV Γ F cx) {ts es:List Expr}{x1 x2:Nat}{p1 p2 p:Pos}:TG Γ (VF Γ.w) H F st ((H6 Γ.T cx ts es st).bind fun r=>.ok (.next,r.2)) (exec (.Assign [.Tuple ts x1 p1] (.Tuple es x2 p2) p) F.env):=by
 intro c s Q E o R g
 rw[exec_Assign_arm]
 refine wpAny_bind (wpAny_standAt ?_)
 rw[show swapsWithSole [.Tuple ts x1 p1] (.Tuple es x2 p2) p.line F.env=pure false from rfl]
 refine wpAny_bind (wpAny_pure ?_)
 rw[if_neg (by decide)]
 have g:=aG.un g
 refine g.gp fun h1 g=>g.gp fun h1b g=>g.gp fun h3 g=>g.gp fun h4 g=>g.gp fun h2 g=>?_
 have hl:=Nat.eq_of_beq_eq_true h1
 refine wpAny_bind (wpAny_Tuple_spliced (aG.bind g (i8 hI hF p2 es st) o R fun ws st₁ c₁ us s₁ e₁ l₁ o₁ R₁ p₁ z₁ g=>?_))
 have lu:us.length=es.length:=p₁.length.trans (z6 es e₁)
 refine⟨by rw[lu];exact Nat.le_trans (Nat.le_of_ble_eq_true h1b) (by decide),?_⟩
 have ht:(s₁.heap.push { cls:=.type "tuple",data:=.seq us.toArray }).IsTuple s₁.heap.objs.size us.toArray:=⟨_,Heap.get?_push_size _ rfl,rfl,_,rfl⟩
 have R₂:=R₁.grows (aY.push s₁.heap { cls:=.type "tuple",data:=.seq us.toArray })
 have fin:∀ h',aG Γ VU H F (rM (pB Γ.T cx 4) ts ws st₁) c₁ { s₁ with heap:=h' } (fun _ s'=>wpAny (model pw Γ.w) F.A (pure Flow.next) Q E s') E:=fun h'=>⟨fun b st' e c' a s' l R v z=>wpAny_pure (g.ok b st' e c' a s' l R v z),g.raise,g.go⟩
 rcases Ab (env:=F.env) (ts:=ts) (x1:=x1) (x2:=x2) (p1:=p1) (p2:=p2) h2 with hs | ⟨ns,hs,hn⟩
 ·rw[hs]
  refine wpAny_bind (wpAny_pure ?_)
  rw[show(assignEach [.Tuple ts x1 p1] F.env).map (·.2)=[assign (.Tuple ts x1 p1) F.env] from rfl]
  show wpAny _ _ (do assign (.Tuple ts x1 p1) F.env (.ref s₁.heap.objs.size);pure .next) Q E _
  exact wpAny_bind (u4 hF h3 ht (hl.trans lu.symm) fun h' gr=>zU hF (sO hK hI 4) ts ws us st₁ c₁ _ _ E o₁ (R₂.grows gr) p₁ (fin h'))
 ·rw[hs]
  refine wpAny_bind (wpAny_pure ?_)
  show wpAny _ _ (do rule "assign.swapped-stores";let items ← unpackItems (.ref s₁.heap.objs.size) ns.length none;assignInOrder (ns.reverse.map fun n=>bindName F.env n) items.reverse;pure .next) Q E _
  have nl:ns.length=us.toArray.size:=(Da hF hn g).2.2.1.trans p₁.length.symm
  rw[nl]
  exact wpAny_bind (wpAny_rule (wpAny_bind (wpAny_unpackItems_tuple hF.handled ht fun h' hx=>wpAny_bind (K2 (k:=3) hF hn h4 o₁ (R₂.grows fun b ob e=>hx b ob (Nat.ne_of_lt (Heap.lt_size e)) e) p₁ (fin h')))))
theorem y7 (hK:cW Γ.w Γ.K Γ.T) (hI:cD Γ H (E0 Γ.T)) (hF:aV Γ F cx) {t e:Expr}{p:Pos} (hc:kP e=false) (ht:swappedStores [t] e F.env=pure none) (hs:bO t=true):TG Γ (VF Γ.w) H F st (((E0 Γ.T cx e st).bind fun r=>pB Γ.T cx 4 t r.1 r.2).bind fun r=>.ok (.next,r.2)) (exec (.Assign [t] e p) F.env):=by
 intro c s Q E o R g
 have g:=aG.un g
 refine wpAny_Assign_stores (aG.bind g (hI F cx e st hF) o R fun w₁ st₁ c₁ v₁ s₁ _ l₁ o₁ R₁ p₁ z₁ g=>?_) (wK hc _ _ _) ht
 rw[IW hs]
 exact sO hK hI 4 F cx t w₁ st₁ v₁ c₁ s₁ _ E hF o₁ R₁ p₁ g
end
theorem lO {e:Value}{env env':Env} (h:env.frame=env'.frame):noteFrame e env=noteFrame e env':=by
 unfold noteFrame PySem.frameOf
 rw[h]
theorem JM {e:Value}{env env':Env} (h:env.frame=env'.frame) : «leaving» env e = «leaving» env' e:=by
 unfold «leaving»
 rw[lO h]
structure pL (base h:Heap) (e:Addr) (cls:Value) (LF:Addr):Prop where
 fresh:base.get? e=none
 stays:base.StaysIn h
 at_:∃ a0,h.TracedAtW base e cls a0 (rawInt LF)
theorem pL.ex {base h:Heap}{e:Addr}{cls:Value}{LF:Addr} (x:pL base h e cls LF):KM base h e cls LF:=by
 obtain⟨a0,oe,vs,T,oT,ts,he,⟨hc,h0⟩,hd,h1,hn,hne,hT,hdT,h3⟩:=x.at_
 exact .here oe vs T oT ts he hc hd h1 hn hne hT hdT h3
section
variable {Γ:Gm}{H:PM}{F:Fr}{cx:Cx}{c:Cf}{s:Shared}{st:St}
theorem Up.upTo {e:Value}{h h':Heap} (u:Up Γ F e h) (k:h.UpToSlots h'):∀ a o,Γ.X.H0 a=some o→(∀ vs,o.data ≠ .fields vs)→∃ sl,h'.get? a=some { o with slots:=sl }:=fun a o q n=>by
 obtain⟨sl,hs⟩:=u.keep a o q n
 obtain⟨D4,hs'⟩:=k a _ hs n
 exact⟨D4,hs'⟩
theorem rH {vs:Array Value}{x:Value} (h:vs[1]? = some x):∃ a0,vs[0]? = some a0:=by
 have:=(Array.getElem?_eq_some_iff.mp h).1
 exact⟨vs[0],by simp⟩
theorem Ev {h base:Heap}{e:Addr}{cls:Value} (t:h.Traced base e cls):∃ a0,h.TracedW base e cls a0:=by
 obtain⟨oe,vs,T,oT,ts,he,hc,hd,h1,hn,hne,hT,hdT,h3⟩:=t
 obtain⟨a0,h0⟩:=rH h1
 exact⟨a0,oe,vs,T,oT,ts,he,⟨hc,h0⟩,hd,h1,hn,hne,hT,hdT,h3⟩
theorem CJ {h base:Heap}{e:Addr}{cls a0:Value} (t:h.TracedW base e cls a0):h.Traced base e cls:=by
 obtain⟨oe,vs,T,oT,ts,he,hc,hd,h1,hn,hne,hT,hdT,h3⟩:=t
 exact⟨oe,vs,T,oT,ts,he,hc.1,hd,h1,hn,hne,hT,hdT,h3⟩
theorem uM {env:Env} (hfr:F.A.frames=some (F.fenv::F.outer)) (hf:env.frame=F.fenv.frame) {e:Value} (u:Up Γ F e s.heap) {Q:Unit→Shared→Prop}{E:Value→Shared→Prop}
  (q:∀ s',Up Γ F e s'.heap→(∀ a LF,e=.ref a→F.fenv.frame=some LF→pL Γ.X.base s'.heap a (.ref Γ.T.fail) LF)→aS s s'→Q () s'):wpAny (model pw Γ.w) F.A (noteFrame e env) Q E s:=by
 rw[lO hf]
 obtain⟨⟨a,LF,rfl,hLF,hb,hx⟩,stays,frames,keep⟩:=id u
 have fin:∀ h' a0,Heap.NotedW Γ.X.base (F.fenv::F.outer) a (.ref Γ.T.fail) a0 (rawInt LF) s.heap h'→Q () { s with heap:=h' }:=fun h' a0 ⟨k1,k2,k3,k4⟩=>by
  have hr:pL Γ.X.base h' a (.ref Γ.T.fail) LF:=⟨hb,k1,a0,k3⟩
  refine q _ ⟨⟨a,LF,rfl,hLF,hb,hr.ex⟩,k1,k2,u.upTo k4⟩ (fun b LF' e1 e2=>?_) ⟨rfl,rfl⟩
  cases e1;rw[hLF]at e2;cases e2;exact hr
 cases hx with
 | new oe vs he hc hd h1 =>
  obtain⟨a0,h0⟩:=rH h1
  unfold noteFrame
  simp only[hLF]
  refine wpAny_bind (wpAny_field he hd h1 ?_)
  rw[if_neg (by decide)]
  exact wpAny_entryW hfr frames hLF he stays hb hd (Array.getElem?_eq_some_iff.mp h1).1 h0 fun h' hN=>fin h' a0 (hc ▸ hN)
 | out tr =>
  obtain⟨a0,tw⟩:=Ev tr
  exact wpAny_noteFrame_onW hfr frames hLF tw stays hb fun h' hN=>fin h' a0 hN
 | here oe vs T' oT ts he hc hd h1 hT hne hoT hdT h3 =>
  obtain⟨a0,h0⟩:=rH h1
  have ta:s.heap.TracedAtW Γ.X.base a (.ref Γ.T.fail) a0 (rawInt LF):=⟨oe,vs,T',oT,ts,he,⟨hc,h0⟩,hd,h1,hT,hne,hoT,hdT,h3⟩
  refine wpAny_noteFrame_againW hLF ta (q s u (fun b LF' e1 e2=>?_) (.refl s))
  cases e1;rw[hLF]at e2;cases e2;exact⟨hb,stays,a0,ta⟩
theorem Fs {F₀:Fr}{env:Env} (hfr:F.A.frames=some (F.fenv::F.outer)) (hf:env.frame=F.fenv.frame) (ho:F.outer=F₀.fenv::F₀.outer) (hL0:∃ L,F₀.fenv.frame=some L) {e:Value} (u:Up Γ F e s.heap) {Q:Unit→Shared→Prop}{E:Value→Shared→Prop}
  (q:∀ s',Up Γ F₀ e s'.heap→aS s s'→Q () s'):wpAny (model pw Γ.w) F.A («leaving» env e) Q E s:=by
 unfold «leaving»
 refine wpAny_bind (uM hfr hf u fun s₁ u₁ hr z₁=>?_)
 obtain⟨⟨a,LF,rfl,hLF,hb,hx⟩,stays,frames,keep⟩:=id u₁
 have hr:=hr a LF rfl hLF
 obtain⟨a0,ta⟩:=hr.at_
 refine wpAny_setFlight_noneW stays frames ta fun h' k1 k2 k3 k4=>?_
 obtain⟨L0,hL0⟩:=hL0
 rw[ho]at k2
 obtain⟨_,_,k2⟩:=k2
 exact q _ ⟨⟨a,L0,rfl,hL0,hb,.out (CJ k3)⟩,k1,k2,u₁.upTo fun b o hb hn=>⟨o.slots,k4 b o hb hn⟩⟩ z₁
theorem Io {env:Env} (hf:env.frame=F.fenv.frame) {e:Value} (u:Up Γ F e s.heap) (hr:∀ a LF,e=.ref a→F.fenv.frame=some LF→pL Γ.X.base s.heap a (.ref Γ.T.fail) LF) {E:Value→Shared→Prop}
  (q:∀ s',Up Γ F e s'.heap→aS s s'→E e s'):cameBackBy (model pw Γ.w) F.A env E e s:=by
 obtain⟨⟨a,LF,rfl,hLF,hb,hx⟩,stays,frames,keep⟩:=id u
 have hr:=hr a LF rfl hLF
 obtain⟨a0,ta⟩:=hr.at_
 obtain⟨oe,vs,T',oT,ts,he,⟨hc,h0⟩,hd,h1,hn,hne,hT,hdT,h3⟩:=id ta
 unfold cameBackBy
 refine wpAny_bind (wpAny_field he hd h1 ?_)
 rw[if_neg (by simp)]
 rw[hf,hLF]
 show wpAny _ _ (setFlight (.ref a) (some LF)) _ _ s
 unfold setFlight
 refine wpAny_bind (wpAny_field he hd h1 ?_)
 rw[if_pos (show(Value.ref T' != Value.none)=true from by simp)]
 have hsz3:3 < ts.size:=(Array.getElem?_eq_some_iff.mp h3).1
 have other:∀ b,b ≠ T'→(s.heap.update T' (Obj.mapFields (·.setIfInBounds 3 ((some LF).elim Value.none fun f=>rawInt f)))).get? b=s.heap.get? b :=
  fun b hb=>Heap.get?_update_other _ _ (Ne.symm hb)
 have noRec:∀ b o,s.heap.get? b=some o→(∀ vs,o.data ≠ .fields vs)→b ≠ T':=fun b o hb hnf q=>by
  rw[q,hT]at hb;injection hb with hb;subst hb;exact hnf ts hdT
 refine wpAny_setField hT hdT hsz3 (q _ ⟨⟨a,LF,rfl,hLF,hb,?_⟩,?_,?_,?_⟩ ⟨rfl,rfl⟩)
 ·exact .here oe vs T' _ _ ((other a (Ne.symm hne)).trans he) hc hd h1 hn hne (Heap.get?_update_self _ hT (Obj.isFreed_of_fields (Obj.data_mapFields hdT _))) (Obj.data_mapFields hdT _) (by simp[hsz3])
 ·exact fun b o hbo=>(other b fun q=>by rw[q,hn]at hbo;cases hbo).trans (stays b o hbo)
 ·exact frames.of_keeps fun b o hb hnf=>⟨o,(other b (noRec b o hb hnf)).trans hb,rfl⟩
 ·exact u.upTo fun b o hb hnf=>⟨o.slots,(other b (noRec b o hb hnf)).trans hb⟩
theorem BM {env:Env} (hfr:F.A.frames=some (F.fenv::F.outer)) (hf:env.frame=F.fenv.frame) {s₀:Shared}{Q:Flow→Shared→Prop}{E:Value→Shared→Prop}{e:Value} (u:Up Γ F e s.heap) (z:aS s₀ s) (q:∀ s',Up Γ F e s'.heap→aS s₀ s'→E e s') :
  notedBy (model pw Γ.w) F.A env (fun e s'=>(fun (r:Result) s'=>match r with | .ok f=>Q f s' | .error e=>cameBackBy (model pw Γ.w) F.A env E e s') (.error e) s') e s :=
 uM hfr hf u fun s' u' hr z'=>Io hf u' hr fun s'' u'' z''=>q s'' u'' (z.trans (z'.trans z''))
theorem Dx {xh:Cx→Stmt→St→Pg (Fl × St)} (hI:cD Γ H (E0 Γ.T)) (hX:yB Γ H xh) (hF:aV Γ F cx) {t:Expr}{b:List Stmt}{p:Pos}:TG Γ (VF Γ.w) H F st (jQ (gC Γ.T cx t) (dS xh cx b) cx.m st) (exec (.While t b [] p) F.env):=by
 intro c s Q E o R g
 refine wpAny_While (codeAny_whileLoop (fun n s'=>∃ c' st',c.le c'∧Ok Γ H F c'∧aC Γ.w H F.env c' st' s'.heap∧aS s s'∧aG Γ (VF Γ.w) H F (jQ (gC Γ.T cx t) (dS xh cx b) n st') c' s' Q E) (fun n s' hh=>?_) cx.m ⟨c,st,.refl c,o,R,.refl s,g⟩)
 obtain⟨c',st',l,o',R',z,g⟩:=hh
 cases n with
 | zero=>exact g.stuck
 | succ n =>
  have gN:∀ {α β:Type}{V:Cf→α→β→Prop}{x:Pg (β × St)}{c₂:Cf}{s₂:Shared}{Q₂:α→Shared→Prop},aS s s₂→aG Γ V H F x c₂ s₂ Q₂ E→aG Γ V H F x c₂ s₂ Q₂ fun e s₃=>notedBy (model pw Γ.w) F.A F.env (fun e s'=>(fun (r:Result) s'=>match r with | .ok f=>Q f s' | .error e=>cameBackBy (model pw Γ.w) F.A F.env E e s') (.error e) s') e s₃ :=
   fun z g=>⟨g.ok,fun hr e s₃ u z'=>BM (Q:=Q) hF.frames hF.frame u z' fun s' u' z''=>g.raise hr e s' u' z'',g.go⟩
  have g:aG Γ (VF Γ.w) H F ((gC Γ.T cx t st').bind fun t₁=>bif t₁.1 then (dS xh cx b t₁.2).bind fun r=>match r.1 with
    | .next=>jQ (gC Γ.T cx t) (dS xh cx b) n r.2
    | .cont=>jQ (gC Γ.T cx t) (dS xh cx b) n r.2
    | .brk=>.ok (.next,r.2)
    | .ret w=>.ok (.ret w,r.2)
   else .ok (.next,t₁.2)) c' s' Q E:=g
  refine aG.bind (gN z g) (vY hI hF 6 t st') o' R' fun b₁ st₁ c₁ v₁ s₁ e₁ l₁ o₁ R₁ p₁ z₁ _=>?_
  have g:=g.step e₁ l₁ z₁
  obtain rfl:v₁=b₁:=p₁
  have zz:=z.trans z₁
  cases v₁ with
  | false=>exact wpAny_execs_nil (g.done R₁ (rfl:VF Γ.w c₁ .next .next))
  | true =>
   refine aG.bind (gN zz g) (mV hX hF b st₁) o₁ R₁ fun f st₂ c₂ v₂ s₂ e₂ l₂ o₂ R₂ p₂ z₂ _=>?_
   have g:=g.step e₂ l₂ z₂
   have zz:=zz.trans z₂
   have ll:=(l.trans l₁).trans l₂
   cases f with
   | next=>rw[show v₂=.next from p₂];exact⟨n,Nat.lt_succ_self n,c₂,st₂,ll,o₂,R₂,zz,g⟩
   | cont=>rw[show v₂=.cont from p₂];exact⟨n,Nat.lt_succ_self n,c₂,st₂,ll,o₂,R₂,zz,g⟩
   | brk=>rw[show v₂=.brk from p₂];exact g.done R₂ (rfl:VF Γ.w c₂ .next .next)
   | ret=>obtain⟨v,rfl,p⟩:=p₂;exact g.done R₂ ⟨v,rfl,p⟩
end
end Mine
end
section
namespace Mine
noncomputable def PM.mix (H P:PM):PM:=fun a=>(P a).or (H a)
noncomputable def PM.one (I:Addr) (o:Obj):PM:=iN (fun _=>none) I (some o)
theorem PM.oneE {I a:Addr}{o o':Obj}{P:Prop} (h:PM.one I o a=some o') (k:a=I→o=o'→P):P:=jS h (fun z e=>k z (Option.some.inj e)) fun _ e=>nk3 e
noncomputable def PM.apart (H P:PM):Prop:=∀ a o,P a=some o→H a=none
theorem PM.mix_l {H P:PM} (d:PM.apart H P) {a:Addr}{o:Obj} (h:H a=some o):PM.mix H P a=some o:=by
 unfold PM.mix
 cases q:P a with
 | none=>exact h
 | some o'=>exact nk3 ((d a o' q).symm.trans h)
theorem PM.mix_r {H P:PM}{a:Addr}{o:Obj} (h:P a=some o):PM.mix H P a=some o:=by unfold PM.mix;rw[h];rfl
theorem PM.mixE {H P:PM}{a:Addr}{x:Option Obj}{C:Prop} (h:PM.mix H P a=x) (h1:∀ o,P a=some o→some o=x→C) (h2:P a=none→H a=x→C):C:=by
 unfold PM.mix at h
 cases q:P a with
 | none=>rw[q]at h;exact h2 q h
 | some o'=>rw[q]at h;exact h1 o' q h
theorem PM.mixN {H P:PM}{a:Addr} (h:PM.mix H P a=none):P a=none∧H a=none:=PM.mixE h (fun _ _ e=>nk4 e) fun e e'=>⟨e,e'⟩
theorem PM.mixN' {H P:PM}{a:Addr} (h:∀ o,P a=some o→False) (h':H a=none):PM.mix H P a=none:=by
 unfold PM.mix
 cases q:P a with
 | none=>exact h'
 | some o'=>exact(h o' q).elim
theorem nT.to {w:World}{H H':PM}{c:Cf}{cc:List (Str × PV)}{x:Str}{a:Addr} (f:∀ o,H a=some o→H' a=some o) (h:nT w H c cc x a):nT w H' c cc x a:=h.imp id fun q=>⟨q.1,q.2.imp fun o q=>⟨f o q.1,q.2⟩⟩
section
variable {Γ:Gm}{w:World}{H P:PM}{F:Fr}{c c':Cf}{s:Shared}{st:St}{env:Env}{h h':Heap}
theorem aC.hide (R:aC w H env c st h) (d:PM.apart H P) (hp:∀ a o,P a=some o→h.get? a=some o∧c.B a=none∧c.ow a=none):aC w (PM.mix H P) env c st h where
 b:=R.b
 bh a o e:=PM.mixN' (fun o' q=>nk3 ((hp a o' q).2.1.symm.trans e)) (R.bh a o e)
 hh a o e:=PM.mixE e (fun o' q e=>.inl (Option.some.inj e ▸ (hp a o' q).1)) fun _ e=>R.hh a o e
 fsH a e:=(Option.isSome_iff_exists.mp (R.fsH a e)).elim fun o q=>Option.isSome_iff_exists.mpr ⟨o,PM.mix_l d q⟩
 own a t e:=⟨R.owB e,PM.mixN' (fun o' q=>nk3 ((hp a o' q).2.2.symm.trans e)) (R.owH e),R.owG e⟩
 ix:=⟨R.ix.loc,fun x a e=>(R.ix.cel x a e).to fun o=>PM.mix_l d,R.ix.celd,R.ix.gl,R.ix.g,R.ix.ll,R.ix.l,R.ix.nol⟩
theorem aC.unhide (d:PM.apart H P) (hce:∀ x a,env.cells.lookup x=some a→P a=none) (hfs:∀ a,a ∈ c.fs→P a=none) (R:aC w (PM.mix H P) env c st h):aC w H env c st h∧∀ a o,P a=some o→oJ c.fs h a o∧c.B a=none∧c.ow a=none:=by
 have un:∀ {a:Addr}{o:Obj},P a=none→PM.mix H P a=some o→H a=some o:=fun q e=>PM.mixE e (fun _ z=>nk3 (q.symm.trans z)) fun _ e=>e
 refine⟨⟨R.b,fun a o e=>(PM.mixN (R.bh a o e)).2,fun a o e=>R.hh a o (PM.mix_l d e),fun a e=>(Option.isSome_iff_exists.mp (R.fsH a e)).elim fun o q=>Option.isSome_iff_exists.mpr ⟨o,un (hfs a e) q⟩,fun a t e=>⟨R.owB e,(PM.mixN (R.owH e)).2,R.owG e⟩,
  R.ix.loc,fun x a e=>(R.ix.cel x a e).to fun o=>un (hce x a e),R.ix.celd,R.ix.gl,R.ix.g,R.ix.ll,R.ix.l,R.ix.nol⟩,fun a o e=>⟨R.hh a o (PM.mix_r e),?_,?_⟩⟩
 ·cases q:c.B a with
  | none=>rfl
  | some o'=>exact nk3 ((PM.mixN (R.bh a o' q)).1.symm.trans e)
 ·cases q:c.ow a with
  | none=>rfl
  | some t=>exact nk3 ((PM.mixN (R.owH q)).1.symm.trans e)
theorem Ok.hide (d:PM.apart H P) (o:Ok Γ H F c):Ok Γ (PM.mix H P) F c :=
 ⟨o.ro,o.k,fun a ob e=>(o.base a ob e).imp id fun q=>⟨PM.mix_l d q.1,q.2⟩,fun a ob e=>PM.mix_l d (o.h0 a ob e),
  fun e he=>⟨(o.outer e he).1,(o.outer e he).2.imp fun L q=>q.imp fun ob q=>⟨q.1,q.2.1,PM.mix_l d q.2.2.1,q.2.2.2⟩⟩,o.fkind,
  o.fframe.imp fun L q=>⟨q.1,q.2.1,q.2.2.imp id fun q=>q.imp fun ob q=>⟨PM.mix_l d q.1,q.2⟩⟩,fun a e=>(o.fsD a e).imp fun ob q=>⟨PM.mix_l d q.1,q.2⟩⟩
theorem aC.but (R:aC w H env c st h) {I:Addr} (hs:∀ b o,b ≠ I→h.get? b=some o→h'.get? b=some o) (hB:c.B I=none) (hH:H I=none) (hw:c.ow I=none):aC w H env c st h' where
 b a o e:=hs a o (fun z=>nk3 (hB.symm.trans (z ▸ e))) (R.b a o e)
 bh:=R.bh
 hh a o e:=have k:=hs a;have n:a ≠ I:=fun z=>nk3 (hH.symm.trans (z ▸ e));(R.hh a o e).imp (k _ n) fun q=>⟨q.1,q.2.imp fun _=>k _ n⟩
 fsH:=R.fsH
 own a t e:=⟨R.owB e,R.owH e,(R.owG e).imp fun o q=>⟨hs a o (fun z=>nk3 (hw.symm.trans (z ▸ e))) q.1,q.2⟩⟩
 ix:=R.ix
structure lV (w:World) (A:Around) (FT:Addr→Prop) (c:Cf) (I:Addr) (xs:List FV) (St:Nat→Heap→Prop) (Pv:Nat→Value→Prop) (fp:List Addr):Prop where
 walks:Walks pw w A I fp [I] xs.length Pv St
 obj:∀ i h,St i h→∃ o,h.get? I=some o
 foot:∀ b ∈ fp,b=I∨(∃ o,c.B b=some o)∨FT b
 val:∀ i v,i < xs.length→Pv i v→∃ x,xs[i]? = some x∧aO w c.B v x
noncomputable def pQ (w:World) (A:Around) (FT:Addr→Prop) (H:PM) (env:Env) (c:Cf) (st:St) (s:Shared) (xs:List FV) (Q:Value→Shared→Prop):Prop :=
 ∀ I s' St Pv fp,lV w A FT c I xs St Pv fp→St 0 s'.heap→c.B I=none→H I=none→c.ow I=none→aC w H env c st s'.heap→aS s s'→Q (.ref I) s'
section
variable {A:Around}{FT:Addr→Prop}{Q:Value→Shared→Prop}{E:Value→Shared→Prop}{xs:List FV}
theorem zJ {I a:Addr}{us:List Value}{St:Nat→Heap→Prop} (W:Walks pw w A I [I,a] [I] us.toArray.size (fun i v=>us.toArray[i]? = some v) St) (ho:∀ i h,St i h→∃ o,h.get? I=some o) (r:aQ w c.B us xs) (hf:(∃ o,c.B a=some o)∨FT a):lV w A FT c I xs St (fun i v=>us.toArray[i]? = some v) [I,a]:=by
 refine⟨by rw[List.size_toArray,r.length]at W;exact W,ho,fun b hb=>(List.mem_cons.mp hb).imp id fun q=>by rw[List.mem_singleton.mp q];exact hf,fun i v l e=>?_⟩
 obtain⟨v',e2,f⟩:=r.get (n:=i) (x:=xs[i]) (List.getElem?_eq_getElem l)
 rw[List.getElem?_toArray]at e
 exact⟨_,List.getElem?_eq_getElem l,Option.some.inj (e.symm.trans e2) ▸ f⟩
theorem u7 (hh:A.handled=none) (R:aC w H env c st s.heap) {a n:Nat}{us:List Value} (h:s.heap.get? a=some (PySem.W.listOf us.toArray n)) (r:aQ w c.B us xs) (hf:(∃ o,c.B a=some o)∨FT a) (q:pQ w A FT H env c st s xs Q):wpAny (model pw w) A (pyIter (.ref a)) Q E s :=
 have nn:=R.none_of_size
 wpAny_pyIter_list ⟨_,h,rfl,_,rfl⟩ (q _ _ (fun i h=>h.IsListIter s.heap.objs.size a i∧h.IsList a us.toArray) _ _ (zJ (Walks.list hh s.heap.objs.size a (Nat.ne_of_lt (Heap.lt_size h)) us.toArray) (fun i h st=>st.1.imp fun o q=>q.1) r hf) ⟨⟨_,Heap.get?_push_size _ rfl,rfl,rfl⟩,⟨_,aY.push _ _ _ _ h,rfl,_,rfl⟩⟩ nn.1 nn.2.1 nn.2.2 (R.grows (aY.push _ _)) ⟨rfl,rfl⟩)
theorem Lh (hh:A.handled=none) (R:aC w H env c st s.heap) {v:Value}{x:FV} (p:aO w c.B v x) (e:DF x=some xs) (q:pQ w A FT H env c st s xs Q):wpAny (model pw w) A (pyIter v) Q E s:=by
 have nn:=R.none_of_size
 refine fC e (fun ys hx e=>?_) fun _ e=>fC e (fun ys hx e=>?_) fun _ e=>ob e fun y hy e=>?_
 ·exact p.lE hx fun a n us hb r=>u7 hh R (R.b _ _ hb) (Option.some.inj e ▸ r) (.inl ⟨_,hb⟩) q
 ·refine p.tE hx fun a n us hb r=>?_
  have hb':=R.b _ _ hb
  exact wpAny_pyIter_tuple ⟨_,hb',rfl,_,rfl⟩ (q _ _ (fun i h=>h.IsTupleIter s.heap.objs.size a i∧h.IsTuple a us.toArray) _ _ (zJ (Walks.tuple hh s.heap.objs.size a (Nat.ne_of_lt (Heap.lt_size hb')) us.toArray) (fun i h st=>st.1.imp fun o q=>q.1) (Option.some.inj e ▸ r) (.inl ⟨_,hb⟩)) ⟨⟨_,Heap.get?_push_size _ rfl,rfl,rfl⟩,⟨_,aY.push _ _ _ _ hb',rfl,_,rfl⟩⟩ nn.1 nn.2.1 nn.2.2 (R.grows (aY.push _ _)) ⟨rfl,rfl⟩)
 ·rw[← Option.some.inj e]at q
  refine p.sE hy fun t=>?_
  have go:∀ {I:Addr}{St:Nat→Heap→Prop},Walks pw w A I [I] [I] (⟨y.toArray⟩:Str).cps.size (SignAt ⟨y.toArray⟩) St→(∀ i h,St i h→∃ o,h.get? I=some o)→lV w A FT c I (y.map fun c=>FV.str [c]) St (SignAt ⟨y.toArray⟩) [I]:=fun W ho =>
   ⟨by rw[List.length_map];rw[List.size_toArray]at W;exact W,ho,fun b hb=>.inl (List.mem_singleton.mp hb),fun i v _ ⟨ch,u,h1,h2⟩=>by
    rw[h2]
    rw[List.getElem?_toArray]at h1
    exact⟨.str [ch],by rw[List.getElem?_map,h1];rfl,.str [ch] u⟩⟩
  cases ha:(⟨y.toArray⟩:Str).cps.all (· < 128)
  ·exact wpAny_pyIter_wide ha (q _ _ _ _ _ (go (Walks.strWide hh _ _ t) fun i h q=>q.imp fun o q=>q.1) ⟨_,Heap.get?_push_size _ rfl,rfl,rfl⟩ nn.1 nn.2.1 nn.2.2 (R.grows (aY.push _ _)) ⟨rfl,rfl⟩)
  ·exact wpAny_pyIter_ascii ha (q _ _ _ _ _ (go (Walks.strAscii hh _ _ t) fun i h q=>q.imp fun o q=>q.1) ⟨_,Heap.get?_push_size _ rfl,rfl,rfl⟩ nn.1 nn.2.1 nn.2.2 (R.grows (aY.push _ _)) ⟨rfl,rfl⟩)
end
end
end Mine
end
section
namespace Mine
theorem d4 {e:Expr}{n:Str} (h:gG e=some n):∃ p,e=.Name n p:=by
 cases e with
 | Name m p=>exact⟨p,by rw[Option.some.inj h]⟩
 | _=>exact nk3 h
theorem rR {e:Expr}{q:Expr × List Expr × List Keyword × Pos} (h:xC e=some q):e=.Call q.1 q.2.1 q.2.2.1 q.2.2.2:=by
 cases e with
 | Call=>rw[← Option.some.inj h]
 | _=>exact nk3 h
section
variable {Γ:Gm}{H:PM}{F:Fr}{cx:Cx}{c:Cf}{s:Shared}{st:St}{Q:Value→Shared→Prop}{E:Value→Shared→Prop}{ih:Cx→Expr→St→Pg (PV × St)}{xs:List FV}
theorem lR {A:Around}{env:Env}{n:Str}{p pos:Pos}{args:List Expr}
  (h:wpAny (model pw Γ.w) A (eval (.Name n p) env) (fun f s₁=>wpAny (model pw Γ.w) A (callWith pos f [] (backTo pos (starEach args env)) []) Q E s₁) E s):wpAny (model pw Γ.w) A (eval (.Call (.Name n p) args [] pos) env) Q E s:=by
 rw[arm_eval_Call_Name']
 exact wpAny_bind h
theorem sK {A:Around}{FT:Addr→Prop} (hh:A.handled=none) (R:aC Γ.w H F.env c st s.heap) {r:Addr}{i j:Int}{t u v:Tok} (hr:IsRange s.heap r i j 1 t u v) (hk:xY i j=some xs) (q:pQ Γ.w A FT H F.env c st s xs Q):wpAny (model pw Γ.w) A (pyIter (.ref r)) Q E s :=
 aD hk fun hk e=>by
  rw[← Option.some.inj e]at q
  obtain⟨hk,k4⟩:=Bool.and_eq_true_iff.mp hk
  obtain⟨hk,k3⟩:=Bool.and_eq_true_iff.mp hk
  obtain⟨k1,k2⟩:=Bool.and_eq_true_iff.mp hk
  have k1:=of_decide_eq_true k1
  have k2:=of_decide_eq_true k2
  have k3:=of_decide_eq_true k3
  have k4:=of_decide_eq_true k4
  have nn:=R.none_of_size
  have W:=Walks.range (prog:=pw) (w:=Γ.w) hh s.heap.objs.size i 1 (j - i).toNat
  have e:Builtin.Range.rangeSize i j 1=((j - i).toNat:Int):=by
   rw[rangeSize_one]
   split<;>omega
  have ln:(DU i j).length=(j - i).toNat:=(List.length_map _).trans List.length_range
  rw[← ln]at W
  refine wpAny_pyIter_range hr (small_one (by omega) (by omega) (by omega) (by omega)) (q _ _ _ _ _ ⟨W,fun k h st=>⟨_,st⟩,fun b hb=>.inl (List.mem_singleton.mp hb),fun k v lt q=>?_⟩ ?_ nn.1 nn.2.1 nn.2.2 (R.grows (aY.push _ _)) ⟨rfl,rfl⟩)
  ·obtain⟨t,e⟩:=q
   rw[e,Int.mul_one]
   rw[ln]at lt
   exact⟨.int (i + (k:Int)),by show((List.range _).map _)[k]? = _;rw[List.getElem?_map,List.getElem?_range lt];rfl,.int _ t⟩
  ·rw[e,ln]
   have:=Heap.get?_push_size s.heap (o:={ cls:=.type "range_iterator",data:=.fields #[rawInt i,rawInt ((j - i).toNat:Int),rawInt 1] }) rfl
   rw[show((0:Nat):Int) * 1=0 from rfl,Int.add_zero]
   exact this
noncomputable def Aa (fz:Bool) (c:Cf) (b:Addr):Prop:=fz=false∧∃ k,c.ow b=some (.l k)
theorem Jg (hh:F.A.handled=none) {fz:Bool} (R:aC Γ.w H F.env c st s.heap) {v:Value}{x:PV} (p:aH Γ.w c v x) (e:w1 fz x st=some xs) (q:pQ Γ.w F.A (Aa fz c) H F.env c st s xs Q):wpAny (model pw Γ.w) F.A (pyIter v) Q E s:=by
 cases x with
 | f x=>exact Lh hh R p.fI e q
 | ref k=>exact nk3 e
 | loc k=>cases fz with
  | true=>exact nk3 e
  | false =>
   revert q
   exact R.lE p rfl e fun a us m _ h2 h3 r q=>u7 hh R h3 r (.inr ⟨rfl,k,h2⟩) q
theorem pO {e:Expr} (h:bO e=true) (env:Env) (x:Value):foldedSetIterable e env x=pure x:=by
 cases e<;>first | rfl | exact nk6 h
theorem vL {e:Expr}{args:List Expr} (h:qQ Γ.T cx e st=some args):∃ n p pos,e=.Call (.Name n p) args [] pos∧args.all bO=true∧gR Γ.T cx n st=some (.f (.typ .range)) :=
 ob h fun q hq h=>ob h fun w hw h=>aD h fun hr h=>ob hq fun z hz hq=>ob hq fun n hn hq=>aD hq fun h1 hq=>aD hq fun h2 hq=>by
  obtain⟨p,hp⟩:=d4 hn
  refine⟨n,p,z.2.2.2,?_,?_,?_⟩
  ·rw[rR hz,hp,bN h1,← Option.some.inj h,← Option.some.inj hq]
  ·rw[← Option.some.inj h,← Option.some.inj hq];exact h2
  ·rw[← Option.some.inj hq]at hw
   refine hw.trans ?_
   revert hr
   refine qM (P:=fun b=>b=true→_) (fun t ht hr=>?_) fun _=>nk6
   cases t with
   | range=>exact fK ht fun y h1 h2=>by rw[h1,pJ h2]
   | _=>exact nk6 hr
noncomputable def TI (Γ:Gm) (H:PM) (F:Fr) (fz:Bool) (st:St) (x:Pg (List FV × St)) (e:Expr):Prop :=
 ∀ {α β:Type}{V:Cf→α→β→Prop}{k:List FV × St→Pg (β × St)}{Q₀:α→Shared→Prop}{Q:Value→Shared→Prop}{E:Value→Shared→Prop}{c:Cf}{s:Shared},Ok Γ H F c→aC Γ.w H F.env c st s.heap→aG Γ V H F (x.bind k) c s Q₀ E →
  (∀ xs st' c' s₁,aN Γ.C x=.ok (xs,st')→c.le c'→Ok Γ H F c'→aS s s₁→aG Γ V H F (k (xs,st')) c' s₁ Q₀ E→pQ Γ.w F.A (Aa fz c') H F.env c' st' s₁ xs Q) →
  bO e=true∧wpAny (model pw Γ.w) F.A (eval e F.env) (fun x s₁=>wpAny (model pw Γ.w) F.A (pyIter x) Q E s₁) E s
theorem jX {α β γ:Type} (x:Pg α) (f:α→Pg β) (g:β→Pg γ):(x.bind f).bind g=x.bind fun a=>(f a).bind g:=by
 induction x with
 | ask c m q k ih=>exact congrArg (Pg.ask c m q) (funext ih)
 | _=>rfl
theorem aG.optB {α β δ ε:Type}{V:Cf→α→β→Prop}{Q:α→Shared→Prop}{y:Option ε}{f:ε→Pg (δ × St)}{k:δ × St→Pg (β × St)}{P:Prop} (g:aG Γ V H F ((Mine.opt y f).bind k) c s Q E) (n:∀ a,y=some a→aG Γ V H F ((f a).bind k) c s Q E→P):P:=by
 cases y with
 | none=>exact g.stuck
 | some a=>exact n a rfl g
theorem AE {α β γ:Type}{C:bW}{x:Pg (α × St)}{a:α}{st:St}{f:α × St→Option β}{k:α × St→β→Pg γ}{y:β} (e:aN C x=.ok (a,st)) (h:f (a,st)=some y):aN C (x.bind fun a=>opt (f a) (k a))=aN C (k (a,st) y):=by
 rw[aZ,e]
 show aN C (opt (f (a,st)) _)=_
 rw[h];rfl
theorem pQ.same {A:Around}{FT:Addr→Prop}{env:Env}{s s':Shared} (q:pQ Γ.w A FT H env c st s xs Q) (z:aS s s'):pQ Γ.w A FT H env c st s' xs Q:=fun I s' St Pv fp i1 i2 i3 i4 i5 i6 i7=>q I s' St Pv fp i1 i2 i3 i4 i5 i6 (z.trans i7)
theorem uA (hK:cW Γ.w Γ.K Γ.T) (hI:cD Γ H ih) (hF:aV Γ F cx) {fz:Bool}{e:Expr}:TI Γ H F fz st (jB Γ.T ih fz cx e st) e:=by
 refine qM (P:=fun x=>TI Γ H F fz st x e) (fun args hr {_ _ _ k Q₀ Q E c s} o R g n=>?_) fun _ {_ _ _ k Q₀ Q E c s} o R g n=>?_
 ·obtain⟨m,p,pos,rfl,ha,hl⟩:=vL hr
  refine⟨rfl,lR ?_⟩
  refine pM hK hF o R hl fun v fv=>?_
  rw[show v=.type "range" from fv]
  rw[jX]at g
  refine bM (Γ:=Γ) (P:=fun _=>True) ha (lK (Γ:=Γ) "range") (aG.bind g (i8 hI hF pos args st) o R fun ws st₂ c₂ vs s₂ e₂ l₂ o₂ R₂ p₂ z₂ g=>⟨trivial,aG.optB g fun xs hx g=>?_⟩)
  have q:=n xs st₂ c₂ s₂ (AE e₂ hx) l₂ o₂ z₂ g
  refine fC hx (fun u hu hx=>ob hx fun j hj hx=>?_) fun _ hx=>ob hx fun u hu hx=>ob hx fun i hi hx=>ob hx fun j hj hx=>?_
  ·refine p₂.oneE hu fun v p=>p.iE hj fun t=>call_range_1 ?_
   exact sK hF.handled (R₂.grows (aY.push s₂.heap _)) (IsRange.new _ _ _ _ _ _ _) hx (q.same ⟨rfl,rfl⟩)
  ·refine p₂.twoE hu fun v v' p p'=>p.iE hi fun t=>p'.iE hj fun t'=>call_range_2 ?_
   exact sK hF.handled (R₂.grows (aY.push s₂.heap _)) (IsRange.new _ _ _ _ _ _ _) hx (q.same ⟨rfl,rfl⟩)
 ·cases hp:bO e with
  | false=>rw[hp]at g;exact g.stuck
  | true =>
   rw[hp]at g
   refine⟨rfl,?_⟩
   replace g:aG _ _ _ _ (((ih cx e st).bind fun a=>opt (w1 fz a.1 a.2) fun vs=>.ok (vs,a.2)).bind k) _ _ _ _:=g
   rw[jX]at g
   exact aG.bind g (hI F cx e st hF) o R fun w₁ st₁ c₁ v₁ s₁ e₁ l₁ o₁ R₁ p₁ z₁ g=>aG.optB g fun xs hx g=>Jg hF.handled R₁ p₁ hx (n _ _ c₁ s₁ (hp.symm ▸ AE e₁ hx) l₁ o₁ z₁ g)
end
end Mine
end
section
namespace Mine
theorem dK {α β:Type}{a a':α}{b b':β}{P:Prop} (e:(a,b)=(a',b')) (k:a=a'→b=b'→P):P:=k (congrArg Prod.fst e) (congrArg Prod.snd e)
theorem yD {α:Type}{C:bW}{x:Pg α}{a:α} (h:aN C (fG x)=.ok a):aN C x=.ok a:=by
 induction x with
 | stuck=>exact h
 | raise=>exact nk1 h
 | ok=>exact h
 | ask c m q k ih =>
  replace h:(calm (q.run C)).bind (fun r=>aN C (fG (k r)))=.ok a:=h
  show(lD c (q.run C)).bind (fun r=>aN C (k r))=.ok a
  cases e:q.run C with
  | stuck=>rw[e]at h;exact nk1 h
  | raise=>rw[e]at h;exact nk1 h
  | ok r=>rw[e]at h;cases c<;>exact ih r h
theorem qN {α:Type}{C:bW}{x:Pg α} (h:aN C (fG x)=.raise):False:=by
 induction x with
 | stuck=>cases h
 | raise=>cases h
 | ok=>cases h
 | ask c m q k ih =>
  replace h:(calm (q.run C)).bind (fun r=>aN C (fG (k r)))=.raise:=h
  cases e:q.run C with
  | stuck=>rw[e]at h;cases h
  | raise=>rw[e]at h;cases h
  | ok r=>rw[e]at h;exact ih r h
section
variable {Γ:Gm}{H:PM}{F:Fr}{cx:Cx}{c:Cf}{s:Shared}{st:St}{xh:Cx→Stmt→St→Pg (Fl × St)}
theorem aG.calm {α β:Type}{V:Cf→α→β→Prop}{Q:α→Shared→Prop}{E:Value→Shared→Prop}{x:Pg (β × St)}{P:Prop} (g:aG Γ V H F (fG x) c s Q E) (k:∀ b st',aN Γ.C x=.ok (b,st')→(∀ c' a s',c.le c'→aC Γ.w H F.env c' st' s'.heap→V c' a b→aS s s'→Q a s')→P):P:=by
 cases h:aN Γ.C (fG x) with
 | stuck=>exact absurd h g.go
 | raise=>exact(qN h).elim
 | ok r=>exact k r.1 r.2 (yD h) (g.ok r.1 r.2 h)
theorem TG.ok {α β:Type}{V:Cf→α→β→Prop}{t:Sem α}{x:Pg (β × St)}{b:β}{st':St} (g:TG Γ V H F st x t) (e:aN Γ.C x=.ok (b,st')) (o:Ok Γ H F c) (R:aC Γ.w H F.env c st s.heap) {Q:α→Shared→Prop}{E:Value→Shared→Prop}
  (q:∀ c' a s',c.le c'→Ok Γ H F c'→aC Γ.w H F.env c' st' s'.heap→V c' a b→aS s s'→Q a s'):wpAny (model pw Γ.w) F.A t Q E s :=
 g c s Q E o R ⟨fun b' st'' e' c' a s' l R' v z=>dK (mO (e.symm.trans e')) fun e1 e2=>q c' a s' l (o.mono _ l) (e2 ▸ R') (e1 ▸ v) z,fun e'=>nk2 (e'.symm.trans e),fun e'=>nk1 (e'.symm.trans e)⟩
theorem aC.noFs {w:World}{env:Env}{h:Heap} (R:aC w H env c st h) {I:Addr} (hH:H I=none):I ∉ c.fs:=fun z=>by have:=R.fsH I z;rw[hH]at this;exact nk6 this
theorem aC.noCel {w:World}{env:Env}{h:Heap} (R:aC w H env c st h) {I a:Addr}{x:Str} (hH:H I=none) (hw:c.ow I=none) (e:env.cells.lookup x=some a):a ≠ I:=fun z=>(R.ix.cel x a e).elim (fun y=>nk3 (hw.symm.trans (z ▸ y))) fun y=>y.2.elim fun o y=>nk3 (hH.symm.trans (z ▸ y.1))
theorem aC.hideO {w:World}{env:Env}{h:Heap} (R:aC w H env c st h) {D:Addr}{ob:Obj} (e:h.get? D=some ob) (hB:c.B D=none) (hH:H D=none) (hw:c.ow D=none) :
  PM.apart H (PM.one D ob)∧aC w (PM.mix H (PM.one D ob)) env c st h ∧
   ∀ {c':Cf}{st':St}{h':Heap},c.le c'→aC w (PM.mix H (PM.one D ob)) env c' st' h'→aC w H env c' st' h'∧h'.get? D=some ob∧c'.B D=none∧c'.ow D=none:=by
 have dj:PM.apart H (PM.one D ob):=fun a o z=>PM.oneE z fun z _=>z ▸ hH
 refine⟨dj,R.hide dj fun a o z=>PM.oneE z fun z z'=>z ▸ z' ▸ ⟨e,hB,hw⟩,fun {c' st' h'} l R'=>?_⟩
 have nI:=R.noFs hH
 obtain⟨R'',q⟩:=R'.unhide dj (fun x a ea=>eZ (R.noCel hH hw ea)) fun a ha=>eZ fun z=>nI (l.fs ▸ z ▸ ha)
 obtain⟨q1,q2,q3⟩:=q D ob gS
 exact⟨R'',q1.is (l.fs ▸ nI),q2,q3⟩
noncomputable def u9 (H:PM) (c:Cf) (b:Addr):Prop:=∃ o,H b=some o∧b ∉ c.fs
section
variable {w:World}{A:Around}{I:Addr}{xs:List FV}{Stt:Nat→Heap→Prop}{Pv:Nat→Value→Prop}{fp:List Addr}{env:Env}{h:Heap}
theorem lV.hideH (it:lV w A (u9 H c) c I xs Stt Pv fp) {k:Nat} (hs:Stt k h) (R:aC w H env c st h) (hB:c.B I=none) (hH:H I=none) (hw:c.ow I=none) :
  ∃ ob,PM.apart H (PM.one I ob)∧aC w (PM.mix H (PM.one I ob)) env c st h ∧
   ∀ {c':Cf}{st':St}{h':Heap},c.le c'→aC w (PM.mix H (PM.one I ob)) env c' st' h'→aC w H env c' st' h'∧Stt k h'∧c'.B I=none∧c'.ow I=none:=by
 obtain⟨ob,e⟩:=it.obj k h hs
 obtain⟨dj,R1,back⟩:=R.hideO e hB hH hw
 refine⟨ob,dj,R1,fun {c' st' h'} l R'=>?_⟩
 obtain⟨R2,eI,q2,q3⟩:=back l R'
 refine⟨R2,it.walks.frame k h h' hs fun b hb o eb=>?_,q2,q3⟩
 rcases it.foot b hb with z | z | z
 ·rw[z]at eb ⊢;rw[← Option.some.inj (e.symm.trans eb)];exact eI
 ·obtain⟨o',e'⟩:=z
  rw[Option.some.inj (eb.symm.trans (R.b _ _ e'))];exact R'.b _ _ (l.b _ _ e')
 ·obtain⟨o',e',nf⟩:=z
  rw[Option.some.inj (eb.symm.trans ((R.hh b o' e').is nf))];exact(R2.hh b o' e').is (l.fs ▸ nf)
theorem lV.monoH {c':Cf} (i:lV w A (u9 H c) c I xs Stt Pv fp) (l:c.le c'):lV w A (u9 H c') c' I xs Stt Pv fp :=
 ⟨i.walks,i.obj,fun b hb=>(i.foot b hb).imp id fun q=>q.imp (fun q=>q.imp fun o e=>l.b _ _ e) fun q=>q.imp fun o q=>⟨q.1,l.fs ▸ q.2⟩,fun k v lt p=>(i.val k v lt p).imp fun x q=>⟨q.1,q.2.mono l.b⟩⟩
theorem lV.fz (i:lV w A (Aa true c) c I xs Stt Pv fp):lV w A (u9 H c) c I xs Stt Pv fp:=⟨i.walks,i.obj,fun b hb=>(i.foot b hb).imp id fun q=>q.imp id fun q=>nk5 q.1,i.val⟩
end
theorem zC {xs:List FV}{i:Nat}{x:FV} (hx:xs[i]? = some x):xs.drop i=x::xs.drop (i + 1):=by
 obtain⟨hi,e⟩:=List.getElem?_eq_some_iff.mp hx
 rw[List.drop_eq_getElem_cons hi,e]
abbrev Eh (cx:Cx) (xh:Cx→Stmt→St→Pg (Fl × St)) (n:Str) (b:List Stmt):List FV→St→Pg (Fl × St):=Li (fun x st=>gL cx n (.f x) st) (dS xh cx b)
inductive Ae (Γ:Gm) (H:PM) (F:Fr) (I:Addr) (xs:List FV) (Stt:Nat→Heap→Prop) (c₁:Cf) (s₁:Shared) (g:List FV→St→Pg (Fl × St)) (r:O (Fl × St)) (m:Nat) (s':Shared):Prop where
 | mk (i:Nat) (c':Cf) (st':St) (hm:i + m=xs.length) (l:c₁.le c') (R:aC Γ.w H F.env c' st' s'.heap) (hs:Stt i s'.heap) (hB:c'.B I=none) (hw:c'.ow I=none) (z:aS s₁ s') (e:aN Γ.C (g (xs.drop i) st')=r):Ae Γ H F I xs Stt c₁ s₁ g r m s'
noncomputable def Nj (A:Around) (env:Env) (Q:Flow→Shared→Prop) (E:Value→Shared→Prop) (r:Result) (s':Shared):Prop:=match r with
 | .ok f=>Q f s'
 | .error e=>cameBackBy (model pw Γ.w) A env E e s'
theorem Lc (hK:cW Γ.w Γ.K Γ.T) (hI:cD Γ H (E0 Γ.T)) (hX:∀ H,yB Γ H xh) (hF:aV Γ F cx) {n:Str}{np p:Pos}{it:Expr}{b:List Stmt} :
  TG Γ (VF Γ.w) H F st ((jB Γ.T (E0 Γ.T) true cx it st).bind fun r=>fG (Eh cx xh n b r.1 r.2)) (exec (.For (.Name n np) it b [] p) F.env):=by
 intro c s Q E o R g
 have key:=uA (fz:=true) (st:=st) (e:=it) hK hI hF (Q:=fun itv s₂=>codeAny (model pw Γ.w) F.A (.forLoop (.Name n np) itv b [] F.env) (Nj (Γ:=Γ) F.A F.env Q E) s₂) (E:=E) o R g ?_
 ·exact wpAny_For key.2 (fun x=>pO key.1 _ x)
 intro xs st₁ c₁ s₁ _ l₁ o₁ z₁ g I s₂ Stt Pv fp itr oP hB hH hw R₂ z₂
 refine aG.calm g fun f stE hf fin=>?_
 have itr':lV Γ.w F.A (u9 H c₁) c₁ I xs Stt Pv fp:=itr.fz
 refine codeAny_forLoop (Ae Γ H F I xs Stt c₁ s₁ (Eh cx xh n b) (.ok (f,stE))) (fun m s' hh=>?_) xs.length (Ae.mk 0 c₁ st₁ (Nat.zero_add _) (.refl c₁) R₂ oP hB hw z₂ hf)
 cases hh with | mk i c' st' hm l' R' hst hB' hw' z' hf' =>
 have o':=o₁.mono _ l'
 have fin:=fun c'' fl s'' (l:c'.le c'') R v (z:aS s' s'')=>fin c'' fl s'' (l'.trans l) R v (z'.trans z)
 cases m with
 | zero =>
  obtain rfl:i=xs.length:=hm
  refine itr.walks.done s' _ _ hst fun h' tk hk=>?_
  have R'':=R'.but (h':=h') (fun b o hb e=>hk b o (fun z=>hb (List.mem_singleton.mp z)) e) hB' hH hw'
  rw[List.drop_length]at hf'
  exact dK (mO (a:=(Fl.next,st')) hf') fun e1 e2=>wpAny_execs_nil (fin c' .next _ (.refl c') (e2 ▸ R'') (e1 ▸ (rfl:VF Γ.w c' .next .next)) ⟨rfl,rfl⟩)
 | succ m =>
  have hi:i < xs.length:=by omega
  refine itr.walks.item i s' _ _ hi hst fun v h' tk hv hst' hk=>?_
  have R₃:=R'.but (h':=h') (fun b o hb e=>hk b o (fun z=>hb (List.mem_singleton.mp z)) e) hB' hH hw'
  obtain⟨x,hx,fx⟩:=(itr'.monoH l').val i v hi hv
  rw[zC hx]at hf'
  refine Al (k:=fun st=>(dS xh cx b st).bind fun r=>match r.1 with
   | .next=>Eh cx xh n b (xs.drop (i + 1)) r.2
   | .ret w=>.ok (.ret w,r.2)
   | _=>.stuck) hf' fun st₄ e₄ hf'=>vH hf' fun r e₅ hf'=>?_
  obtain⟨ob,dj,R₄,back⟩:=(itr'.monoH l').hideH (k:=i + 1) (h:=h') hst' R₃ hB' hH hw'
  refine wpAny_assign_Name (kI (s:={ s' with heap:=h',toks:=tk }) hF (o'.hide dj) R₄ (aH.f fx) e₄ fun s₄ R₄ z₄=>?_)
  refine TG.ok (mV (hX _) hF b st₄) e₅ (o'.hide dj) R₄ fun c₅ flv s₅ l₅ o₅ R₅ v₅ z₅=>?_
  obtain⟨R₆,h6,h7,h8⟩:=back l₅ R₅
  have zz:aS s' s₅:=aS.trans ⟨rfl,rfl⟩ (z₄.trans z₅)
  obtain⟨fl,st₅⟩:=r
  cases fl with
  | next=>rw[show flv=.next from v₅];exact⟨m,Nat.lt_succ_self m,Ae.mk (i + 1) c₅ st₅ (by omega) (l'.trans l₅) R₆ h6 h7 h8 (z'.trans zz) hf'⟩
  | ret w =>
   obtain⟨v,rfl,p⟩:=v₅
   exact dK (mO (a:=(Fl.ret w,st₅)) hf') fun e1 e2=>fin c₅ (.ret v) s₅ l₅ (e2 ▸ R₆) (e1 ▸ (⟨v,rfl,p⟩:VF Γ.w c₅ (.ret v) (.ret w))) zz
  | _=>exact nk1 hf'
end
end Mine
end
section
namespace Mine
noncomputable def bY.isG (t:bY):Bool:=@bY.rec (fun _=>Bool) false (fun _=>false) (fun _=>true) (fun _=>true) (fun _=>false) t
noncomputable def dR (c:Cf) (h:Heap):PM:=fun a=>(c.ow a).bind fun t=>gd (!t.isG) (h.get? a)
theorem kC {c:Cf}{h:Heap}{a:Addr}{t:bY} (q:c.ow a=some t) (z:t.isG=false):dR c h a=h.get? a:=by
 show(c.ow a).bind (fun t=>gd (!t.isG) (h.get? a))=_
 rw[q]
 show gd (!t.isG) _=_
 rw[z];rfl
theorem G1 {b c:Bool}{P:Prop} (h : @Bool.rec (fun _=>Bool) false c b=true) (k:b=true→c=true→P):P:=by
 cases b with
 | false=>exact nk6 h
 | true=>exact k rfl h
theorem uC {n:Nat}{l:List MO}:∀ {k C:Nat}{fs:List (Str × PV)},mT n l=true→l[k]? = some (.inst C fs)→xN n fs=true:=by
 induction l with
 | nil=>exact fun _ e=>nk3 e
 | cons m r ih =>
  intro k C fs h e
  refine G1 (b:=oe (pA m) (fun q=>xN n q.2) true) (c:=mT n r) h fun h1 h2=>?_
  cases k with
  | zero=>rw[show m=.inst C fs from Option.some.inj e]at h1;exact h1
  | succ k=>exact ih h2 e
theorem rU {n:Nat}{fs:List (Str × PV)} (h:xN n fs=true):∀ x ∈ fs,sB n x.2=true:=by
 induction fs with
 | nil=>exact iG
 | cons y r ih=>exact fun x m=>G1 (b:=sB n y.2) (c:=xN n r) h fun h1 h2=>(List.mem_cons.mp m).elim (fun e=>e ▸ h1) fun m=>ih h2 x m
noncomputable def bY.below (m:Nat) (t:bY):Option bY:=@bY.rec (fun _=>Option bY) none (fun _=>none) (fun k=>gd (Nat.blt k m) (some (.g k))) (fun k=>gd (Nat.blt k m) (some (.d k))) (fun _=>none) t
noncomputable def Cf.back (c c₂:Cf) (m:Nat):Cf:=⟨c₂.B,fun a=>oe (c₂.ow a) (bY.below m) ((c.ow a).bind fun t=>gd (!t.isG) (some t)),c₂.S.take m,c.L,c.ro,c.fs⟩
section
variable {c c₂:Cf}{m:Nat}{a:Addr}{t:bY}
theorem gB {x:Option bY} (e:c₂.ow a=x):(c.back c₂ m).ow a=oe x (bY.below m) ((c.ow a).bind fun t=>gd (!t.isG) (some t)):=e ▸ rfl
theorem Ki (e:c₂.ow a=none) (q:c.ow a=some t) (z:t.isG=false):(c.back c₂ m).ow a=some t:=by
 refine(gB e).trans ?_
 rw[q]
 show gd (!t.isG) _=_
 rw[z];rfl
theorem Do (e:c₂.ow a=none∨c₂.ow a=some .v) (q:c.ow a=none):(c.back c₂ m).ow a=none:=e.elim (fun e=>(gB e).trans (by rw[q];rfl)) fun e=>gB e
theorem By {k:Nat} (h:m ≤ k) (e:c₂.ow a=some (.g k)∨c₂.ow a=some (.d k)):(c.back c₂ m).ow a=none:=by
 have z:Nat.blt k m=false:=Bool.eq_false_iff.mpr fun z=>Nat.lt_irrefl _ (Nat.lt_of_le_of_lt h (eK z))
 rcases e with e | e
 ·refine(gB e).trans ?_;show gd (Nat.blt k m) _=_;rw[z];rfl
 ·refine(gB e).trans ?_;show gd (Nat.blt k m) _=_;rw[z];rfl
theorem DX {k:Nat} (h:k < m) (e:c₂.ow a=some (.g k)):(c.back c₂ m).ow a=some (.g k):=by refine(gB e).trans ?_;show gd (Nat.blt k m) _=_;rw[show Nat.blt k m=true from Nat.ble_eq_true_of_le h];rfl
theorem LB {k:Nat} (h:k < m) (e:c₂.ow a=some (.d k)):(c.back c₂ m).ow a=some (.d k):=by refine(gB e).trans ?_;show gd (Nat.blt k m) _=_;rw[show Nat.blt k m=true from Nat.ble_eq_true_of_le h];rfl
theorem Lu (e:(c.back c₂ m).ow a=some t) {P:Prop} (g:∀ k,t=.g k→k < m→c₂.ow a=some (.g k)→P) (d:∀ k,t=.d k→k < m→c₂.ow a=some (.d k)→P) (h:c₂.ow a=none→c.ow a=some t→t.isG=false→P):P:=by
 cases y:c₂.ow a with
 | none=>exact ob ((gB y).symm.trans e) fun t' q e=>aD e fun z e=>have e:=Option.some.inj e;h y (e ▸ q) (e ▸ gU z)
 | some t' =>
  have e:=(gB y).symm.trans e
  cases t' with
  | g k=>exact aD e fun z e=>g k (Option.some.inj e).symm (eK z) y
  | d k=>exact aD e fun z e=>d k (Option.some.inj e).symm (eK z) y
  | _=>exact nk3 e
theorem dM {α:Type}{l:List α}{k m:Nat} (h:k < m):(l.take m)[k]? = l[k]?:=List.getElem?_take_of_lt h
theorem aH.back {w:World}{v:Value}{x:PV} (p:aH w c₂ v x) (h:sB m x=true):aH w (c.back c₂ m) v x:=by
 cases x with
 | f x=>exact p
 | ref k=>exact p.refI.imp fun s q=>⟨q.1,(dM (eK h)).trans q.2⟩
 | loc=>exact nk6 h
theorem Own.keep {w:World}{env:Env}{c':Cf}{st:St}{o o':Obj}{g:List MO} (p:Own w env c st a o t) (l:c.le c') (z:t.isG=false) (e:o'.data=o.data) (f:∀ k,t=.l k→o'=o):Own w env c' { st with g:=g } a o' t:=by
 cases t with
 | v=>exact And.imp_right (fun q=>q.imp fun _ q=>q.imp fun _ q=>⟨e.trans q.1,q.2.1,fun x u e=>lF l (q.2.2 x u e)⟩) p
 | c x=>exact And.imp_right (fun q=>q.imp fun _ q=>⟨e.trans q.1,fun u e=>lF l (q.2 u e)⟩) p
 | l k=>exact f k rfl ▸ ⟨kA l.l p.1,fun xs e=>(p.2 xs e).imp fun _ q=>q.imp fun _ q=>⟨q.1,q.2.mono l.b⟩⟩
 | _=>exact nk5 z
end
section
variable {w:World}{H P:PM}{c c₂:Cf}{st st₂:St}{env env₂:Env}{h h₂:Heap}{m:Nat}
theorem aC.hid_apart (R:aC w H env c st h):PM.apart H (dR c h):=fun a o e=>ob e fun t q _=>R.owH q
theorem aC.hidden (R:aC w H env c st h) (R₂:aC w (PM.mix H (dR c h)) env₂ c₂ st₂ h₂) {a:Addr}{t:bY} (q:c.ow a=some t) (z:t.isG=false):c₂.ow a=none∧c₂.B a=none∧∃ o,Own w env c st a o t∧oJ c₂.fs h₂ a o:=by
 obtain⟨o,e,ho⟩:=R.owG q
 have e2:PM.mix H (dR c h) a=some o:=PM.mix_r ((kC q z).trans e)
 refine⟨?_,?_,o,ho,R₂.hh a o e2⟩
 ·cases y:c₂.ow a with
  | none=>rfl
  | some t'=>exact nk3 ((R₂.owH y).symm.trans e2)
 ·cases y:c₂.B a with
  | none=>rfl
  | some o'=>exact nk3 ((R₂.bh a o' y).symm.trans e2)
theorem aC.back (R:aC w H env c st h) (R₂:aC w (PM.mix H (dR c h)) env₂ c₂ st₂ h₂) (hb:c.B.le c₂.B) (hs:c.S <+: c₂.S) (hfs:c₂.fs=env.locals::c.fs) (hm:st.g.length ≤ m) (hm2:m ≤ st₂.g.length) (ok:mT m (st₂.g.take m)=true):c.le (c.back c₂ m)∧aC w H env (c.back c₂ m) { st with g:=st₂.g.take m } h₂:=by
 have l:c.le (c.back c₂ m):=⟨hb,by
  obtain⟨t,ht⟩:=hs
  show c.S <+: c₂.S.take m
  rw[← ht,List.take_append,List.take_of_length_le (R.ix.gl ▸ hm)]
  exact List.prefix_append _ _,List.prefix_refl _,rfl,rfl⟩
 have hid:∀ {a:Addr}{t:bY},c.ow a=some t→t.isG=false→(c.back c₂ m).ow a=some t:=fun q z=>Ki (R.hidden R₂ q z).1 q z
 have tl:∀ {α:Type}{l:List α}{k:Nat}{x:α},(l.take m)[k]? = some x→k < m:=fun e=>Nat.lt_of_lt_of_le (dJ e) (List.length_take_le _ _)
 refine⟨l,R₂.b,fun a o e=>(PM.mixN (R₂.bh a o e)).2,fun a o e=>(R₂.hh a o (PM.mix_l R.hid_apart e)).imp id fun q=>⟨?_,q.2⟩,R.fsH,fun a t e=>Lu e (fun k z hk e=>?_) (fun k z hk e=>?_) fun n e z=>?_,hid R.ix.loc rfl,fun x a e=>(R.ix.cel x a e).imp (fun q=>hid q rfl) fun q=>⟨q.1,q.2.imp fun o q=>⟨q.1,q.2.mono l⟩⟩,R.ix.celd,?_,fun k sl e=>?_,R.ix.ll,fun k a xs e1 e2=>hid (R.ix.l k a xs e1 e2) rfl,R.ix.nol⟩
 ·have q:=hfs ▸ q.1
  exact(List.mem_cons.mp q).elim (fun z=>nk3 ((R.owH R.ix.loc).symm.trans (z ▸ e))) id
 ·rw[z]
  exact⟨R₂.owB e,(PM.mixN (R₂.owH e)).2,(R₂.owG e).imp fun o q=>⟨q.1,q.2.imp fun sl q=>⟨(dM hk).trans q.1,q.2.1,fun m' e=>jE.mono (.refl _) (q.2.2 m' ((dM hk).symm.trans e))⟩⟩⟩
 ·rw[z]
  exact⟨R₂.owB e,(PM.mixN (R₂.owH e)).2,(R₂.owG e).imp fun o q=>⟨q.1,q.2.imp fun a' q=>⟨(dM hk).trans q.1,fun C fs e=>(q.2 C fs ((dM hk).symm.trans e)).imp fun es q=>q.imp fun n q=>⟨q.1,hJ.map (fun x u hx p=>p.back (rU (uC ok e) x hx)) q.2⟩⟩⟩⟩
 ·obtain⟨_,nB,o,ho,hi⟩:=R.hidden R₂ e z
  refine⟨nB,R.owH e,?_⟩
  rcases hi with hi | ⟨hi,sl,hh⟩
  ·exact⟨o,hi,ho.keep l z rfl fun _ _=>rfl⟩
  ·refine⟨_,hh,ho.keep l z rfl fun k tk=>?_⟩
   have hi:=hfs ▸ hi
   exact(List.mem_cons.mp hi).elim (fun y=>by rw[y,R.ix.loc,tk]at e;cases e) fun y=>absurd y (R.noFs (R.owH e))
 ·show(c₂.S.take m).length=(st₂.g.take m).length
  rw[List.length_take,List.length_take,R₂.ix.gl]
 ·have hk:=tl e
  have:=R₂.ix.g k sl ((dM hk).symm.trans e)
  cases sl with
  | o a d=>exact⟨DX hk this.1,LB hk this.2⟩
  | l a=>exact DX hk this
end
end Mine
end
section
namespace Mine
section
variable {Γ:Gm}{H:PM}{F:Fr}{cx:Cx}{c c':Cf}{s:Shared}{st:St}{ih:Cx→Expr→St→Pg (PV × St)}{w:World}{env:Env}{h h':Heap}
noncomputable def pI (ifs:List Expr) (env:Env) (b:Bool):Sem Bool:=forIn ifs b fun c r=>if r=true then do let ok ← PySem.isTrue c env (eval c env);pure (ForInStep.yield ok) else pure (ForInStep.yield r)
theorem FH {A:Around}{Q:Bool→Shared→Prop}{E:Value→Shared→Prop} (ifs:List Expr) (h:Q false s):wpAny (model pw Γ.w) A (pI ifs env false) Q E s:=by
 induction ifs with
 | nil=>exact wpAny_pure h
 | cons e r ih =>
  unfold pI
  rw[List.forIn_cons,if_neg (by decide)]
  exact wpAny_bind (wpAny_pure ih)
theorem EH (hI:cD Γ H ih) (hF:aV Γ F cx) {Q:Bool→Shared→Prop}{E:Value→Shared→Prop} (ifs:List Expr):∀ {st:St}{r:Bool × St}{c:Cf}{s:Shared},aN Γ.C (nH ih cx ifs st)=.ok r→Ok Γ H F c→aC Γ.w H F.env c st s.heap →
  (∀ c' s',c.le c'→Ok Γ H F c'→aC Γ.w H F.env c' r.2 s'.heap→aS s s'→Q r.1 s')→wpAny (model pw Γ.w) F.A (pI ifs F.env true) Q E s:=by
 induction ifs with
 | nil=>exact fun e o R q=>wpAny_pure (by rw[← mO e]at q;exact q _ _ (.refl _) o R (.refl _))
 | cons i l ihl =>
  intro st r c s e o R q
  refine vH (f:=fun (t:Bool × St)=>bif t.1 then nH ih cx l t.2 else .ok (false,t.2)) e fun t e₁ e₂=>?_
  unfold pI
  rw[List.forIn_cons,if_pos rfl]
  refine wpAny_bind (wpAny_bind (TG.ok (vY hI hF 6 i st) e₁ o R fun c₁ t' s₁ l₁ o₁ R₁ v₁ z₁=>wpAny_pure ?_))
  obtain⟨b,st₁⟩:=t
  obtain rfl:t'=b:=v₁
  cases t' with
  | true=>exact ihl e₂ o₁ R₁ fun c' s' l o R z=>q c' s' (l₁.trans l) o R (z₁.trans z)
  | false=>rw[← mO e₂]at q;exact FH l (q c₁ s₁ l₁ o₁ R₁ z₁)
theorem Jk {A:Around}{D:Addr}{us:List Value}{n:Nat}{v:Value}{Q:Value→Shared→Prop}{E:Value→Shared→Prop} (e:s.heap.get? D=some (PySem.W.listOf us.toArray n)) (hz:us.length ≤ sizeLine)
  (q:∀ h' n',h'.get? D=some (PySem.W.listOf (us++[v]).toArray n')→(∀ b,b ≠ D→h'.get? b=s.heap.get? b)→Q .none { s with heap:=h' }):wpAny (model pw w) A (call (.builtin "list.append") [.ref D,v]) Q E s:=by
 refine call_meets (id := "list.append") slot_list_append ⟨_,e,rfl⟩ entry_list_append (args_list_append _ _) (AutoListH.list_append_list_val_0 D us.toArray n v (by rw[List.size_toArray];exact hz)) ⟨e,?_⟩
 refine q _ (if (us.toArray.push v).size == us.toArray.size then n else n + 1) ?_ fun b hb=>Heap.get?_update_ne _ _ _ _ hb
 rw[Heap.get?_update_self _ e rfl,← List.push_toArray]
 rfl
structure sR (w:World) (H:PM) (c:Cf) (D:Addr) (h:Heap) (vs:List FV):Prop where
 B:c.B D=none
 hH:H D=none
 ow:c.ow D=none
 obj:∃ us n,h.get? D=some (PySem.W.listOf us.toArray n)∧aQ w c.B us vs
theorem sR.mono {D:Addr}{vs:List FV} (a:sR w H c D h vs) (l:c.le c') (hB:c'.B D=none) (hw:c'.ow D=none) (k:∀ o,h.get? D=some o→h'.get? D=some o):sR w H c' D h' vs :=
 ⟨hB,a.hH,hw,a.obj.imp fun us q=>q.imp fun n q=>⟨k _ q.1,q.2.mono l.b⟩⟩
noncomputable def AU (elt:Expr) (gens:List Comprehension) (sc:Scope) (pos:Pos) (k:Nat) (acc:Value) (env:Env) (r:Sem Fin):Sem Fin :=
 match gens[k + 1]? with
 | some g'=>do
  let x ← eval g'.iter env
  standAt g'.iter.pos
  let x ← if g'.is_async != 0 then foldedIterable g'.iter x else foldedSetIterable g'.iter env x
  let _ ← runOwn (.compStart (.ListComp elt gens sc pos) (k + 1) (← holding [x] (if g'.is_async != 0 then asyncIter x else pyIter x)) acc env) env
  r
 | none=>do
  (do let _ ← call (.builtin "list.append") [acc,← eval elt env]:Sem Unit)
  r
noncomputable def AT (elt:Expr) (gens:List Comprehension) (sc:Scope) (pos:Pos) (k:Nat) (g:Comprehension) (it acc:Value) (env:Env) (v:Value):Sem Fin:=do
 assign g.target env v
 let ok ← pI g.ifs env true
 if ok then AU elt gens sc pos k acc env (again (.compLoop (.ListComp elt gens sc pos) k it acc env)) else again (.compLoop (.ListComp elt gens sc pos) k it acc env)
theorem y6 {elt target iter:Expr}{ifs:List Expr}{gens:List Comprehension}{sc:Scope}{pos:Pos}{k:Nat}{it acc:Value} (hg:gens[k]? = some ⟨target,iter,ifs,0⟩) :
  compTurn (.ListComp elt gens sc pos) k it acc env=(do
   standAt iter.pos
   match ← pyNext it with
   | none=>pure (.done .next)
   | some v =>
    letOwnedTupleGo target it v
    AT elt gens sc pos k ⟨target,iter,ifs,0⟩ it acc env v):=by
 unfold compTurn
 simp only[hg]
 rfl
theorem wD {R:Result→Shared→Prop}{A:Around}{elt:Expr}{gens:List Comprehension}{sc:Scope}{pos:Pos}{k:Nat}{I:Addr}{acc:Value}{g:Comprehension} (hg:gens[k]? = some g) (ha:g.is_async=0) (h:codeAny (model pw w) A (.compLoop (.ListComp elt gens sc pos) k (.ref I) acc env) R s)
  (hself:∀ (Q:Value→Shared→Prop) (E:Value→Shared→Prop),Q (.ref I) s→wpAny (model pw w) A (pyIter (.ref I)) Q E s):codeAny (model pw w) A (.compStart (.ListComp elt gens sc pos) k (.ref I) acc env) R s:=by
 refine codeAny_of_tree ?_
 show wpAny _ _ ((compStart (.ListComp elt gens sc pos) k (.ref I) acc env).onRaise (fun x=>do noteFrame x env;standAt theWindowsPlace)) _ _ s
 refine wpAny_notedAt ?_
 unfold compStart
 have e1:((clausesOf (.ListComp elt gens sc pos))[k]?).elim false (·.is_async != 0)=false:=by
  show(gens[k]?).elim false (·.is_async != 0)=false
  rw[hg];show(g.is_async != 0)=false;rw[ha];rfl
 have e2:(clausesOf (.ListComp elt gens sc pos))[k]? = some g:=hg
 rw[e1,e2]
 show wpAny _ _ (ask >>= _) _ _ s
 refine wpAny_bind (wpAny_askSetting (wpAny_ite ?_))
 split
 ·first
   | exact wpAny_bind (wpAny_pure (wpAny_pure (And.intro rfl h)))
   | exact wpAny_pure (And.intro rfl h)
 ·refine wpAny_bind (wpAny_rule ?_)
  show wpAny _ _ (standAt g.iter.pos >>= _) _ _ s
  exact wpAny_bind (wpAny_standAt (wpAny_bind (hself _ _ (wpAny_pure (And.intro rfl h)))))
theorem jH {b:Bool}{g:Comprehension} (h:iF b g=true):g.is_async=0∧(∃ n p,g.target=.Name n p)∧(b=false→bO g.iter=true)∧iF true g=true:=by
 obtain⟨h1,h3⟩:=Bool.and_eq_true_iff.mp h
 obtain⟨h1',h2⟩:=Bool.and_eq_true_iff.mp h1
 refine⟨beq_iff_eq.mp h1',?_,fun z=>by rw[z]at h3;exact h3,Bool.and_eq_true_iff.mpr ⟨h1,rfl⟩⟩
 obtain⟨n,e⟩:=Option.isSome_iff_exists.mp h2
 exact⟨n,d4 e⟩
noncomputable def F7 (Γ:Gm) (H:PM) (F:Fr) (c:Cf) (s:Shared) (D:Addr) (vs:List FV) (x:Pg (List FV × St)) (P:(Shared→Prop)→Prop):Prop :=
 ∀ r K,aN Γ.C x=.ok r→(vs++r.1).length ≤ sizeLine→(∀ c' s',c.le c'→aC Γ.w H F.env c' r.2 s'.heap→sR Γ.w H c' D s'.heap (vs++r.1)→aS s s'→K s')→P K
noncomputable def HY (Γ:Gm) (F:Fr) (inner:St→Pg (List FV × St)) (elt:Expr) (gens:List Comprehension) (sc:Scope) (pos:Pos) (k:Nat):Prop:=∀ {H:PM}{c:Cf}{st:St}{s:Shared}{D:Addr}{vs:List FV}{r:Sem Fin}{Q:Fin→Shared→Prop}{E:Value→Shared→Prop},
 Ok Γ H F c→aC Γ.w H F.env c st s.heap→sR Γ.w H c D s.heap vs→F7 Γ H F c s D vs (inner st) fun K=>(∀ s',K s'→wpAny (model pw Γ.w) F.A r Q E s')→wpAny (model pw Γ.w) F.A (AU elt gens sc pos k (.ref D) F.env r) Q E s
theorem zB (hI:∀ H,cD Γ H ih) (hF:aV Γ F cx) {elt:Expr}{gens:List Comprehension}{sc:Scope}{pos:Pos}{k:Nat}{g:Comprehension}{inner:St→Pg (List FV × St)} (hok:iF true g=true) (hin:HY Γ F inner elt gens sc pos k)
  {v it:Value}{x:FV}{D:Addr}{vs:List FV}{Q:Fin→Shared→Prop}{E:Value→Shared→Prop} (o:Ok Γ H F c) (R:aC Γ.w H F.env c st s.heap) (f:aO Γ.w c.B v x) (ac:sR Γ.w H c D s.heap vs) :
  F7 Γ H F c s D vs (lM ih cx inner g x st) fun K=>(∀ s',K s'→Q (.again (.compLoop (.ListComp elt gens sc pos) k it (.ref D) F.env)) s')→wpAny (model pw Γ.w) F.A (AT elt gens sc pos k g it (.ref D) F.env v) Q E s:=by
 intro r K e hz q hq
 obtain⟨_,⟨tn,tp,ht⟩,_⟩:=jH hok
 refine Al e fun st₁ e₁ e=>vH e fun a e₂ e=>?_
 refine ob e₁ fun n hn e₁=>?_
 rw[ht]at hn
 obtain⟨us,n',eD,fus⟩:=ac.obj
 obtain⟨dj,R₀,back⟩:=R.hideO eD ac.B ac.hH ac.ow
 unfold AT
 rw[ht]
 refine wpAny_bind (wpAny_assign_Name (kI hF (o.hide dj) R₀ (aH.f f) (by rw[Option.some.inj hn];exact e₁) fun s₁ R₁ z₁=>wpAny_bind (EH (hI _) hF g.ifs e₂ (o.hide dj) R₁ fun c₂ s₂ l₂ o₂ R₂ z₂=>?_)))
 obtain⟨b,st₂⟩:=a
 obtain⟨R₃,eD',h7,h8⟩:=back l₂ R₂
 have ac₂:sR Γ.w H c₂ D s₂.heap vs:=ac.mono l₂ h7 h8 fun ob e=>Option.some.inj (eD.symm.trans e) ▸ eD'
 have zz:=z₁.trans z₂
 cases b with
 | false =>
  rw[← mO e]at q
  exact wpAny_pure (hq _ (q c₂ s₂ l₂ R₃ (by rw[List.append_nil];exact ac₂) zz))
 | true=>exact hin (o.mono _ l₂) R₃ ac₂ r K e hz (fun c' s' l R a z=>q c' s' (l₂.trans l) R a (zz.trans z)) fun s' k=>wpAny_pure (hq s' k)
theorem JG (hI:∀ H,cD Γ H ih) (hF:aV Γ F cx) {elt:Expr}{gens:List Comprehension}{sc:Scope}{pos:Pos}{k:Nat} (hn:gens[k + 1]? = none):HY Γ F (vT ih cx elt) elt gens sc pos k:=by
 intro H c st s D vs r Q E o R ac r' K e hz q hq
 refine vH e fun a e₁ e=>Al e fun y hy e=>?_
 rw[← mO e]at q hz
 obtain⟨us,n,eD,fus⟩:=ac.obj
 obtain⟨dj,R₀,back⟩:=R.hideO eD ac.B ac.hH ac.ow
 unfold AU
 rw[hn]
 refine wpAny_bind (wpAny_bind (TG.ok (hI _ F cx elt st hF) e₁ (o.hide dj) R₀ fun c₄ u s₄ l₄ o₄ R₄ p₄ z₄=>?_))
 obtain⟨R₅,eD',h7,h8⟩:=back l₄ R₄
 have hz':us.length ≤ sizeLine:=by
  rw[fus.length]
  exact Nat.le_trans (by rw[List.length_append];exact Nat.le_add_right _ _) hz
 exact wpAny_bind (Jk eD' hz' fun h' n' g1 g2=>wpAny_pure (hq _ (q c₄ _ l₄ (R₅.but (fun b o hb e=>(g2 b hb).trans e) h7 ac.hH h8) ⟨h7,ac.hH,h8,us++[u],n',g1,aQ.append (.cons (p₄.fE hy) .nil) (fus.mono l₄.b)⟩ (z₄.trans ⟨rfl,rfl⟩))))
inductive OD (Γ:Gm) (H:PM) (F:Fr) (I D:Addr) (xs:List FV) (Stt:Nat→Heap→Prop) (c:Cf) (s:Shared) (f:FV→St→Pg (List FV × St)) (zs:List FV) (st':St) (m:Nat) (s':Shared):Prop where
 | mk (i:Nat) (c':Cf) (st₁:St) (ws us:List FV) (hm:i + m=xs.length) (l:c.le c') (R:aC Γ.w H F.env c' st₁ s'.heap) (hs:Stt i s'.heap) (hB:c'.B I=none) (hw:c'.ow I=none) (ac:sR Γ.w H c' D s'.heap ws) (z:aS s s') (e:aN Γ.C (iY f (xs.drop i) st₁)=.ok (us,st')) (ez:ws++us=zs):OD Γ H F I D xs Stt c s f zs st' m s'
noncomputable def Am (Γ:Gm) (F:Fr) (x:List FV→St→Pg (List FV × St)) (elt:Expr) (gens:List Comprehension) (sc:Scope) (pos:Pos) (k:Nat):Prop:=∀ {H:PM}{c:Cf}{st:St}{s:Shared}{xs:List FV}{I:Addr}{Stt:Nat→Heap→Prop}{Pv:Nat→Value→Prop}{fp:List Addr}{D:Addr}{vs:List FV}{R:Result→Shared→Prop},
 Ok Γ H F c→aC Γ.w H F.env c st s.heap→lV Γ.w F.A (u9 H c) c I xs Stt Pv fp→Stt 0 s.heap→c.B I=none→H I=none→c.ow I=none→sR Γ.w H c D s.heap vs→D ≠ I →
 F7 Γ H F c s D vs (x xs st) fun K=>(∀ s',K s'→R (.ok .next) s')→codeAny (model pw Γ.w) F.A (.compLoop (.ListComp elt gens sc pos) k (.ref I) (.ref D) F.env) R s
theorem GW (hI:∀ H,cD Γ H ih) (hF:aV Γ F cx) {elt:Expr}{gens:List Comprehension}{sc:Scope}{pos:Pos}{k:Nat}{g:Comprehension}{inner:St→Pg (List FV × St)} (hg:gens[k]? = some g) (hok:iF true g=true) (hin:HY Γ F inner elt gens sc pos k):Am Γ F (iY (lM ih cx inner g)) elt gens sc pos k:=by
 intro H c st s xs I Stt Pv fp D vs R o Rr it oP iB iH iw ac ne r K e hz post hR
 obtain⟨ha,⟨tn,tp,ht⟩,_⟩:=jH hok
 have B:=@zB Γ
 obtain⟨target,iter,ifs,asy⟩:=g
 subst ha ht
 refine codeAny_loop rfl (OD Γ H F I D xs Stt c s (lM ih cx inner ⟨.Name tn tp,iter,ifs,0⟩) (vs++r.1) r.2) (fun m s' hI'=>?_) xs.length (.mk 0 c st vs r.1 (Nat.zero_add _) (.refl c) Rr oP iB iw ac (.refl s) e rfl)
 cases hI' with | mk i c' st₁ ws us hm l' R' hst hB' hw' ac' z' hf hws =>
 have o':=o.mono _ l'
 show wpAny _ F.A ((compTurn (.ListComp elt gens sc pos) k (.ref I) (.ref D) F.env).onRaise (fun x=>do noteFrame x F.env;theTreesLotGoes x)) _ _ s'
 refine wpAny_noted ?_
 rw[y6 hg]
 refine wpAny_bind (wpAny_standAt (wpAny_bind ?_))
 cases m with
 | zero =>
  obtain rfl:i=xs.length:=hm
  refine it.walks.done s' _ _ hst fun h' tk hk=>?_
  have R'':=R'.but (h':=h') (fun b o hb e=>hk b o (fun z=>hb (List.mem_singleton.mp z)) e) hB' iH hw'
  rw[List.drop_length]at hf
  refine dK (mO (a:=([],st₁)) hf) fun e1 e2=>wpAny_pure (hR _ (post c' _ l' (e2 ▸ R'') ?_ (z'.trans ⟨rfl,rfl⟩)))
  rw[← hws,← e1,List.append_nil]
  exact ac'.mono (.refl c') ac'.B ac'.ow fun ob e=>hk D ob (fun z=>ne (List.mem_singleton.mp z)) e
 | succ m =>
  have hi:i < xs.length:=by omega
  refine it.walks.item i s' _ _ hi hst fun v h' tk hv hst' hk=>?_
  have R₃:=R'.but (h':=h') (fun b o hb e=>hk b o (fun z=>hb (List.mem_singleton.mp z)) e) hB' iH hw'
  have it':=it.monoH l'
  obtain⟨x,hx,fx⟩:=it'.val i v hi hv
  rw[zC hx]at hf
  refine vH (f:=fun (a:List FV × St)=>(iY (lM ih cx inner ⟨.Name tn tp,iter,ifs,0⟩) (xs.drop (i + 1)) a.2).bind fun q=>.ok (a.1++q.1,q.2)) hf fun a e₁ hf=>vH hf fun q e₂ hf=>dK (mO (a:=(a.1++q.1,q.2)) hf) fun e3 e4=>?_
  obtain⟨ob,dj,R₄,back⟩:=it'.hideH (k:=i + 1) (h:=h') hst' R₃ hB' iH hw'
  have ac₃:=ac'.mono (h':=h') (.refl c') ac'.B ac'.ow fun ob e=>hk D ob (fun z=>ne (List.mem_singleton.mp z)) e
  have ee:ws++a.1++q.1=vs++r.1:=by rw[List.append_assoc,e3];exact hws
  have hz':(ws++a.1).length ≤ sizeLine:=Nat.le_trans (by rw[← ee,List.length_append (bs:=q.1)];exact Nat.le_add_right _ _) hz
  refine zB (s:={ s' with heap:=h',toks:=tk }) hI hF hok hin (o'.hide dj) R₄ fx ⟨ac₃.B,PM.mixN' (fun o z=>PM.oneE z fun z _=>ne z) ac₃.hH,ac₃.ow,ac₃.obj⟩ a _ e₁ hz' (fun c₅ s₅ l₅ R₅ ac₅ z₅=>?_) fun s' k=>⟨rfl,m,Nat.lt_succ_self m,k⟩
  obtain⟨R₆,h6,h7,h8⟩:=back l₅ R₅
  exact .mk (i + 1) c₅ a.2 (ws++a.1) q.1 (by omega) (l'.trans l₅) R₆ h6 h7 h8 ⟨ac₅.B,ac'.hH,ac₅.ow,ac₅.obj⟩ (z'.trans (aS.trans ⟨rfl,rfl⟩ z₅)) (by rw[e₂,← e4]) ee
theorem Hv (hK:cW Γ.w Γ.K Γ.T) (hI:∀ H,cD Γ H ih) (hF:aV Γ F cx) {elt:Expr}{gens:List Comprehension}{sc:Scope}{pos:Pos}{k:Nat}{g':Comprehension}{x:List FV→St→Pg (List FV × St)} (hok':iF false g'=true) (hn:gens[k + 1]? = some g')
  (hL:Am Γ F x elt gens sc pos (k + 1)):HY Γ F (fun st=>(jB Γ.T ih true cx g'.iter st).bind fun q=>x q.1 q.2) elt gens sc pos k:=by
 intro H c st s D vs rr Q E o R ac r K e hz q hq
 obtain⟨us,n,eD,fus⟩:=ac.obj
 obtain⟨dj,R₀,back⟩:=R.hideO eD ac.B ac.hH ac.ow
 unfold AU
 rw[hn]
 have ha:=(jH hok').1
 have g0:aG Γ (fun _ (_:Unit) (_:List FV)=>True) (PM.mix H (PM.one D (PySem.W.listOf us.toArray n))) F ((jB Γ.T ih true cx g'.iter st).bind fun q=>x q.1 q.2) c s (fun _ _=>True) E:=⟨fun _ _ _ _ _ _ _ _ _ _=>trivial,fun e'=>nk2 (e'.symm.trans e),fun e'=>nk1 (e'.symm.trans e)⟩
 have key:=uA (fz:=true) hK (hI _) hF (Q:=fun itv s₄=>wpAny (model pw Γ.w) F.A (do let _ ← runOwn (.compStart (.ListComp elt gens sc pos) (k + 1) itv (.ref D) F.env) F.env;rr) Q E s₄) (E:=E) (o.hide dj) R₀ g0 ?_
 ·refine wpAny_bind (wpAny_mono key.2 (fun xv s₄ h₄=>?_) fun _ _ z=>z)
  have e1:(g'.is_async != 0)=false:=by rw[ha];rfl
  simp only[e1]
  refine wpAny_bind (wpAny_standAt (wpAny_bind (wpAny_of_eq (pO key.1 _ xv) ?_)))
  exact wpAny_bind (wpAny_holding (wpAny_mono h₄ (fun itv s₅ h₅=>h₅) fun _ _ z=>z))
 intro xs st₃ c₃ s₃ e₃ l₃ o₃ z₃ _ I s₄ Stt Pv fp itr oP iB iH iw R₄ z₄
 rw[aZ,e₃]at e
 obtain⟨R₅,eD',h7,h8⟩:=back l₃ R₄
 have nI:=PM.mixN iH
 have neD:D ≠ I:=fun z=>by rw[← z]at nI;exact nk3 (nI.1.symm.trans gS)
 have o₅:Ok Γ H F c₃:=o.mono _ l₃
 exact wpAny_bind (wpAny_runOwn (wD hn ha (hL o₅ R₅ itr.fz oP iB nI.2 iw ⟨h7,ac.hH,h8,us,n,eD',fus.mono l₃.b⟩ neD r K e hz (fun c₆ s₆ l₆ R₆ ac₆ z₆=>q c₆ s₆ (l₃.trans l₆) R₆ ac₆ (z₃.trans (z₄.trans z₆))) fun s' k=>hq s' k) fun Q' E' q'=>itr.walks.self 0 s₄ Q' E' oP q'))
theorem CE (hK:cW Γ.w Γ.K Γ.T) (hI:∀ H,cD Γ H ih) (hF:aV Γ F cx) {elt:Expr}{gens:List Comprehension}{sc:Scope}{pos:Pos} (rest:List Comprehension) :
  ∀ {g:Comprehension}{k:Nat},gens.drop k=g::rest→iF true g=true→rest.all (iF false)=true→Am Γ F (nS Γ.T ih cx elt rest g) elt gens sc pos k:=by
 have at_:∀ {k n:Nat}{l:List Comprehension},gens.drop k=l→gens[k + n]? = l[n]?:=fun e=>by rw[← e,List.getElem?_drop]
 induction rest with
 | nil=>exact fun hk h1 _=>GW hI hF (at_ (n:=0) hk) h1 (JG hI hF (at_ (n:=1) hk))
 | cons g' gs ihg =>
  intro g k hk h1 h2
  obtain⟨h2,h3⟩:=Bool.and_eq_true_iff.mp h2
  exact GW hI hF (at_ (n:=0) hk) h1 (Hv hK hI hF h2 (at_ (n:=1) hk) (ihg (by rw[← List.drop_drop,hk];rfl) (jH h2).2.2.2 h3))
end
end Mine
end
section
namespace Mine
theorem jM {α:Type}{x n:Str}{v:α}{r:List (Str × α)} (h:x=n):((n,v)::r).lookup x=some v:=(fW x ((n,v)::r)).symm.trans (mD h)
theorem kK {α:Type}{x n:Str}{v:α}{r:List (Str × α)} (h:x ≠ n):((n,v)::r).lookup x=r.lookup x:=(fW x ((n,v)::r)).symm.trans ((iP h).trans (fW x r))
noncomputable def oK (env:Env) (l:List (Str × NameKind)):List (Str × Addr)→List (Str × Addr):=@List.rec (Str × NameKind) (fun _=>List (Str × Addr)→List (Str × Addr)) (fun acc=>acc) (fun p _ k acc=>k (if p.2 == .free then (p.1,(env.cells.lookup p.1).getD 0)::acc else acc)) l
theorem N0 {env:Env}{p:Str × NameKind}{r:List (Str × NameKind)}{acc:List (Str × Addr)}:oK env (p::r) acc=oK env r (if p.2 == .free then (p.1,(env.cells.lookup p.1).getD 0)::acc else acc):=rfl
theorem Ke {env:Env}{x:Str}{a:Addr} (l:List (Str × NameKind)):∀ {acc:List (Str × Addr)},(oK env l acc).lookup x=some a→acc.lookup x=some a∨((x,NameKind.free) ∈ l∧a=(env.cells.lookup x).getD 0):=by
 induction l with
 | nil=>exact fun h=>.inl h
 | cons p r ih =>
  intro acc h
  rcases ih h with h | h
  ·revert h
   refine jR (P:=fun z:List (Str × Addr)=>z.lookup x=some a→_) (fun hk h=>?_) fun _ h=>.inl h
   by_cases e:x=p.1
   ·rw[jM e]at h
    exact .inr ⟨by rw[e,← show p.2=.free from beq_iff_eq.mp hk];exact List.mem_cons_self,by rw[e];exact(Option.some.inj h).symm⟩
   ·exact .inl ((kK e).symm.trans h)
  ·exact .inr ⟨List.mem_cons_of_mem _ h.1,h.2⟩
theorem E7 {env:Env}{x:Str} (l:List (Str × NameKind)):∀ {acc:List (Str × Addr)},(x,NameKind.free) ∈ l∨(acc.lookup x).isSome=true→((oK env l acc).lookup x).isSome=true:=by
 induction l with
 | nil=>exact fun h=>h.elim (fun h=>absurd h List.not_mem_nil) id
 | cons p r ih =>
  intro acc h
  refine ih ?_
  by_cases e:x=p.1
  ·rcases h with h | h
   ·rcases List.mem_cons.mp h with h | h
    ·rw[← h];exact .inr (by rw[if_pos (show((x,NameKind.free).2 == NameKind.free)=true from rfl),jM rfl];rfl)
    ·exact .inl h
   ·exact .inr (jR (P:=fun z:List (Str × Addr)=>(z.lookup x).isSome=true) (fun _=>by rw[jM e];rfl) fun _=>h)
  ·exact h.imp (fun h=>(List.mem_cons.mp h).resolve_left fun z=>e (by rw[← z])) fun h=>jR (P:=fun z:List (Str × Addr)=>(z.lookup x).isSome=true) (fun _=>by rw[kK e];exact h) fun _=>h
theorem Ao {env:Env}{sc:Scope} (h:∀ n,(n,NameKind.free) ∈ sc.names→(env.cells.lookup n).isSome=true):closureFor sc env=pure (oK env sc.names []):=by
 have key:∀ (names:List (Str × NameKind)) (acc:List (Str × Addr)),(∀ n,(n,NameKind.free) ∈ names→(env.cells.lookup n).isSome=true) →
   (forIn names acc (fun (x:Str × NameKind) (cs:List (Str × Addr))=>(if (x.2 == .free)=true then do let a ← cellOf env x.1;pure (ForInStep.yield ((x.1,a)::cs)) else pure (ForInStep.yield cs):Sem (ForInStep (List (Str × Addr))))))=pure (oK env names acc):=by
  intro names
  induction names with
  | nil=>exact fun acc _=>rfl
  | cons p r ih =>
   intro acc hh
   have hh':=fun m hm=>hh m (List.mem_cons_of_mem p hm)
   rw[List.forIn_cons,N0]
   by_cases hk:(p.2 == NameKind.free)=true
   ·obtain⟨a,ha⟩:=Option.isSome_iff_exists.mp (hh p.1 (by rw[← show p.2=.free from beq_iff_eq.mp hk];exact List.mem_cons_self))
    have e1:cellOf env p.1=pure a:=by unfold cellOf;rw[ha]
    rw[if_pos hk,if_pos hk,e1,ha,pure_bind,pure_bind]
    exact ih _ hh'
   ·rw[if_neg hk,if_neg hk,pure_bind]
    exact ih _ hh'
 unfold closureFor
 have:=key sc.names [] h
 simp only[bind_pure]
 exact this
theorem C1 {α:Type} (pr:Str→Bool) (x:Str) (l:List (Str × α)):lk x (l.filter fun p=>pr p.1)=gd (pr x) (lk x l):=by
 induction l with
 | nil=>cases pr x<;>rfl
 | cons p r ih =>
  rw[List.filter_cons]
  by_cases e:x=p.1
  ·rw[mD e,← e]
   cases hp:pr x with
   | true=>exact mD e
   | false=>exact ih.trans (by rw[hp];rfl)
  ·rw[iP e]
   exact jR (P:=fun z=>lk x z=_) (fun _=>(iP e).trans ih) fun _=>ih
theorem nJ {α:Type}{x:Str}{k:α}{l:List (Str × α)} (h:l.lookup x=some k):(x,k) ∈ l:=by
 induction l with
 | nil=>exact nk3 h
 | cons p r ih =>
  by_cases e:x=p.1
  ·rw[jM e]at h;rw[e,← Option.some.inj h];exact List.mem_cons_self
  ·rw[kK e]at h;exact List.mem_cons_of_mem _ (ih h)
theorem B3 {f:Str × NameKind→Str × NameKind} (hf:∀ p,(f p).1=p.1) {x:Str}{k:NameKind}{l:List (Str × NameKind)} (h:l.lookup x=some k):(l.map f).lookup x=some (f (x,k)).2:=by
 induction l with
 | nil=>exact nk3 h
 | cons p r ih =>
  by_cases e:x=p.1
  ·rw[jM e]at h;rw[← Option.some.inj h,e];exact jM (hf p).symm
  ·rw[kK e]at h;exact(kK fun z=>e (z.trans (hf p))).trans (ih h)
section
variable {Γ:Gm}{w:World}{H P:PM}{F:Fr}{cx:Cx}{c:Cf}{st:St}{env:Env}{h h':Heap}
noncomputable def LW (env:Env) (p:Str × NameKind):Str × NameKind:=if (p.2 == NameKind.free&&env.scope.kind == .function&&env.kindOf p.1 == some .cell) then (p.1,NameKind.cell) else (p.1,p.2)
theorem aV.comp (hF:aV Γ F cx) {sc:Scope}{cl:List (Str × Addr)}{C:Addr} (hk:sc.kind=.function) (hc:∀ p ∈ sc.names,p.2 ≠ .cell):aV Γ ⟨F.A,compEnvC sc cl C F.env,F.fenv,F.outer,true⟩ ⟨cx.f,sc,cx.m⟩:=by
 have hf:∀ p,(LW F.env p).1=p.1:=fun p=>jR (P:=fun z:Str × NameKind=>z.1=p.1) (fun _=>rfl) fun _=>rfl
 have g:∀ {x:Str}{k:NameKind},kindOf sc x=some k→(compEnvC sc cl C F.env).kindOf x=some (LW F.env (x,k)).2:=fun h=>B3 (f:=LW F.env) hf (dT h)
 exact⟨hk,fun x k h hn=>(g h).trans (jR (P:=fun z:Str × NameKind=>some z.2=some k) (fun z=>absurd (beq_iff_eq.mp (Bool.and_eq_true_iff.mp (Bool.and_eq_true_iff.mp z).1).1) hn) fun _=>rfl),
  fun x h=>jR (P:=fun z:Str × NameKind=>(compEnvC sc cl C F.env).kindOf x=some z.2→_) (fun _=>.inr) (fun _=>.inl) (g h),fun x h=>absurd rfl (hc _ (nJ (dT h))),hF.globals,hF.builtins,hF.handled,hF.frames,hF.frame,hF.depth,hF.units⟩
noncomputable def lZ (c:Cf) (a:Addr):Option bY:=(c.ow a).bind fun t=>gd t.isG (some t)
theorem EY {a:Addr}{t:bY}{P:Prop} (e:lZ c a=some t) (k:c.ow a=some t→t.isG=true→P):P:=ob (x:=c.ow a) e fun t' q e=>aD e fun y e=>have e:=Option.some.inj e;k (e ▸ q) (e ▸ y)
theorem CV {a:Addr}{t:bY} (e:c.ow a=some t) (z:t.isG=true):lZ c a=some t:=by show(c.ow a).bind _=_;rw[e];show gd t.isG _=_;rw[z];rfl
theorem HC {a:Addr} (e:c.ow a=none):lZ c a=none:=by show(c.ow a).bind _=_;rw[e];rfl
theorem aC.enter (R:aC w H env c st h) (gr:aY h h') {c₁:Cf}{env₁:Env}{st₁:St} (hB:c₁.B=c.B) (hfs:c₁.fs=env.locals::c.fs)
  (own:∀ a t,c₁.ow a=some t→(lZ c a=some t∧∀ o,Own w env c st a o t→Own w env₁ c₁ st₁ a o t)∨(h.get? a=none∧∃ o,h'.get? a=some o∧Own w env₁ c₁ st₁ a o t)) (ix:Ix w (PM.mix H (dR c h)) env₁ c₁ st₁.g st₁.l st₁.c):aC w (PM.mix H (dR c h)) env₁ c₁ st₁ h' where
 b a o e:=gr _ _ (R.b a o (hB ▸ e))
 bh a o e:=PM.mixN' (fun o' q=>ob q fun t q _=>nk3 ((R.owB q).symm.trans (hB ▸ e))) (R.bh a o (hB ▸ e))
 hh a o e:=PM.mixE e (fun o' q e=>.inl (Option.some.inj e ▸ gr _ _ (ob q fun t _ e=>aD e fun _ e=>e))) fun _ e=>((R.hh a o e).grows gr).imp id fun q=>⟨hfs ▸ List.mem_cons_of_mem _ q.1,q.2⟩
 fsH a e:=Option.isSome_iff_exists.mpr ((List.mem_cons.mp (hfs ▸ e)).elim (fun e=>(R.owG R.ix.loc).imp fun o q=>by rw[e];exact PM.mix_r ((kC R.ix.loc rfl).trans q.1)) fun e=>(Option.isSome_iff_exists.mp (R.fsH a e)).imp fun o q=>PM.mix_l R.hid_apart q)
 own a t e:=(own a t e).elim (fun q=>EY q.1 fun e z=>⟨hB ▸ R.owB e,PM.mixN' (fun o' q'=>ob q' fun t₂ q₂ e'=>aD e' fun y _=>by rw[← Option.some.inj (e.symm.trans q₂),z]at y;exact nk6 y) (R.owH e),(R.owG e).imp fun o p=>⟨gr _ _ p.1,q.2 o p.2⟩⟩)
  fun q=>have n:=R.free q.1;⟨hB ▸ n.1,PM.mixN' (fun o' q=>ob q fun t q _=>nk3 (n.2.2.symm.trans q)) n.2.1,q.2⟩
 ix:=ix
noncomputable def Cf.comp (c:Cf) (L C:Addr):Cf:=⟨c.B,iN (lZ c) C (some .v),c.S,c.L,true,L::c.fs⟩
theorem xJ {l:List MO}{k:Nat}{m:MO} (h:(l.map fun _=>MO.dead)[k]? = some m):MO.dead=m:=by
 rw[List.getElem?_map]at h
 cases q:l[k]? with
 | none=>rw[q]at h;exact nk3 h
 | some=>rw[q]at h;exact Option.some.inj h
theorem aC.comp (R:aC w H env c st h) {sc:Scope}{C:Addr}{cenv:Env} (gr:aY h h') (hl:cenv.locals=C) (hcl:cenv.cells=oK env sc.names []) (hN:h'.Ns C fun _=>none) (nC:h.get? C=none)
  (hfree:∀ n,(n,NameKind.free) ∈ sc.names→(env.cells.lookup n).isSome=true):aC w (PM.mix H (dR c h)) cenv (c.comp env.locals C) (Ai sc st) h':=by
 have nw:=(R.free nC).2.2
 have owG:∀ {a:Addr}{t:bY},c.ow a=some t→t.isG=true→(c.comp env.locals C).ow a=some t:=fun e z=>qL (f:=lZ c) (HC nw) (CV e z)
 have cap:∀ {x:Str}{u:PV},lk x (Ai sc st).c=some u→lk x sc.names=some .free∧lk x st.c=some u:=fun {x u} e=>aD ((C1 (fun y=>lk y sc.names == some .free) x st.c).symm.trans e) fun h e=>⟨beq_iff_eq.mp h,e⟩
 have cof:∀ {x:Str}{o:Obj},jK w c st.c x o→jK w (c.comp env.locals C) (Ai sc st).c x o:=fun q=>q.imp fun v₀ q=>⟨q.1,fun u e=>q.2 u (cap e).2⟩
 refine R.enter gr rfl rfl (fun a t e=>jS (f:=lZ c) (a:=C) (x:=some bY.v) e (fun z e=>.inr ?_) fun z e=>.inl ⟨e,fun o p=>EY e fun e y=>?_⟩) ⟨by rw[hl];exact gS,fun x a e=>?_,fun x u e=>?_,R.ix.gl,fun k sl e=>?_,(by show c.L.length=(st.l.map _).length;rw[List.length_map];exact R.ix.ll),fun k a xs _ e=>(by cases xJ e),fun k D fs e=>(by cases xJ e)⟩
 ·obtain⟨o,es,ep,e',q1,q2,_⟩:=hN
  rw[z,← Option.some.inj e]
  exact⟨nC,o,e',hl.symm,es,ep,q1,q2,fun x u e=>nk3 e⟩
 ·cases t with
  | g k=>exact p
  | d k=>exact p
  | _=>exact nk6 y
 ·rw[hcl]at e
  rcases Ke _ e with e | ⟨e1,e2⟩
  ·exact nk3 e
  ·obtain⟨a',ha'⟩:=Option.isSome_iff_exists.mp (hfree x e1)
   rw[ha']at e2
   rw[e2]
   refine .inr ⟨rfl,?_⟩
   rcases R.ix.cel x a' ha' with q | q
   ·obtain⟨o,q1,q2⟩:=R.owG q
    exact⟨o,PM.mix_r ((kC q rfl).trans q1),cof q2.2⟩
   ·exact q.2.imp fun o q=>⟨PM.mix_l R.hid_apart q.1,cof q.2⟩
 ·rw[hcl]
  exact E7 _ (.inl (nJ ((fW _ _).symm.trans (cap e).1)))
 ·have q:=R.ix.g k sl e
  cases sl with
  | o a d=>exact⟨owG q.1 rfl,owG q.2 rfl⟩
  | l a=>exact owG q rfl
end
end Mine
end
section
namespace Mine
section
variable {Γ:Gm}{H P:PM}{F:Fr}{cx:Cx}{c:Cf}{s:Shared}{st:St}{ih:Cx→Expr→St→Pg (PV × St)}{h:Heap}
theorem JL {α:Type} (x:Pg α):x.bind .ok=x:=by
 induction x with
 | ask c m q k ih=>exact congrArg (Pg.ask c m q) (funext ih)
 | _=>rfl
theorem gY {α:Type}{p:α→Bool}{l:List α} (h:l.all p=true) {x:α} (m:x ∈ l):p x=true:=List.all_eq_true.mp h x m
theorem Gj {a b:Bool} (h:(a||b)=true) (n:a=false):b=true:=by rw[n]at h;exact h
theorem AY {sc:Scope} (h:CS sc=true):sc.kind=.function∧(∀ p ∈ sc.names,p.2 ≠ .cell)∧∀ p ∈ sc.names,p.2=.local→sc.names.lookup p.1=some .local:=by
 obtain⟨h1,h2⟩:=Bool.and_eq_true_iff.mp h
 refine⟨beq_iff_eq.mp h1,fun p hp e=>?_,fun p hp e=>?_⟩
 ·have:=(Bool.and_eq_true_iff.mp (Bool.and_eq_true_iff.mp (gY h2 hp)).1).1
  rw[e]at this
  exact nk6 this
 ·have:=(Bool.and_eq_true_iff.mp (Bool.and_eq_true_iff.mp (gY h2 hp)).1).2
  exact(fW _ _).symm.trans (beq_iff_eq.mp (Gj this (by rw[e];rfl)))
theorem Ok.comp (o:Ok Γ H F c) (R:aC Γ.w H F.env c st h) {cenv:Env}{C:Addr}:Ok Γ (PM.mix H (dR c h)) ⟨F.A,cenv,F.fenv,F.outer,true⟩ (c.comp F.env.locals C):=by
 have here:∃ o,PM.mix H (dR c h) F.env.locals=some o∧∀ vs,o.data ≠ .fields vs:=(R.owG R.ix.loc).imp fun o q=>⟨PM.mix_r ((kC R.ix.loc rfl).trans q.1),fun vs z=>q.2.2.elim fun es q=>q.elim fun ep q=>by rw[q.1]at z;cases z⟩
 exact⟨rfl,o.k,fun a ob e=>(o.base a ob e).imp id fun q=>⟨PM.mix_l R.hid_apart q.1,fun z=>(List.mem_cons.mp z).elim (fun z=>nk3 ((R.owH R.ix.loc).symm.trans (z ▸ q.1))) q.2⟩,fun a ob e=>PM.mix_l R.hid_apart (o.h0 a ob e),
  fun e he=>⟨(o.outer e he).1,(o.outer e he).2.imp fun L q=>q.imp fun ob q=>⟨q.1,q.2.1,PM.mix_l R.hid_apart q.2.2.1,List.mem_cons_of_mem _ q.2.2.2.1,q.2.2.2.2⟩⟩,o.fkind,
  o.fframe.imp fun L q=>⟨q.1,q.2.1,.inr (q.2.2.elim (fun z=>by rw[z];exact here.imp fun ob q=>⟨q.1,List.mem_cons_self,q.2⟩) fun q=>q.imp fun ob q=>⟨PM.mix_l R.hid_apart q.1,List.mem_cons_of_mem _ q.2.1,q.2.2⟩)⟩,
  fun a e=>(List.mem_cons.mp e).elim (fun e=>by rw[e];exact here) fun e=>(o.fsD a e).imp fun ob q=>⟨PM.mix_l R.hid_apart q.1,q.2⟩⟩
theorem aG.gpB {α β δ:Type}{V:Cf→α→β→Prop}{Q:α→Shared→Prop}{E:Value→Shared→Prop}{b:Bool}{x:Pg (δ × St)}{k:δ × St→Pg (β × St)}{P:Prop} (g:aG Γ V H F ((Mine.gp b x).bind k) c s Q E) (n:b=true→aG Γ V H F (x.bind k) c s Q E→P):P:=by
 cases b with
 | false=>exact g.stuck
 | true=>exact n rfl g
theorem aG.calmB {α β δ:Type}{V:Cf→α→β→Prop}{Q:α→Shared→Prop}{E:Value→Shared→Prop}{x:Pg (δ × St)}{k:δ × St→Pg (β × St)}{P:Prop} (g:aG Γ V H F ((fG x).bind k) c s Q E) (n:∀ r,aN Γ.C x=.ok r→aG Γ V H F (k r) c s Q E→P):P:=by
 cases h:aN Γ.C (fG x) with
 | stuck=>exact absurd (by rw[aZ,h];rfl) g.go
 | raise=>exact(qN h).elim
 | ok r=>exact n r (yD h) (g.step h (.refl c) (.refl s))
noncomputable def Nv (Γ:Gm) (H:PM) (F:Fr) (E:Value→Shared→Prop) (use:Option (Value→Sem Unit)) (Q:Value→Shared→Prop) (x:PV) (st':St) (c':Cf) (s₁:Shared):Prop :=
 ∀ a C s' m c'',c'.le c''→Ok Γ H F c''→aC Γ.w H F.env c'' st' s'.heap→aH Γ.w c'' a x→s'.heap.Ns C m→c''.B C=none→H C=none→c''.ow C=none→aS s₁ s'→compPost (model pw Γ.w) F.A E use Q a C (.ok .next) s'
theorem uP (hK:cW Γ.w Γ.K Γ.T) (hI:∀ H,cD Γ H ih) (hF:aV Γ F cx) {elt:Expr}{gens:List Comprehension}{sc:Scope}{pos:Pos}{use:Option (Value→Sem Unit)}{α β:Type}{V:Cf→α→β→Prop}{k:PV × St→Pg (β × St)}{Q₀:α→Shared→Prop}{Q:Value→Shared→Prop}{E:Value→Shared→Prop}
  (o:Ok Γ H F c) (Rr:aC Γ.w H F.env c st s.heap) (g:aG Γ V H F ((vP Γ.T ih cx elt gens sc st).bind k) c s Q₀ E)
  (fin:∀ x st' c' s₁,c.le c'→aS s s₁→aG Γ V H F (k (x,st')) c' s₁ Q₀ E→Nv Γ H F E use Q x st' c' s₁) :
  wpAny (model pw Γ.w) F.A (comprehension (.ListComp elt gens sc pos) sc F.env (firstIterPos gens pos) (newList []) (firstAsync gens) (firstIter gens F.env) use) Q E s:=by
 refine aG.gpB g fun hc g=>aG.gpB g fun hfr g=>?_
 cases gens with
 | nil=>exact g.stuck
 | cons g0 rest =>
 refine aG.gpB (b:=iF true g0) (x:=gp (rest.all (iF false)) _) g fun hg0 g=>aG.gpB g fun hg1 g=>?_
 obtain⟨hkind,hcell,hnames⟩:=AY hc
 have hfree:∀ n,(n,NameKind.free) ∈ sc.names→(F.env.cells.lookup n).isSome=true:=fun n hn=>by
  obtain⟨u,hu⟩:=Option.isSome_iff_exists.mp (Gj (gY hfr hn) rfl)
  exact Rr.ix.celd n u hu
 have ha:=(jH hg0).1
 obtain⟨target,iter,ifs,asy⟩:=g0
 subst ha
 rw[jX]at g
 have key:=uA (fz:=false) hK (hI H) hF (Q:=fun itv s₂=>wpAny (model pw Γ.w) F.A (newList []) (fun acc s₃=>wpAny (model pw Γ.w) F.A (newFunctionEnv sc F.env.globals (oK F.env sc.names []) [] F.env.qual none .none (some F.env)) (fun cenv s₄ =>
    codeAny (model pw Γ.w) F.A (.compStart (.ListComp elt (⟨target,iter,ifs,0⟩::rest) sc pos) 0 itv acc { cenv with scope:=relabel sc F.env }) (compPost (model pw Γ.w) F.A E use Q acc cenv.locals) s₄) E s₃) E s₂) (E:=E) o Rr g ?_
 ·show wpAny _ _ (comprehension _ sc F.env _ (newList []) false (eval iter F.env) use) _ _ _
  exact wpAny_comprehension_free rfl (fun x=>pO key.1 _ x) (Ao hfree) hkind hnames key.2
 intro xs st₁ c₁ s₁ _ l₁ o₁ z₁ g I s₂ Stt Pv fp itr oP iB iH iw R₂ z₂
 rw[jX]at g
 refine aG.calmB g fun r hcomp g=>aG.gpB g fun hz g=>aG.gpB g fun hgok g=>aG.gpB g fun hle g=>?_
 have hle:=Nat.le_of_ble_eq_true hle
 have fin:=fin _ _ c₁ s₁ l₁ z₁ g
 refine wpAny_newObj_type (wpAny_newFunctionEnv hcell (fun y hy=>absurd hy List.not_mem_nil) (fun h₁ hns₁ hsb₁=>?_) hkind)
 dsimp only at hns₁ hsb₁ ⊢
 generalize hH2:s₂.heap.push { cls:=.type "list",dict:=none,data:=.seq ([]:List Value).toArray }=H2 at hns₁ hsb₁ ⊢
 have hC:H2.objs.size=s₂.heap.objs.size + 1:=by rw[← hH2,Heap.size_push]
 have below:∀ {b:Addr},b < s₂.heap.objs.size→b ≠ H2.objs.size:=fun hb=>by rw[hC];exact Nat.ne_of_lt (Nat.lt_succ_of_lt hb)
 have gr:aY s₂.heap h₁:=fun b ob e=>hsb₁.extBut b ob (below (Heap.lt_size e)) (Heap.get?_push_of_some _ (hH2 ▸ Heap.get?_push_of_some _ e))
 have nC:s₂.heap.get? H2.objs.size=none:=by
  cases q:s₂.heap.get? H2.objs.size with
  | none=>rfl
  | some ob=>exact absurd rfl (below (Heap.lt_size q))
 have neDC:s₂.heap.objs.size ≠ H2.objs.size:=by rw[hC];exact Nat.ne_of_lt (Nat.lt_succ_self _)
 obtain⟨cB,cH,cw⟩:=R₂.free nC
 obtain⟨dB,dH,dw⟩:=R₂.none_of_size
 have eD:h₁.get? s₂.heap.objs.size=some (PySem.W.listOf ([]:List Value).toArray 0):=hsb₁.extBut _ _ neDC (Heap.get?_push_of_some _ (hH2 ▸ Heap.get?_push_size _ rfl))
 have ltI:I < s₂.heap.objs.size:=(itr.obj 0 _ oP).elim fun ob e=>Heap.lt_size e
 have hidn:∀ {a:Addr},c₁.ow a=none→H a=none→PM.mix H (dR c₁ s₂.heap) a=none:=fun q z=>PM.mixN' (fun o e=>ob e fun t e _=>nk3 (q.symm.trans e)) z
 have own:∀ {a:Addr},a ≠ H2.objs.size→c₁.ow a=none→(c₁.comp F.env.locals H2.objs.size).ow a=none:=fun ne q=>(eZ (f:=lZ c₁) ne).trans (HC q)
 have R₀:=R₂.comp (sc:=sc) (C:=H2.objs.size) (cenv:=compEnvC sc (oK F.env sc.names []) H2.objs.size F.env) gr rfl rfl hns₁ nC hfree
 have o₀:=o₁.comp (C:=H2.objs.size) (cenv:=compEnvC sc (oK F.env sc.names []) H2.objs.size F.env) R₂
 have hF₀:=hF.comp (sc:=sc) (cl:=oK F.env sc.names []) (C:=H2.objs.size) hkind hcell
 have foot₀:∀ b,Aa false c₁ b→u9 (PM.mix H (dR c₁ s₂.heap)) (c₁.comp F.env.locals H2.objs.size) b:=fun b q=>by
  obtain⟨_,kk,e⟩:=q
  obtain⟨ob,hob,_⟩:=R₂.owG e
  exact⟨ob,PM.mix_r ((kC e rfl).trans hob),fun z=>(List.mem_cons.mp z).elim (fun z=>by rw[z,R₂.ix.loc]at e;cases e) (R₂.noFs (R₂.owH e))⟩
 have itr₀:lV Γ.w F.A (u9 (PM.mix H (dR c₁ s₂.heap)) (c₁.comp F.env.locals H2.objs.size)) (c₁.comp F.env.locals H2.objs.size) I xs Stt Pv fp:=⟨itr.walks,itr.obj,fun b hb=>(itr.foot b hb).imp id fun q=>q.imp id (foot₀ b),itr.val⟩
 have st1:Stt 0 h₁:=itr.walks.frame 0 _ _ oP fun b _ ob e=>gr b ob e
 refine wD (g:=⟨target,iter,ifs,0⟩) rfl rfl ?_ fun Q' E' q'=>itr.walks.self 0 _ Q' E' st1 q'
 refine CE (F:=⟨F.A,compEnvC sc (oK F.env sc.names []) H2.objs.size F.env,F.fenv,F.outer,true⟩) hK hI hF₀ rest (k:=0) rfl hg0 hg1 o₀ R₀ itr₀ st1 iB (hidn iw iH) (own (below ltI) iw)
  ⟨dB,hidn dw dH,own neDC dw,[],0,eD,.nil⟩ (Nat.ne_of_gt ltI) r (fun s'=>compPost (model pw Γ.w) F.A E use Q (.ref s₂.heap.objs.size) H2.objs.size (.ok .next) s') hcomp (cY hz) (fun c₆ s₆ l₆ R₆ ac₆ z₆=>?_) fun s' k=>k
 obtain⟨us,n,eus,fus⟩:=ac₆.obj
 obtain⟨l₇,R₇⟩:=R₂.back R₆ l₆.b l₆.s l₆.fs.symm (m:=r.2.g.length) hle (Nat.le_refl _) (by rw[List.take_length];exact hgok)
 rw[List.take_length]at R₇
 have ow6C:c₆.ow H2.objs.size=some .v:=R₆.ix.loc
 obtain⟨R₈,l₈,B₈⟩:=R₇.freezeAt (.refl _) eus ac₆.B dH (Do (.inl ac₆.ow) dw)
 obtain⟨o6,e6,_,es6,ep6,q6,k6,_⟩:=R₆.owG ow6C
 exact fin _ _ _ _ _ (l₇.trans l₈) (o₁.mono _ (l₇.trans l₈)) R₈ (.f (.lst B₈ (fus.mono l₈.b))) ⟨o6,es6,ep6,e6,q6,k6,fun _=>rfl⟩ ((eZ (Ne.symm neDC)).trans (R₆.owB ow6C)) cH (Do (.inr ow6C) cw) (z₂.trans (aS.trans ⟨rfl,rfl⟩ z₆))
theorem AO (hK:cW Γ.w Γ.K Γ.T) (hI:∀ H,cD Γ H ih) (hF:aV Γ F cx) {elt:Expr}{gens:List Comprehension}{sc:Scope}{pos:Pos}:TG Γ (aH Γ.w) H F st (vP Γ.T ih cx elt gens sc st) (eval (.ListComp elt gens sc pos) F.env):=by
 intro c s Q E o R g
 rw[eval_ListComp]
 refine uP (k:=.ok) (V:=aH Γ.w) (Q₀:=Q) hK hI hF o R (by rw[JL];exact g) fun x st' c' s₁ l z g a C s' m c'' l' o' R' p hN hB hH hw z'=>?_
 exact⟨m,hN,fun h' hs=>g.done' l' (R'.but (fun b ob hb e=>(hs.2 b hb).trans e) hB hH hw) p (z'.trans ⟨rfl,rfl⟩)⟩
theorem Hp (hK:cW Γ.w Γ.K Γ.T) (hE:∀ H,cD Γ H (E0 Γ.T)) (hI:∀ H,cD Γ H ih) (hF:aV Γ F cx) {t elt:Expr}{gens:List Comprehension}{sc:Scope}{pos p:Pos} (ht:(gG t).isSome=true) :
  TG Γ (VF Γ.w) H F st (((vP Γ.T ih cx elt gens sc st).bind fun r=>pB Γ.T cx 4 t r.1 r.2).bind fun r=>.ok (.next,r.2)) (exec (.Assign [t] (.ListComp elt gens sc pos) p) F.env):=by
 intro c s Q E o R g
 have g:=aG.un g
 obtain⟨n,hn⟩:=Option.isSome_iff_exists.mp ht
 obtain⟨np,rfl⟩:=d4 hn
 cases hb:(F.env.blockKind == .function&&F.env.kindOf n == some .local&&np.line == pos.line&&!(sc.names.any fun (k,v)=>k == n&&(v == .local||v == .cell))) with
 | false =>
  refine wpAny_Assign_stores (aG.bind g (AO hK hI hF) o R fun w₁ st₁ c₁ v₁ s₁ _ l₁ o₁ R₁ p₁ z₁ g=>?_) (congrArg pure hb) rfl
  exact sO hK (hE H) 4 F cx (.Name n np) w₁ st₁ v₁ c₁ s₁ _ E hF o₁ R₁ p₁ g
 | true =>
  rw[exec_Assign_arm]
  refine wpAny_bind (wpAny_standAt ?_)
  rw[show swapsWithSole [.Name n np] (.ListComp elt gens sc pos) p.line F.env=pure true from congrArg pure hb]
  refine wpAny_bind (wpAny_pure ?_)
  rw[if_pos rfl]
  have key:=uP (pos:=pos) (use:=some fun v=>assign (.Name n np) F.env v) (Q:=fun _ s'=>Q .next s') hK hI hF o R g fun x st' c' s₁ l z g a C s' m c'' l' o' R' px hN hB hH hw z'=>?_
  ·show wpAny _ _ (do (do let _ ← comprehension (.ListComp elt gens sc pos) sc F.env (firstIterPos gens pos) (newList []) (firstAsync gens) (firstIter gens F.env) (some fun v=>assign (.Name n np) F.env v));pure Flow.next) Q E s
   exact wpAny_bind (wpAny_bind (wpAny_mono key (fun _ s' q=>wpAny_pure (wpAny_pure q)) fun _ _ z=>z))
  obtain⟨ob,es,ep,eC,r⟩:=id hN
  obtain⟨dj,R₁,back⟩:=R'.hideO eC hB hH hw
  have g:=g.mono l' z'
  show wpAny _ _ (assign (.Name n np) F.env a) _ _ _
  refine sO hK (hE _) 4 F cx (.Name n np) x st' a c'' s' _ E hF (o'.hide dj) R₁ px ⟨fun b st₂ e c₂ u s₂ l₂ R₂ v₂ z₂=>?_,g.raise,g.go⟩
  obtain⟨R₃,eC',hB',hw'⟩:=back l₂ R₂
  exact⟨m,⟨ob,es,ep,eC',r⟩,fun h' hs'=>g.ok b st₂ e c₂ u _ l₂ (R₃.but (fun b ob hb e=>(hs'.2 b hb).trans e) hB' hH hw') v₂ (z₂.trans ⟨rfl,rfl⟩)⟩
end
end Mine
end
section
namespace Mine
theorem RY (C:Addr) (rest:List Value):(Code.builtin "type.__call__" ⟨.ref C::rest,[]⟩).weight=1:=by kernel_rfl
theorem Qc (C:Addr) (rest:List Value):(Code.builtin "type.__call__" ⟨.ref C::rest,[]⟩).cUnits=1:=by kernel_rfl
theorem SB (A:Around) (C:Addr) (rest:List Value):(A.under (Code.builtin "type.__call__" ⟨.ref C::rest,[]⟩)).frames=A.frames:=by kernel_rfl
theorem Rn (A:Around) (C:Addr) (rest:List Value):(A.under (Code.builtin "type.__call__" ⟨.ref C::rest,[]⟩)).handled=A.handled:=by kernel_rfl
section
variable {w:World}{H:PM}{c:Cf}{st:St}{env:Env}{h h':Heap}{v:Value}
theorem iD.mono {B B':PM} (l:B.le B') {fs:List (Str × FV)}:∀ {es:List DictEntry},iD w B es fs→iD w B' es fs:=by
 induction fs with
 | nil=>exact fun h=>h
 | cons x r ih=>exact fun {es} (h:∃ e r',es=e::r'∧((∃ t,e.key=.str x.1 t)∧aO w B e.val x.2)∧iD w B r' r)=>h.imp fun e h=>h.imp fun r h=>⟨h.1,⟨h.2.1.1,h.2.1.2.mono l⟩,ih h.2.2⟩
theorem aC.freezeI (R:aC w H env c st h) {a d C n:Nat}{es:List DictEntry}{ys:List (Str × FV)} (h1:h.get? a=some (instObj C d)) (h2:h.get? d=some (dictOf es n)) (p:iD w c.B es ys) (f1:c.B a=none∧H a=none∧c.ow a=none) (f2:c.B d=none∧H d=none∧c.ow d=none) :
  ∃ c',c.le c'∧aC w H env c' st h∧aO w c'.B (.ref a) (.obj C ys):=by
 have ne:a ≠ d:=fun z=>by rw[z,h2]at h1;cases h1
 obtain⟨R₇,l₇,B₇⟩:=R.freezeAt (.refl _) h2 f2.1 f2.2.1 f2.2.2
 obtain⟨R₈,l₈,B₈⟩:=R₇.freezeAt (.refl _) h1 ((eZ ne).trans f1.1) f1.2.1 f1.2.2
 exact⟨_,l₇.trans l₈,R₈,.obj B₈ (l₈.b _ _ B₇) (iD.mono (l₇.trans l₈).b p)⟩
noncomputable def Cf.inst (c:Cf) (a d k:Nat):Cf:={ c with ow:=iN (iN c.ow d (some (.d k))) a (some (.g k)),S:=c.S++[.o a d] }
theorem aC.newInst (R:aC w H env c st h) {C:Addr}:c.le (c.inst (h.objs.size + 1) h.objs.size st.g.length)∧aC w H env (c.inst (h.objs.size + 1) h.objs.size st.g.length) { st with g:=st.g++[.inst C []] } ((h.push emptyDict).push (instObj C h.objs.size))∧aH w (c.inst (h.objs.size + 1) h.objs.size st.g.length) (.ref (h.objs.size + 1)) (.ref st.g.length):=by
 have ne:h.objs.size + 1 ≠ h.objs.size:=Nat.ne_of_gt (Nat.lt_succ_self _)
 have e1:h.get? (h.objs.size + 1)=none:=by
  cases q:h.get? (h.objs.size + 1) with
  | none=>rfl
  | some ob=>exact absurd (Heap.lt_size q) (Nat.not_lt.mpr (Nat.le_succ _))
 have nd:=R.none_of_size.2.2
 have na:=(R.free e1).2.2
 have l:c.le (c.inst (h.objs.size + 1) h.objs.size st.g.length):=⟨.refl _,List.prefix_append _ _,List.prefix_refl _,rfl,rfl⟩
 have how:∀ b t,c.ow b=some t→(c.inst (h.objs.size + 1) h.objs.size st.g.length).ow b=some t:=fun b t e=>qL ((eZ ne).trans na) (qL nd e)
 have gD:((h.push emptyDict).push (instObj C h.objs.size)).get? h.objs.size=some emptyDict:=Heap.get?_push_of_some _ (Heap.get?_push_size _ rfl)
 have gI:((h.push emptyDict).push (instObj C h.objs.size)).get? (h.objs.size + 1)=some (instObj C h.objs.size):=Heap.size_push (h:=h) (o:=emptyDict) ▸ Heap.get?_push_size (h.push emptyDict) (o:=instObj C h.objs.size) rfl
 have hS:(c.inst (h.objs.size + 1) h.objs.size st.g.length).S[st.g.length]? = some (.o (h.objs.size + 1) h.objs.size):=R.ix.gl ▸ n6
 have lg:∀ {m:MO}{P:Prop},st.g[st.g.length]? = some m→P:=fun e=>absurd (dJ e) (Nat.lt_irrefl _)
 refine⟨l,R.ext l rfl ((aY.push _ _).trans (aY.push _ _)) how (fun b o t eb q=>?_) (fun b t e=>jS (f:=iN c.ow h.objs.size (some (.d st.g.length))) e (fun z1 z2=>.inr (by rw[z1,← Option.some.inj z2];exact⟨e1,_,gI,Own.gI hS rfl fun mo e=>cU e lg fun _ e=>e ▸ jE.instI⟩)) fun _ e=>jS e (fun z1 z2=>.inr (by rw[z1,← Option.some.inj z2];exact⟨get?_size h,_,gD,Own.dI hS fun C fs e=>cU e lg fun _ e=>⟨[],0,rfl,by cases e;exact hJ.nil⟩⟩)) fun _=>.inl)
  ⟨how _ _ R.ix.loc,fun x b e=>(R.ix.cel x b e).up l how,R.ix.celd,(List.length_append ..).trans ((congrArg (· + 1) R.ix.gl).trans (List.length_append (as:=st.g) (bs:=[_])).symm),fun k sl e=>cU e (fun e=>(R.ix.g k sl e).up how) fun z e=>?_,R.ix.ll,fun k a xs e1 e2=>how _ _ (R.ix.l k a xs e1 e2),R.ix.nol⟩,aH.ref hS⟩
 ·cases t with
  | g k=>exact Exists.imp (fun sl q=>⟨q.1,q.2.1,fun mo e=>cU e (q.2.2 mo) fun z e=>by have z2:=q.1;rw[z,hS]at z2;rw[← Option.some.inj z2]at q;rw[← show h.objs.size + 1=b from q.2.1,na]at eb;exact nk3 eb⟩) q
  | d k=>exact Exists.imp (fun a' q=>⟨q.1,fun C fs e=>cU e (q.2 C fs) fun z _=>by have z2:=q.1;rw[z,hS]at z2;injection z2 with z2;injection z2 with _ z2;rw[← z2,nd]at eb;exact nk3 eb⟩) q
  | _=>exact q
 ·subst e
  rw[z,R.ix.gl]
  exact⟨gS,(eZ (Ne.symm ne)).trans gS⟩
noncomputable def bY.low (m:Nat) (t:bY):Option bY:=@bY.rec (fun _=>Option bY) (some .v) (fun x=>some (.c x)) (fun k=>gd (Nat.blt k m) (some (.g k))) (fun k=>gd (Nat.blt k m) (some (.d k))) (fun k=>some (.l k)) t
noncomputable def Cf.low (c:Cf) (m:Nat):Cf:={ c with ow:=fun a=>(c.ow a).bind (bY.low m),S:=c.S.take m }
theorem aH.low {m:Nat}{x:PV} (p:aH w c v x) (h:∀ k,x=.ref k→k < m):aH w (c.low m) v x:=by
 cases x with
 | ref k=>exact p.refI.imp fun s q=>⟨q.1,(dM (h k rfl)).trans q.2⟩
 | _=>exact p
theorem aH.lt {x:PV} (p:aH w c v x) (k:Nat) (e:x=.ref k):k < c.S.length:=by
 subst e
 exact p.refI.elim fun s q=>dJ q.2
theorem kT {a:Addr}{t:bY}{m:Nat} (e:c.ow a=some t):(c.low m).ow a=t.low m:=by show(c.ow a).bind _=_;rw[e];rfl
theorem Gi {k m:Nat} (h:k < m):Nat.blt k m=true:=Nat.ble_eq_true_of_le h
theorem aC.low (R:aC w H env c st h) {m:Nat} (hm:m ≤ st.g.length) (ok:mT m (st.g.take m)=true) (hv:∀ x u,lk x st.v=some u→∀ k,u=.ref k→k < m) (hc:∀ x u,lk x st.c=some u→∀ k,u=.ref k→k < m):aC w H env (c.low m) { st with g:=st.g.take m } h:=by
 have tl:∀ {α:Type}{l:List α}{k:Nat}{x:α},(l.take m)[k]? = some x→k < m:=fun e=>Nat.lt_of_lt_of_le (dJ e) (List.length_take_le _ _)
 have cof:∀ {x:Str}{o:Obj},jK w c st.c x o→jK w (c.low m) st.c x o:=fun {x o} q=>q.imp fun v₀ q=>⟨q.1,fun u e=>(q.2 u e).imp fun v q=>⟨q.1,q.2.low (hc x u e)⟩⟩
 have kg:∀ {a:Addr}{k:Nat},k < m→c.ow a=some (.g k)→(c.low m).ow a=some (.g k):=fun hk e=>(kT e).trans (by show gd _ _=_;rw[Gi hk];rfl)
 refine⟨R.b,R.bh,R.hh,R.fsH,fun a t e=>ob e fun t' q e=>?_,kT R.ix.loc,fun x a e=>(R.ix.cel x a e).imp kT fun q=>⟨q.1,q.2.imp fun o q=>⟨q.1,cof q.2⟩⟩,R.ix.celd,?_,fun k sl e=>?_,R.ix.ll,fun k a xs e1 e2=>kT (R.ix.l k a xs e1 e2),R.ix.nol⟩
 ·have fin:∀ {P:Obj→Prop},(∀ o,Own w env c st a o t'→P o)→c.B a=none∧H a=none∧∃ o,h.get? a=some o∧P o:=fun f=>⟨R.owB q,R.owH q,(R.owG q).imp fun o p=>⟨p.1,f o p.2⟩⟩
  cases t' with
  | v=>exact Option.some.inj e ▸ fin fun o p=>⟨p.1,p.2.imp fun es p=>p.imp fun ep p=>⟨p.1,p.2.1,fun x u e=>(p.2.2 x u e).imp fun v q=>⟨q.1,q.2.low (hv x u e)⟩⟩⟩
  | c x=>exact Option.some.inj e ▸ fin fun o p=>⟨p.1,cof p.2⟩
  | g k=>exact aD e fun hk e=>Option.some.inj e ▸ fin fun o p=>Exists.imp (fun sl p=>⟨(dM (eK hk)).trans p.1,p.2.1,fun m' e=>jE.mono (.refl _) (p.2.2 m' ((dM (eK hk)).symm.trans e))⟩) p
  | d k=>exact aD e fun hk e=>Option.some.inj e ▸ fin fun o p=>Exists.imp (fun a' p=>⟨(dM (eK hk)).trans p.1,fun C fs e=>(p.2 C fs ((dM (eK hk)).symm.trans e)).imp fun es q=>q.imp fun n q=>⟨q.1,hJ.map (fun x u hx p=>p.low fun k e'=>eK (n:=k) (by have z:=rU (uC ok e) x hx;rw[e']at z;exact z)) q.2⟩⟩) p
  | l k=>exact Option.some.inj e ▸ fin fun o p=>p
 ·show(c.S.take m).length=(st.g.take m).length
  rw[List.length_take,List.length_take,R.ix.gl]
 ·have hk:=tl e
  have:=R.ix.g k sl ((dM hk).symm.trans e)
  cases sl with
  | o a d=>exact⟨kg hk this.1,(kT this.2).trans (by show gd _ _=_;rw[Gi hk];rfl)⟩
  | l a=>exact kg hk this
end
section
variable {Γ:Gm}{H:PM}{F:Fr}{cx:Cx}{c:Cf}{s:Shared}{st:St}{Q:Value→Shared→Prop}{E:Value→Shared→Prop}
theorem CP {v:Value}{x:PV} (p:aH Γ.w c v x) (h:isNone x=true):v=.none:=by
 cases x with
 | f y=>rw[yL h]at p;exact p
 | _=>exact nk6 h
theorem NO {A:Around}{cd:Code}{x:Addr} (h:codeAny (model pw Γ.w) A cd (BY (fun v s'=>v=.none∧Q (.ref x) s') E) s):codeAny (model pw Γ.w) A cd (InitBack x (BY Q E)) s :=
 codeAny_mono h fun r s' z=>by
  rcases r with e | (v | _ | _ | _)
  ·exact z
  ·exact z
  ·exact z
  ·exact z
  ·exact z
theorem Fo (hK:cW Γ.w Γ.K Γ.T) (hC:fH Γ.w Γ.K Γ.T Γ.n Γ.C) (hF:aV Γ F cx) (o:Ok Γ H F c) (R:aC Γ.w H F.env c st s.heap) {a:Nat}{p:Bool × Nat}{vs:List Value}{ws:List PV} (hc:iS a Γ.T.clss=some p) (ps:aX Γ.w c vs ws)
  (g:aG Γ (aH Γ.w) H F (HK cx a p.1 p.2 ws st) c s Q E):wpAny (model pw Γ.w) F.A (call (.ref a) vs) Q E s:=by
 obtain⟨k1,k2,k3,k4⟩:=hK.clsK a p hc
 refine g.opt fun r hr g=>?_
 obtain⟨c₂,l₂,R₂,p₂⟩:=rP R ps hr
 have o₂:=o.mono _ l₂
 have KI:=o₂.kin R₂
 have g:=g.mono l₂ (.refl s)
 obtain⟨l₃,R₃,p₃⟩:=R₂.newInst (C:=a)
 refine wpAny_call (make_core (makes_of KI k2) (looks_findIn KI k3) (fun self=>bind_fn KI self k4) (.inl rfl) (NO ?_))
 replace g:aG Γ (aH Γ.w) H F ((qC cx.f p.2 (.ref r.2.g.length::r.1) (r.2.g++[.inst a []]) fun q=>.ok (q.1,{ r.2 with g:=q.2 })).bind fun q=>opt (AS p.1 r.2 (q.1,q.2.g)) .ok) c₂ s Q E:=g
 have g₃:=g.mono l₃ (s':=⟨(s.heap.push emptyDict).push (instObj a s.heap.objs.size),s.gens,s.drawn,s.toks,s.os⟩) ⟨rfl,rfl⟩
 refine aG.bindC (V₁:=aH Γ.w) g₃ (hC _ Γ.X H F { r.2 with g:=r.2.g++[.inst a []] } cx.f p.2 _ _ _ _ _ E ((SB _ _ _).trans hF.frames) ((Rn _ _ _).trans hF.handled) ?_ ?_ (o₂.mono _ l₃) R₃ (.cons p₃ (p₂.mono l₃))) (o₂.mono _ l₃) fun b st' c' u s' e l o' R' pu z _=>?_
 ·show F.A.depth + _ + _ + _ ≤ _
  rw[RY]
  have:=hF.depth
  omega
 ·show F.A.units + _ + _ + _ ≤ _
  rw[Qc]
  have:=hF.units
  omega
 obtain⟨g',rfl⟩:∃ g',st'={ r.2 with g:=g' }:=OO e fun q _ e=>dK (mO e) fun _ e2=>⟨q.2,e2.symm⟩
 have g:=g.step e (.refl c₂) (s':=s') (aS.trans ⟨rfl,rfl⟩ z)
 refine g.opt fun y hy g=>aD hy fun hn hy=>⟨CP pu hn,?_⟩
 cases hz:p.1 with
 | false =>
  rw[hz]at hy
  rw[← Option.some.inj hy]at g
  exact aG.done' g (l₃.trans l) R' (p₃.mono l) (.refl s')
 | true =>
  rw[hz]at hy
  refine ob hy fun z hz hy=>aD hz fun h1 hz=>aD hz fun h2 hz=>ob hz fun q hq hz=>ob hz fun ys hys hz=>?_
  rw[← Option.some.inj hy,← Option.some.inj hz]at g
  have gl:c₂.S.length=r.2.g.length:=R₂.ix.gl
  have lt:∀ {v:Value}{u:PV},aH Γ.w c₂ v u→∀ k,u=.ref k→k < r.2.g.length:=fun p k e=>gl ▸ p.lt k e
  have R₆:=aC.low (m:=r.2.g.length) R' (by have z:=Nat.eq_of_beq_eq_true h1;show _ ≤ g'.length;rw[z];exact Nat.le_succ _) h2 (fun x u e=>by
    obtain⟨o,_,_,es,ep,_,_,q⟩:=R₂.owG R₂.ix.loc
    exact(q x u e).elim fun v q=>lt q.2) fun x u e=>by
    obtain⟨a,ha⟩:=Option.isSome_iff_exists.mp (R₂.ix.celd x u e)
    have f:∀ {o:Obj},jK Γ.w c₂ r.2.c x o→∀ k,u=.ref k→k < r.2.g.length:=fun q=>q.elim fun v₀ q=>(q.2 u e).elim fun v q=>lt q.2
    exact(R₂.ix.cel x a ha).elim (fun q=>(R₂.owG q).elim fun o q=>f q.2.2) fun q=>q.2.elim fun o q=>f q.2
  have l₆:c₂.le (c'.low r.2.g.length):=by
   have ll:=l₃.trans l
   refine⟨ll.b,?_,ll.l,ll.ro,ll.fs⟩
   obtain⟨t,ht⟩:=ll.s
   show c₂.S <+: c'.S.take r.2.g.length
   rw[← ht,List.take_append,List.take_of_length_le (Nat.le_of_eq gl)]
   exact List.prefix_append _ _
  have nlt:Nat.blt r.2.g.length r.2.g.length=false:=Bool.eq_false_iff.mpr fun z=>Nat.lt_irrefl _ (eK z)
  refine aC.iE (P:=fun v=>Q v s') (x:=.ref r.2.g.length) R' (p₃.mono l) rfl hq fun b d es n hS b1 b2 b3 b4 b5=>?_
  have nb:(c'.low r.2.g.length).ow b=none:=(kT b1).trans (by show gd _ _=_;rw[nlt];rfl)
  have nd:(c'.low r.2.g.length).ow d=none:=(kT b2).trans (by show gd _ _=_;rw[nlt];rfl)
  obtain⟨c₈,l₈,R₈,f₈⟩:=R₆.freezeI b3 b4 (b5.frozen hys) ⟨R'.owB b1,R'.owH b1,nb⟩ ⟨R'.owB b2,R'.owH b2,nd⟩
  exact aG.done' g (l₆.trans l₈) R₈ (.f f₈) (.refl s')
theorem FW (hK:cW Γ.w Γ.K Γ.T) (hC:fH Γ.w Γ.K Γ.T Γ.n Γ.C) (hF:aV Γ F cx) (o:Ok Γ H F c) (R:aC Γ.w H F.env c st s.heap) {v:Value}{fv:FV}{line:Nat}{vs:List Value}{ws:List PV} (pv:aO Γ.w c.B v fv) (ps:aX Γ.w c vs ws)
  (g:aG Γ (aH Γ.w) H F (v0 Γ.T cx fv line ws st) c s Q E):wpAny (model pw Γ.w) F.A (call v vs) Q E s:=by
 cases fv with
 | typ n=>rw[show v=.type n.id from pv];exact aG.qS (V:=aH Γ.w) g fun y st' hy g=>N1 R ps hy fun c' u s' l R' p z=>aG.done' g l R' p z
 | blt n=>rw[show v=.builtin n.id from pv];exact aG.qV g fun y hy g=>Mr hK hF.handled o R ps hy fun u s' R' p z=>aG.done' g (.refl _) R' p z
 | top a =>
  rw[show v=.ref a from pv]
  exact g.oe (fun p hp g=>Fo hK hC hF o R hp ps g) fun _ g=>g.opt fun _ _ g=>GY (pre:=[]) hC hF o R ps .nil g
 | _=>exact g.stuck
end
end Mine
end
section
namespace Mine
noncomputable def sA (h h':Heap) (us:List Value):List Value→List Value→Prop:=@List.rec Value (fun _=>List Value→List Value→Prop) (fun _ ws=>ws=[]) (fun a _ ih vs=>@List.rec Value (fun _=>List Value→Prop) (fun ws=>ws=[]) (fun b vs _ ws=>∃ T k r,ws=.ref T::r∧h.get? T=none∧h'.get? T=some { cls:=.type "tuple",data:=.seq #[a,b] k }∧ih vs r) vs) us
noncomputable def wJ (w:World):Prop:=∀ {A:Around}{s:Shared}{la lb:Addr}{us vs:List Value}{n m:Nat}{Q:Value→Shared→Prop}{E:Value→Shared→Prop},A.handled=none→s.heap.get? la=some (PySem.W.listOf us.toArray n)→s.heap.get? lb=some (PySem.W.listOf vs.toArray m)→us.length ≤ sizeLine→vs.length ≤ sizeLine →
 (∀ s' D k ws,aS s s'→aY s.heap s'.heap→s.heap.get? D=none→s'.heap.get? D=some (PySem.W.listOf ws.toArray k)→sA s.heap s'.heap us vs ws→Q (.ref D) s') →
 wpAny (model pw w) A (call (.type "zip") [.ref la,.ref lb]) (fun z s₁=>wpAny (model pw w) A (call (.type "list") [z]) Q E s₁) E s
section
variable {w:World}{H:PM}{c:Cf}{st:St}{env:Env}{h h':Heap}
noncomputable def nZ (B:PM) (h h':Heap):PM:=fun a=>oe (h.get? a) (fun _=>B a) (h'.get? a)
theorem D2 {B:PM}{a:Addr}{o:Obj} (e:h.get? a=some o):nZ B h h' a=B a:=by unfold nZ;rw[e];rfl
theorem xS {B:PM}{a:Addr} (e:h.get? a=none):nZ B h h' a=h'.get? a:=by unfold nZ;rw[e];rfl
theorem aC.freezeNew (R:aC w H env c st h) (g:aY h h'):c.le { c with B:=nZ c.B h h' }∧aC w H env { c with B:=nZ c.B h h' } st h' :=
 R.frz g (fun a o e=>(D2 (R.b a o e)).trans e) fun a o e=>by
  cases q:h.get? a with
  | none=>exact⟨(xS q).symm.trans e,(R.free q).2⟩
  | some o' =>
   have e:=(D2 q).symm.trans e
   refine⟨g _ _ (R.b a o e),R.bh a o e,?_⟩
   cases y:c.ow a with
   | none=>rfl
   | some t=>exact nk3 ((R.owB y).symm.trans e)
theorem sA.frz {B:PM}{xs:List FV}:∀ {us vs ws:List Value}{ys:List FV},sA h h' us vs ws→aQ w (nZ B h h') us xs→aQ w (nZ B h h') vs ys→aQ w (nZ B h h') ws (eX xs ys):=by
 induction xs with
 | nil=>intro us vs ws ys t a b;obtain rfl:=a.n;exact t
 | cons x xs ih =>
  intro us vs ws ys t a b
  obtain⟨v,us,rfl,a1,a2⟩:=a.c
  cases ys with
  | nil=>obtain rfl:=b.n;exact t
  | cons y ys =>
   obtain⟨u,vs,rfl,b1,b2⟩:=b.c
   obtain⟨T,k,r,rfl,e1,e2,t⟩:=t
   exact .cons (.tup (us:=[_,_]) ((xS e1).trans e2) (.cons a1 (.cons b1 .nil))) (ih t a2 b2)
end
section
variable {Γ:Gm}{H:PM}{F:Fr}{cx:Cx}{c:Cf}{s:Shared}{st:St}{ih:Cx→Expr→St→Pg (PV × St)}
theorem OG {o:Option Ty}{p:Ty→Bool} (h:oe o p false=true):∃ t,o=some t∧p t=true:=by
 cases o with
 | none=>exact nk6 h
 | some t=>exact⟨t,rfl,h⟩
theorem y5 {x:FV}{args:List Expr}{q:Expr × Expr} (e:z3 Γ.T cx x args st=some q):x=.typ .list∧∃ k p pos,args=[.Call (.Name k p) [q.1,q.2] [] pos]∧bO q.1=true∧bO q.2=true∧gR Γ.T cx k st=some (.f (.typ .zip)) :=
 aD e fun h1 e=>ob e fun z h2 e=>ob e fun y h3 e=>aD e fun h4 e=>ob h2 fun e1 he1 h2=>ob h2 fun cl hcl h2=>ob h2 fun k hk h2=>ob h2 fun pr hpr h2=>aD h2 fun h5 h2=>aD h2 fun h6 h2=>aD h2 fun h7 h2=>by
  obtain⟨t,ht,hp⟩:=OG h1
  obtain⟨t',ht',hp'⟩:=OG h4
  obtain⟨p,hn⟩:=d4 hk
  have e:=Option.some.inj h2 ▸ Option.some.inj e
  refine⟨?_,k,p,cl.2.2.2,?_,e ▸ h6,e ▸ h7,?_⟩
  ·rw[pJ ht]
   cases t<;>first | rfl | exact nk6 hp
  ·rw[eA he1,rR hcl,hn,bN h5,kD hpr,← e]
  ·rw[← Option.some.inj h2]at h3
   refine h3.trans (congrArg some (fK ht' fun w h1 h2=>?_))
   rw[h1,pJ h2]
   cases t'<;>first | rfl | exact nk6 hp'
theorem EZ (hK:cW Γ.w Γ.K Γ.T) (hZ:wJ Γ.w) (hC:fH Γ.w Γ.K Γ.T Γ.n Γ.C) (hI:cD Γ H ih) (hF:aV Γ F cx) {n:Str}{np p:Pos}{args:List Expr}:TG Γ (aH Γ.w) H F st (Cl Γ.T ih cx n args p.line st) (eval (.Call (.Name n np) args [] p) F.env) :=
 fun c s Q E o R g=>g.gp fun ha g=>g.gp fun _ g=>g.opt fun w₀ h₀ g=>g.f fun x hx g=>by
  subst hx
  refine lR ?_
  refine pM hK hF o R h₀ fun v fv=>?_
  refine g.oe (fun ab hz g₁=>?_) fun hz g₁=>?_
  ·obtain⟨hx,k,kp,pos,hargs,pa,pb,hk⟩:=y5 hz
   rw[show v=.type "list" from(hx ▸ fv:aH Γ.w c v (.f (.typ .list)))]
   refine bM (P:=fun _=>True) ha (lK (Γ:=Γ) "list") ?_
   rw[hargs,hY rfl]
   refine iC (lR (pM hK hF o R hk fun u fu=>?_))
   rw[show u=.type "zip" from fu]
   refine bM (P:=fun _=>True) (args:=[ab.1,ab.2]) (by rw[List.all_cons,List.all_cons,pa,pb];rfl) (lK (Γ:=Γ) "zip") ?_
   rw[hY pa,hY pb]
   refine iC (aG.bind g₁ (hI F cx ab.1 st hF) o R fun w₁ st₁ c₁ v₁ s₂ _ l₁ o₁ R₁ p₁ z₁ g=>?_)
   refine iC (aG.bind g (hI F cx ab.2 st₁ hF) o₁ R₁ fun w₂ st₂ c₂ v₂ s₃ _ l₂ o₂ R₂ p₂ z₂ g=>wpAny_pure ⟨trivial,g.opt fun xs hx g=>g.opt fun ys hy g=>aG.qS (V:=aH Γ.w) g fun y st' hy' g=>aD hy' fun f1 hy'=>aD hy' fun f2 hy'=>aD hy' fun _ hy'=>?_⟩)
   refine R₂.itE (p₁.mono l₂) hx fun la us n1 e1 r1=>R₂.itE p₂ hy fun lb vs n2 e2 r2=>?_
   refine wpAny_mono (hZ hF.handled e1 e2 (r1.length ▸ cY f1) (r2.length ▸ cY f2) fun s₄ D kk ws z gr eD eD' tu=>?_) (fun z s₄ q=>wpAny_pure ⟨trivial,q⟩) fun _ _ z=>z
   obtain⟨l₅,R₅⟩:=R₂.freezeNew gr
   refine dK (Option.some.inj hy') fun e3 e4=>?_
   rw[← e3,← e4]at g
   exact aG.done' g l₅ R₅ (aH.f (.lst (us:=ws) (n:=kk) ((xS eD).trans eD') (tu.frz (r1.mono l₅.b) (r2.mono l₅.b)))) z
  ·have go:∀ (P:Heap→Prop),(∀ h,P h→∃ k,(k=Keeper.frame∨k=Keeper.machine∨k=Keeper.boundFrame)∧Looks (model pw Γ.w) h (keeperOf v) k)→(∀ (h:Heap) (ws:List PV) (st':St),Γ.K.In h→aN Γ.C (v0 Γ.T cx x p.line ws st') ≠ .stuck→P h) →
     wpAny (model pw Γ.w) F.A (callWith p v [] (backTo p (starEach args F.env)) []) Q E s:=fun P hk hp =>
    bM (P:=P) ha hk (aG.bind g₁ (i8 hI hF p args st) o R fun ws st₂ c₂ vs s₂ _ l₂ o₂ R₂ p₂ z₂ g=>⟨hp _ ws st₂ (o₂.kin R₂) g.go,FW hK hC hF o₂ R₂ (fv.fI.mono l₂.b) p₂ g⟩)
   have no:(∀ ws st',v0 Γ.T cx x p.line ws st'=.stuck)→wpAny (model pw Γ.w) F.A (callWith p v [] (backTo p (starEach args F.env)) []) Q E s:=fun hs=>go (fun _=>False) (fun _ z=>z.elim) fun _ ws st' _ z=>z (by rw[hs ws st'];rfl)
   cases x with
   | blt m=>exact go (fun _=>True) (by rw[show v=.builtin m.id from fv];exact eV (Γ:=Γ) m.id) fun _ _ _ _ _=>trivial
   | typ m=>exact go (fun _=>True) (by rw[show v=.type m.id from fv];exact lK (Γ:=Γ) m.id) fun _ _ _ _ _=>trivial
   | top a =>
    cases h5:iS a Γ.T.clss with
    | some q=>exact go (fun h=>Γ.K.In h) (by rw[show v=.ref a from fv];exact keeps_K (hK.clsK a q h5).1) fun _ _ _ z _=>z
    | none =>
     cases h6:iS a Γ.T.fns with
     | some q=>exact go (fun h=>Γ.K.In h) (by rw[show v=.ref a from fv];exact keeps_K (hK.fnK a q h6)) fun _ _ _ z _=>z
     | none=>exact no fun ws st'=>by show oe (iS a Γ.T.clss) _ (opt (iS a Γ.T.fns) _)=_;rw[h5,h6];rfl
   | _=>exact no fun ws st'=>rfl
end
end Mine
end
section
namespace Mine
section
variable {Γ:Gm}{H:PM}{F:Fr}{cx:Cx}{st:St}{ih:Cx→Expr→St→Pg (PV × St)}
theorem TG.oe {α β γ:Type}{V:Cf→α→β→Prop}{t:Sem α}{y:Option γ}{k:γ→Pg (β × St)}{x:Pg (β × St)} (f:∀ a,y=some a→TG Γ V H F st (k a) t) (n:y=none→TG Γ V H F st x t):TG Γ V H F st (Mine.oe y k x) t:=qM (P:=fun x=>TG Γ V H F st x t) f n
theorem TG.gp {α β:Type}{V:Cf→α→β→Prop}{t:Sem α}{b:Bool}{x:Pg (β × St)} (f:b=true→TG Γ V H F st x t):TG Γ V H F st (Mine.gp b x) t:=fun c s Q E o R g=>g.gp fun h g=>f h c s Q E o R g
theorem TG.opt {α β γ:Type}{V:Cf→α→β→Prop}{t:Sem α}{y:Option γ}{k:γ→Pg (β × St)} (f:∀ a,y=some a→TG Γ V H F st (k a) t):TG Γ V H F st (Mine.opt y k) t:=fun c s Q E o R g=>g.opt fun a h g=>f a h c s Q E o R g
theorem rO {e:Expr}{q:Expr × Str × Pos} (h:BJ e=some q):e=.Attribute q.1 q.2.1 q.2.2:=by
 cases e with
 | Attribute=>rw[← Option.some.inj h]
 | _=>exact nk3 h
theorem EC {e:Expr}{q:Option Expr × Option Expr × Option Expr} (h:Fp e=some q):∃ p,e=.Slice q.1 q.2.1 q.2.2 p:=by
 cases e with
 | Slice a b c p=>exact⟨p,by rw[← Option.some.inj h]⟩
 | _=>exact nk3 h
theorem F0 {e:Expr}{q:UnaryOp × Expr} (h:JU e=some q):∃ p,e=.UnaryOp q.1 q.2 p:=by
 cases e with
 | UnaryOp a b p=>exact⟨p,by rw[← Option.some.inj h]⟩
 | _=>exact nk3 h
theorem wI {e:Expr}{q:Const} (h:E4 e=some q):∃ k p,e=.Constant q k p:=by
 cases e with
 | Constant c k p=>exact⟨k,p,by rw[← Option.some.inj h]⟩
 | _=>exact nk3 h
theorem mH {α:Type}{o:Option α}{p:α→Bool} (h:oe o p false=true):∃ t,o=some t∧p t=true:=by
 cases o with
 | none=>exact nk6 h
 | some t=>exact⟨t,rfl,h⟩
theorem LI {α:Type}{o:Option α}{b:Bool} (h:oe o (fun _=>false) b=true):o=none∧b=true:=by
 cases o with
 | none=>exact⟨rfl,h⟩
 | some t=>exact nk6 h
theorem Ez {e:Expr} (h:FZ e=true):∃ k p q,e=.UnaryOp .USub (.Constant (.int 1) k p) q:=by
 obtain⟨u,hu,h⟩:=mH h
 obtain⟨c,hc,h⟩:=mH h
 obtain⟨h1,h2⟩:=Bool.and_eq_true_iff.mp h
 obtain⟨q,hq⟩:=F0 hu
 obtain⟨k,p,hp⟩:=wI hc
 refine⟨k,p,q,hq.trans ?_⟩
 rw[hp,show u.1=.USub by cases hh:u.1<;>rw[hh]at h1<;>first | rfl | exact nk6 h1]
 cases c with
 | int i =>
  obtain⟨n,hn,h2⟩:=mH h2
  rw[lT hn,Nat.eq_of_beq_eq_true h2];rfl
 | _=>exact nk6 h2
theorem Ik (hI:cD Γ H ih) (hF:aV Γ F cx) {o i:Expr}{p:Pos}:TG Γ (aH Γ.w) H F st (FF Γ.T ih cx o i p.line st) (eval (.Subscript o i p) F.env):=by
 unfold FF
 cases h:Fp i with
 | none=>exact L5 hI hF
 | some q =>
  obtain⟨p2,rfl⟩:=EC h
  obtain⟨a,b,x⟩:=q
  cases x with
  | none=>exact EB hI hF
  | some x =>
   cases hm:Aj (a,b,some x) with
   | false=>exact fun c s Q E o₁ R g=>Subscript_ (aG.bind g (hI F cx o st hF) o₁ R fun w₁ st₁ c₁ v₁ s₁ _ l₁ o₁ R₁ p₁ z₁ g=>aG.gp g fun h=>nk5 (h.symm.trans hm))
   | true =>
    have e:Aj (a,b,some x)=oe a (fun _=>false) (oe b (fun _=>false) (FZ x)):=rfl
    obtain⟨h1,h2⟩:=LI (e.symm.trans hm)
    obtain⟨h2,h3⟩:=LI h2
    obtain⟨k,p3,p4,h3⟩:=Ez h3
    rw[h1,h2,h3]
    refine fun c s Q E o₁ R g=>Ja hI hF c s Q E o₁ R g
theorem Ij (hK:cW Γ.w Γ.K Γ.T) (hZ:wJ Γ.w) (hC:fH Γ.w Γ.K Γ.T Γ.n Γ.C) (hI:∀ H,cD Γ H ih) (H:PM):cD Γ H (DS Γ.T ih):=by
 intro F cx e st hF
 have no:∀ m,TG Γ (aH Γ.w) H F st (.stuck:Pg (PV × St)) m:=fun m c s Q E o R g=>g.stuck
 cases e with
 | Constant=>exact E1
 | Name=>exact Im hK hF
 | Attribute=>exact Hq hK (hI H) hF
 | Subscript o i p=>exact Ik (hI H) hF
 | BinOp=>exact Ks (hI H) hF
 | UnaryOp=>exact EJ (hI H) hF
 | BoolOp op es p=>exact fun c s Q E o R g=>DV (hI H) hF p op es st c s Q E o R g
 | Compare=>exact BP (hI H) hF
 | IfExp=>exact EL (hI H) hF
 | Tuple=>exact Iu (hI H) hF
 | List=>exact Em (hI H) hF
 | Dict ks vs p=>exact TG.gp fun h=>TG.gp fun h'=>by rw[bN h,bN h'];exact EI hK
 | Call f args ks p =>
  refine TG.gp fun h=>?_
  obtain rfl:=bN h
  refine TG.oe (fun q hq=>?_) fun _=>TG.opt fun n hn=>?_
  ·rw[rO hq];exact IT hK hC (hI H) hF
  ·obtain⟨_,rfl⟩:=d4 hn
   exact EZ hK hZ hC (hI H) hF
 | ListComp=>exact AO hK hI hF
 | _=>exact no _
theorem sM (hK:cW Γ.w Γ.K Γ.T) (hZ:wJ Γ.w) (hC:fH Γ.w Γ.K Γ.T Γ.n Γ.C) (k:Nat):∀ H:PM,cD Γ H (ev Γ.T k):=by
 induction k with
 | zero=>exact fun H F cx e st hF c s Q E o R g=>g.stuck
 | succ k ih=>exact Ij hK hZ hC ih
end
end Mine
end
section
namespace Mine
noncomputable def wT (h:Heap) (e:Addr) (cls:Value):Prop:=∃ oe vs,h.get? e=some oe∧oe.cls=cls∧oe.data=.fields vs∧vs[1]? = some .none
noncomputable def C4 (w:World) (K:Frag) (T:bQ):Prop:=∀ {A:Around}{s:Shared}{v₁ v₂:Value}{Q:Value→Shared→Prop}{E:Value→Shared→Prop},A.handled=none→A.depth + 4 ≤ recursionLimit→A.units + 20 ≤ cLine→K.In s.heap →
 (∀ e s',aS s s'→aY s.heap s'.heap→s.heap.get? e=none→wT s'.heap e (.ref T.fail)→Q (.ref e) s')→wpAny (model pw w) A (call (.ref T.fail) [v₁,v₂]) Q E s
noncomputable def vG (w:World) (K:Frag) (T:bQ):Prop:=∀ {A:Around}{s:Shared}{env:Env}{x:Sem Value}{Q:Flow→Shared→Prop}{E:Value→Shared→Prop},A.handled=none →
 wpAny (model pw w) A x (fun v s₁=>∃ e,v=.ref e∧K.In s₁.heap∧wT s₁.heap e (.ref T.fail)∧E (.ref e) s₁) E s→wpAny (model pw w) A (raiseStmt env (some x) none) Q E s
structure iW (w:World) (K:Frag) (T:bQ):Prop where
 k:cW w K T
 zip:wJ w
 mkf:C4 w K T
 rs:vG w K T
 fail:keepIn K (.ref T.fail)=true
 fcls:ktsIn K T.fail "BaseException" = true
section
variable {Γ:Gm}{H:PM}{F:Fr}{cx:Cx}{c:Cf}{s:Shared}{st:St}{h h':Heap}{ih:Cx→Expr→St→Pg (PV × St)}{xh:Cx→Stmt→St→Pg (Fl × St)}
theorem Up.fresh (o:Ok Γ H F c) (R:aC Γ.w H F.env c st h) (g:aY h h') {e:Addr} (he:h.get? e=none) (hx:wT h' e (.ref Γ.T.fail)):Up Γ F (.ref e) h':=by
 have mP:∀ a ob,Γ.X.base.get? a=some ob→h.get? a=some ob:=fun a ob q=>(o.base a ob q).elim (R.b a ob) fun q=>(R.hh a ob q.1).is q.2
 have bn:Γ.X.base.get? e=none:=by
  cases q:Γ.X.base.get? e with
  | none=>rfl
  | some ob=>exact nk3 (he.symm.trans (mP e ob q))
 have at_:∀ {L:Addr}{ob:Obj},H L=some ob→(∀ vs,ob.data ≠ .fields vs)→∃ o,h'.get? L=some o∧∀ vs,o.data ≠ .fields vs:=fun e n=>(R.hh _ _ e).slots.elim fun sl q=>⟨_,g _ _ q,n⟩
 obtain⟨LF,f1,f2,f3⟩:=o.fframe
 have hFF:∃ ob,h'.get? LF=some ob∧∀ vs,ob.data ≠ .fields vs:=f3.elim (fun f3=>(R.owG R.ix.loc).imp fun ob q=>by
  obtain⟨q1,_,es,ep,q2,_⟩:=q
  rw[f3]
  exact⟨g _ _ q1,fun vs z=>by rw[q2]at z;cases z⟩) fun q=>q.elim fun ob b=>at_ b.1 b.2.2
 have outs:∀ l:List Env,(∀ ev ∈ l,ev ∈ F.outer)→h'.FunFrames Γ.X.base l:=by
  intro l
  induction l with
  | nil=>exact fun _=>trivial
  | cons ev r ih =>
   intro hm
   obtain⟨k1,L,ob,a1,a2,a3,_,a5⟩:=o.outer ev (hm ev List.mem_cons_self)
   obtain⟨o',e1,e2⟩:=at_ a3 a5
   exact⟨k1,⟨L,o',a1,a2,e1,e2⟩,ih fun ev' h'=>hm ev' (List.mem_cons_of_mem _ h')⟩
 obtain⟨oe,vs,x1,x2,x3,x4⟩:=hx
 obtain⟨obF,y1,y2⟩:=hFF
 exact⟨⟨e,LF,rfl,f1,bn,.new oe vs x1 x2 x3 x4⟩,fun a ob q=>g _ _ (mP a ob q),⟨o.fkind,⟨LF,obF,f1,f2,y1,y2⟩,outs F.outer fun _ h=>h⟩,fun a ob q n=>(R.hh a ob (o.h0 a ob q)).slots.imp fun sl hs=>g _ _ hs⟩
theorem K4 {α:Type}{l:List α} (h:l.length=2):∃ a b,l=[a,b]:=by
 obtain⟨a,t,rfl⟩:=List.exists_cons_of_length_eq_add_one h
 obtain⟨b,rfl⟩:=List.length_eq_one_iff.mp (Nat.succ.inj h)
 exact⟨a,b,rfl⟩
theorem FR (B:iW Γ.w Γ.K Γ.T) (hI:cD Γ H (E0 Γ.T)) (hF:aV Γ F cx) {x:Expr}{p:Pos}:TG Γ (VF Γ.w) H F st (KC Γ.T cx x st) (exec (.Raise (some x) none p) F.env) :=
 fun c s Q E o R g=>g.opt fun q hq g=>g.gp fun h1 g=>g.opt fun n hn g=>g.gp fun ha g=>g.gp fun hp g=>g.opt fun w₀ h₀ g=>g.opt fun a hw g=>g.gp fun hb g=>by
  obtain⟨np,hn⟩:=d4 hn
  rw[rR hq,hn,bN h1,arm_exec_Raise]
  refine wpAny_bind (wpAny_standAt ?_)
  show wpAny _ _ (raiseStmt F.env (some (do let v ← eval (.Call (.Name n np) q.2.1 [] q.2.2.2) F.env;standAt p;pure v)) none) Q E s
  refine B.rs hF.handled (wpAny_bind (lR (pM B.k hF o R h₀ fun v pv=>?_)))
  rw[show v=.ref Γ.T.fail from fK hw fun y h1 h2=>by rw[h1,vJ h2,Nat.eq_of_beq_eq_true hb]at pv;exact pv]
  refine bM (P:=fun h=>Γ.K.In h) hp (keeps_K B.fail) (aG.bind g (i8 hI hF q.2.2.2 q.2.1 st) o R fun ws st₂ c₂ vs s₂ e₂ l₂ o₂ R₂ p₂ z₂ g=>⟨o₂.kin R₂,g.opt fun xs _ g=>?_⟩)
  obtain⟨v₁,v₂,rfl⟩:=K4 ((p₂.length.trans (z6 _ e₂)).trans (Nat.eq_of_beq_eq_true ha))
  refine B.mkf hF.handled (Nat.le_trans (Nat.add_le_add (Nat.le_add_right _ _) (by decide)) hF.depth) (Nat.le_trans (Nat.add_le_add (Nat.le_add_right _ _) (by decide)) hF.units) (o₂.kin R₂) fun e s₃ z₃ gr he hx=>?_
  exact wpAny_bind (wpAny_standAt (wpAny_pure ⟨e,rfl,fun a ob q=>gr _ _ (o₂.kin R₂ a ob q),hx,g.raise rfl _ _ (Up.fresh o₂ R₂ gr he hx) z₃⟩))
theorem yV {e:Expr}{q:List Expr} (h:wX e=some q):∃ x p,e=.Tuple q x p:=by
 cases e with
 | Tuple es x p=>exact⟨x,p,by rw[← Option.some.inj h]⟩
 | _=>exact nk3 h
theorem P9 {t e:Expr}{env:Env} (h1:wX t=none) (h2:LR t=false):swappedStores [t] e env=pure none:=by
 cases t with
 | Tuple=>exact nk4 h1
 | List=>exact nk5 h2
 | _=>rfl
theorem Oz {ts:List Expr}{x:Nat}{p:Pos}{e:Expr}{env:Env} (h:wX e=none):swappedStores [.Tuple ts x p] e env=pure none:=by
 cases e with
 | Tuple=>exact nk4 h
 | _=>rfl
theorem TG.gpB {α β δ:Type}{V:Cf→α→β→Prop}{t:Sem α}{b:Bool}{x:Pg (δ × St)}{k:δ × St→Pg (β × St)} (f:b=true→TG Γ V H F st (x.bind k) t):TG Γ V H F st ((Mine.gp b x).bind k) t:=fun c s Q E o R g=>aG.gpB g fun h g=>f h c s Q E o R g
theorem Cn (B:iW Γ.w Γ.K Γ.T) (hC:fH Γ.w Γ.K Γ.T Γ.n Γ.C) (hF:aV Γ F cx) {t e:Expr}{p:Pos}:TG Γ (VF Γ.w) H F st ((AB Γ.T cx t e st).bind fun r=>.ok (.next,r.2)) (exec (.Assign [t] e p) F.env):=by
 have hE:∀ H,cD Γ H (E0 Γ.T):=fun H=>sM B.k B.zip hC 40 H
 refine qM (P:=fun (x:Pg (Unit × St))=>TG Γ (VF Γ.w) H F st (x.bind fun r=>.ok (.next,r.2)) (exec (.Assign [t] e p) F.env)) (fun ts ht=>?_) fun ht=>TG.gpB fun h1=>TG.gpB fun h2=>TG.gpB fun h3=>?_
 ·obtain⟨x,tp,rfl⟩:=yV ht
  refine qM (P:=fun (y:Pg (Unit × St))=>TG Γ (VF Γ.w) H F st (y.bind fun r=>.ok (.next,r.2)) (exec (.Assign [.Tuple ts x tp] e p) F.env)) (fun es he=>?_) fun he=>TG.gpB fun h1=>?_
  ·obtain⟨y,ep,rfl⟩:=yV he
   exact JD B.k (hE H) hF
  ·exact y7 B.k (hE H) hF (gU h1) (Oz he) rfl
 ·cases hc:kP e with
  | false=>exact y7 B.k (hE H) hF hc (P9 ht (gU h1)) h2
  | true =>
   rw[hc]at h3
   cases e with
   | ListComp elt gens sc pos=>exact Hp (elt:=elt) (gens:=gens) (sc:=sc) (pos:=pos) B.k hE (fun H=>sM B.k B.zip hC 39 H) hF h3
   | SetComp=>exact fun c s Q E o R g=>g.stuck
   | DictComp=>exact fun c s Q E o R g=>g.stuck
   | _=>exact nk6 hc
theorem IV (B:iW Γ.w Γ.K Γ.T) (hC:fH Γ.w Γ.K Γ.T Γ.n Γ.C) (hX:∀ H,yB Γ H xh) (H:PM):yB Γ H (CU Γ.T xh):=by
 have hE:∀ H,cD Γ H (E0 Γ.T):=fun H=>sM B.k B.zip hC 40 H
 intro F cx a st hF
 have no:∀ m,TG Γ (VF Γ.w) H F st (.stuck:Pg (Fl × St)) m:=fun m c s Q E o R g=>g.stuck
 cases a with
 | Expr=>exact Ie (hE H) hF
 | Break=>exact fun c s Q E o R g=>by rw[arm_exec_Break];exact wpAny_bind (wpAny_standAt (wpAny_pure (g.done R (rfl:VF Γ.w c .brk .brk))))
 | Continue=>exact fun c s Q E o R g=>by rw[arm_exec_Continue];exact wpAny_bind (wpAny_standAt (wpAny_pure (g.done R (rfl:VF Γ.w c .cont .cont))))
 | Return=>exact LZ (hE H) hF
 | Assign ts e p=>exact TG.opt fun t ht=>by rw[eA ht];exact Cn B hC hF
 | AugAssign t op e p =>
  refine TG.oe (fun n hn=>?_) fun _=>TG.opt fun q hq=>?_
  ·obtain⟨_,rfl⟩:=d4 hn;exact I7 B.k (hE H) hF
  ·rw[rO hq];exact IN B.k (hE H) hF
 | If=>exact Md (hE H) (hX H) hF
 | While t b o p=>exact TG.gp fun h=>by rw[bN h];exact Dx (hE H) (hX H) hF
 | For t it b o p =>
  refine TG.gp fun h=>TG.opt fun n hn=>?_
  obtain⟨_,rfl⟩:=d4 hn
  rw[bN h];exact Lc B.k (hE H) hX hF
 | Raise e c p =>
  cases c with
  | some=>exact no _
  | none=>exact TG.opt fun x hx=>by rw[hx];exact FR B (hE H) hF
 | _=>exact no _
theorem D1 (B:iW Γ.w Γ.K Γ.T) (hC:fH Γ.w Γ.K Γ.T Γ.n Γ.C) (k:Nat):∀ H:PM,yB Γ H (ex Γ.T k):=by
 induction k with
 | zero=>exact fun H F cx a st hF c s Q E o R g=>g.stuck
 | succ k ih=>exact IV B hC ih
end
end Mine
end
section
namespace Mine
theorem Dl {α:Type}{x p:Str}{a:α}{l:List (Str × α)}{u:Option α}{P:Prop} (e:lk x (l++[(p,a)])=u) (h1:∀ y,lk x l=some y→some y=u→P) (h2:lk x l=none→x=p→some a=u→P) (h3:lk x l=none→x ≠ p→none=u→P):P:=by
 induction l with
 | nil=>exact AM e (h2 rfl) fun z e=>h3 rfl z e
 | cons q r ih=>exact AM e (fun z e=>h1 q.2 (mD z) e) fun z e=>ih e (fun y k=>h1 y ((iP z).trans k)) (fun k=>h2 ((iP z).trans k)) fun k=>h3 ((iP z).trans k)
section
variable {w:World}{c:Cf}
noncomputable def BI (w:World) (c:Cf) (P:Str→Prop) (m:Str→Option Value) (v:List (Str × PV)):Prop:=∀ x u,lk x v=some u→mM u=true∧P x∧∃ y,m x=some y∧aH w c y u
theorem BI.ext {P:Str→Prop}{m:Str→Option Value}{v:List (Str × PV)} (h:BI w c P m v) {p:Str}{u:PV}{y:Value} (n:lk p v=none) (hl:mM u=true) (hp:P p) (pu:aH w c y u):BI w c P (fun x=>if x=p then some y else m x) (v++[(p,u)]):=fun x u' e =>
 Dl e (fun z k e=>(h x z k).imp (fun q=>Option.some.inj e ▸ q) fun q=>q.imp id fun q=>q.imp fun y q=>⟨(if_neg fun z=>nk3 (n.symm.trans (z ▸ k))).trans q.1,Option.some.inj e ▸ q.2⟩) (fun _ z e=>⟨Option.some.inj e ▸ hl,z ▸ hp,y,if_pos z,Option.some.inj e ▸ pu⟩) fun _ _ e=>nk3 e
theorem El {sc:Scope}{kf:Str→Option NameKind} (hkf:∀ x k,kindOf sc x=some k→kf x=some k) {ps:List Str}:∀ {ws:List PV}{vals:List Value}{v c₀:List (Str × PV)}{r:List (Str × PV) × List (Str × PV)}{m cm:Str→Option Value},aX w c vals ws→ps.Nodup→(∀ x ∈ ps,lk x v=none∧lk x c₀=none) →
  BI w c (fun _=>True) m v→BI w c (fun x=>kindOf sc x=some .cell) cm c₀→B7 sc ps ws v c₀=some r →
  vals.length=ps.length∧BI w c (fun _=>True) (bindL kf (ps.zip vals) m) r.1∧BI w c (fun x=>kindOf sc x=some .cell) (bindC kf (ps.zip vals) cm) r.2∧∀ x ∈ ps,kindOf sc x=some .local∨kindOf sc x=some .cell:=by
 induction ps with
 | nil =>
  intro ws vals v c₀ r m cm p _ _ hv hc e
  refine aD e fun hn e=>?_
  obtain rfl:vals=[]:=aX.c0 (bN hn ▸ p)
  rw[← Option.some.inj e]
  exact⟨rfl,hv,hc,iG⟩
 | cons p ps ih =>
  intro ws vals v c₀ r m cm pw nd hn hv hc e
  cases ws with
  | nil=>exact nk3 e
  | cons w' ws =>
   obtain⟨val,vals,rfl,pw,pr⟩:=pw.cI
   obtain⟨n1,n2⟩:=List.nodup_cons.mp nd
   refine aD e fun hl e=>ob e fun k hk e=>?_
   have hn':=fun x hx=>hn x (List.mem_cons_of_mem p hx)
   have np:=hn p List.mem_cons_self
   have nx:∀ {l:List (Str × PV)}{x:Str},x ∈ ps→lk x l=none→lk x (l++[(p,w')])=none:=fun {l x} hx h=>by
    cases q:lk x (l++[(p,w')]) with
    | none=>rfl
    | some u=>exact Dl q (fun y k _=>nk3 (h.symm.trans k)) (fun _ z _=>absurd (z ▸ hx) n1) fun _ _ e=>nk3 e
   have fin:∀ {m' cm':Str→Option Value}{v' c':List (Str × PV)},(kindOf sc p=some .local∨kindOf sc p=some .cell)→bindL kf ((p,val)::ps.zip vals) m=bindL kf (ps.zip vals) m'→bindC kf ((p,val)::ps.zip vals) cm=bindC kf (ps.zip vals) cm'→B7 sc ps ws v' c'=some r→(∀ x ∈ ps,lk x v'=none∧lk x c'=none)→BI w c (fun _=>True) m' v'→BI w c (fun x=>kindOf sc x=some .cell) cm' c' →
     (val::vals).length=(p::ps).length∧BI w c (fun _=>True) (bindL kf ((p,val)::ps.zip vals) m) r.1∧BI w c (fun x=>kindOf sc x=some .cell) (bindC kf ((p,val)::ps.zip vals) cm) r.2∧∀ x ∈ p::ps,kindOf sc x=some .local∨kindOf sc x=some .cell:=fun kk e1 e2 e hn hv hc=>by
    obtain⟨i1,i2,i3,i4⟩:=ih pr n2 hn hv hc e
    rw[e1,e2]
    exact⟨congrArg (· + 1) i1,i2,i3,fun x hx=>(List.mem_cons.mp hx).elim (fun z=>z ▸ kk) (i4 x)⟩
   cases k with
   | «local» =>
    have kp:=hkf p _ hk
    exact fin (.inl hk) (by rw[bindL,if_pos kp]) (by rw[bindC,if_pos kp]) e (fun x hx=>⟨nx hx (hn' x hx).1,(hn' x hx).2⟩) (hv.ext np.1 hl trivial pw) hc
   | cell =>
    have kp:¬ kf p=some .local:=by rw[hkf p _ hk];exact nofun
    exact fin (.inr hk) (by rw[bindL,if_neg kp]) (by rw[bindC,if_neg kp]) e (fun x hx=>⟨(hn' x hx).1,nx hx (hn' x hx).2⟩) hv (hc.ext np.2 hl hk pw)
   | _=>exact nk3 e
end
section
variable {w:World}{H:PM}{c:Cf}{st:St}{env env₁:Env}{s s₁:Shared}
open Classical in
noncomputable def gA (cs:List (Str × Addr)) (b:Addr):Option Str:=if h:∃ n,cs.lookup n=some b then some h.choose else none
theorem rE {cs:List (Str × Addr)}{b:Addr}{n:Str} (h:gA cs b=some n):cs.lookup n=some b:=by
 unfold gA at h
 by_cases q:∃ n,cs.lookup n=some b
 ·rw[dif_pos q]at h;rw[← Option.some.inj h];exact q.choose_spec
 ·rw[dif_neg q]at h;exact nk3 h
noncomputable def sV (c:Cf) (cs:List (Str × Addr)) (b:Addr):Option bY:=oe (gA cs b) (fun n=>some (.c n)) (lZ c b)
theorem xX {cs:List (Str × Addr)} (ap:cs.Pairwise fun x y=>x.2 ≠ y.2) {b:Addr}{n:Str} (e:cs.lookup n=some b):gA cs b=some n:=by
 have q:∃ n,cs.lookup n=some b:=⟨n,e⟩
 unfold gA
 rw[dif_pos q,name_of_addr ap (mem_of_lookup q.choose_spec) (mem_of_lookup e)]
noncomputable def Cf.call (c:Cf) (L C:Addr) (cs:List (Str × Addr)):Cf:=⟨c.B,iN (sV c cs) C (some .v),c.S,[],false,L::c.fs⟩
theorem aH.nl {L C:Addr}{cs:List (Str × Addr)}{v:Value}{x:PV} (h:mM x=true) (p:aH w c v x):aH w (c.call L C cs) v x:=by
 cases x with
 | loc=>exact nk6 h
 | _=>exact p
theorem EG {n:Nat}{x:PV} (h:sB n x=true):mM x=true:=by
 cases x with
 | loc=>exact nk6 h
 | _=>rfl
theorem aC.call (R:aC w H env c st s.heap) {mL mC:Str→Option Value} (x:InCallC s env₁.locals mL env₁.cells mC s₁) (hL:env₁.locals=s.heap.objs.size) (ok:mT st.g.length st.g=true) {v c':List (Str × PV)} (hv:BI w c (fun _=>True) mL v)
  (hc:BI w c (fun x=>(env₁.cells.lookup x).isSome=true) mC c'):aC w (PM.mix H (dR c s.heap)) env₁ (c.call env.locals env₁.locals env₁.cells) ⟨st.g,[],v,c'⟩ s₁.heap:=by
 have nil:∀ {a:Addr},env₁.locals ≤ a→s.heap.get? a=none:=fun {a} l=>by
  cases q:s.heap.get? a with
  | none=>rfl
  | some ob=>exact absurd (Heap.lt_size q) (Nat.not_lt.mpr (hL ▸ l))
 have abv:∀ {n:Str}{a:Addr},env₁.cells.lookup n=some a→env₁.locals < a:=fun e=>x.above _ _ (mem_of_lookup e)
 have owC:∀ {n:Str}{a:Addr},env₁.cells.lookup n=some a→(c.call env.locals env₁.locals env₁.cells).ow a=some (.c n):=fun {n a} e=>by
  refine(eZ (f:=sV c env₁.cells) (Nat.ne_of_gt (abv e))).trans ?_
  show oe (gA env₁.cells a) (fun n=>some (.c n)) (lZ c a)=_
  rw[xX x.apart e];rfl
 have owG:∀ {a:Addr}{t:bY},c.ow a=some t→t.isG=true→(c.call env.locals env₁.locals env₁.cells).ow a=some t:=fun {a t} e z=>by
  obtain⟨o,ho,_⟩:=R.owG e
  refine(eZ (f:=sV c env₁.cells) fun q=>nk3 ((nil (Nat.le_of_eq q.symm)).symm.trans ho)).trans ?_
  show oe (gA env₁.cells a) (fun n=>some (.c n)) (lZ c a)=_
  cases q:gA env₁.cells a with
  | none=>exact CV e z
  | some n=>exact nk3 ((nil (Nat.le_of_lt (abv (rE q)))).symm.trans ho)
 have cof:∀ {n:Str}{a:Addr},env₁.cells.lookup n=some a→∃ o,s₁.heap.get? a=some o∧jK w (c.call env.locals env₁.locals env₁.cells) c' n o:=fun {n a} e=>(x.cell n a e).imp fun o q=>⟨q.1,_,q.2,fun u e=>(hc n u e).2.2.imp fun y p=>⟨p.1,aH.nl (hc n u e).1 p.2⟩⟩
 refine R.enter x.toInCall.keep rfl rfl (fun a t e=>jS (f:=sV c env₁.cells) e (fun z e=>.inr ?_) fun z e=>?_) ⟨gS (f:=sV c env₁.cells),fun y a e=>.inl (owC e),fun y u e=>(hc y u e).2.1,R.ix.gl,fun k sl e=>?_,rfl,fun k a xs e=>nk3 e,fun k C fs e=>nk3 e⟩
 ·obtain⟨o,es,ep,q1,q2,q3,q4⟩:=x.toInCall.ns
  rw[z,← Option.some.inj e]
  exact⟨nil (Nat.le_refl _),o,q1,rfl,es,ep,q2,q3,fun y u e=>(hv y u e).2.2.imp fun y' p=>⟨(q4 y).trans p.1,aH.nl (hv y u e).1 p.2⟩⟩
 ·replace e:oe (gA env₁.cells a) (fun n=>some (bY.c n)) (lZ c a)=some t:=e
  cases q:gA env₁.cells a with
  | some n =>
   rw[q]at e
   have hn:=rE q
   rw[← Option.some.inj e]
   exact .inr ⟨nil (Nat.le_of_lt (abv hn)),(cof hn).imp fun o p=>⟨p.1,hn,p.2⟩⟩
  | none =>
   rw[q]at e
   refine .inl ⟨e,fun o p=>EY e fun e y=>?_⟩
   cases t with
   | g k=>exact p
   | d k=>exact Exists.imp (fun a' p=>⟨p.1,fun C fs e=>(p.2 C fs e).imp fun es q=>q.imp fun n q=>⟨q.1,hJ.map (fun x u hx p=>aH.nl (EG (rU (uC ok e) x hx)) p) q.2⟩⟩) p
   | _=>exact nk6 y
 ·have q:=R.ix.g k sl e
  cases sl with
  | o a d=>exact⟨owG q.1 rfl,owG q.2 rfl⟩
  | l a=>exact owG q rfl
end
end Mine
end
section
namespace Mine
section
variable {w:World}{H:PM}{c c₂:Cf}{st st₂:St}{env env₂:Env}{h h₂:Heap}
theorem AH (R:aC w H env c st h) (R₂:aC w (PM.mix H (dR c h)) env₂ c₂ st₂ h₂) (hb:c.B.le c₂.B) (hs:c.S <+: c₂.S) (hfs:c₂.fs=env.locals::c.fs) {v:Value}{x:PV}{r:PV × List MO} (p:aH w c₂ v x) (e:vX st.g.length x st₂=some r) :
  w9 w H env c { st with g:=r.2 } h₂ fun c'=>aH w c' v r.1 :=
 aD e fun ok e=>ob e fun y hy e=>by
  have hm2:st.g.length ≤ st₂.g.length:=R.ix.gl ▸ R₂.ix.gl ▸ hs.length_le
  rw[← Option.some.inj e]
  have bk:=fun {c₄:Cf}{st₄:St} (R₄:aC w (PM.mix H (dR c h)) env₂ c₄ st₄ h₂) (l:c₂.le c₄) (e:st₄.g=st₂.g)=>R.back (m:=st.g.length) R₄ (hb.trans l.b) (hs.trans l.s) (l.fs.symm.trans hfs) (Nat.le_refl _) (e ▸ hm2) (e ▸ ok)
  cases x with
  | f z=>have q:=bk R₂ (.refl _) rfl;exact⟨_,q.1,q.2,Option.some.inj hy ▸ p.fI⟩
  | loc k =>
   refine ob hy fun vs hv hy=>?_
   obtain⟨a,rfl,hL⟩:=p.locI
   obtain⟨c₄,l₄,R₄,f₄⟩:=R₂.freezeL (fU hv) hL
   have q:=bk R₄ l₄ rfl
   exact⟨_,q.1,q.2,Option.some.inj hy ▸ f₄⟩
  | ref k =>
   refine aD hy fun hk hy=>ob hy fun q hq hy=>ob hy fun ys hys hy=>R₂.iE p rfl hq fun a d es n hS b1 b2 b3 b4 b5=>?_
   have hk:st.g.length ≤ k:=Nat.le_of_not_lt fun z=>by rw[show Nat.blt k st.g.length=true from Nat.ble_eq_true_of_le z]at hk;exact nk6 hk
   have q:=bk R₂ (.refl _) rfl
   obtain⟨c₄,l₄,R₄,f₄⟩:=aC.freezeI q.2 b3 b4 (b5.frozen hys) ⟨R₂.owB b1,(PM.mixN (R₂.owH b1)).2,By hk (.inl b1)⟩ ⟨R₂.owB b2,(PM.mixN (R₂.owH b2)).2,By hk (.inr b2)⟩
   exact⟨c₄,q.1.trans l₄,R₄,Option.some.inj hy ▸ f₄⟩
noncomputable def OJ:Flow→Value
 | .ret v=>v
 | _=>.none
theorem Fa (R:aC w H env c st h) (R₂:aC w (PM.mix H (dR c h)) env₂ c₂ st₂ h₂) (hb:c.B.le c₂.B) (hs:c.S <+: c₂.S) (hfs:c₂.fs=env.locals::c.fs) {ini:Bool}{fl:Flow}{f:Fl}{r:PV × List MO} (p:VF w c₂ fl f) (e:gK ini st.g.length (f,st₂)=some r) :
  w9 w H env c { st with g:=r.2 } h₂ fun c'=>aH w c' (OJ fl) r.1:=by
 cases f with
 | next =>
  rw[show fl=.next from p]
  exact oB e (fun _ e=>aD e fun ok e=>by
   have q:=R.back (m:=st₂.g.length) R₂ hb hs hfs (R.ix.gl ▸ R₂.ix.gl ▸ hs.length_le) (Nat.le_refl _) (by rw[List.take_length];exact ok)
   rw[List.take_length]at q
   rw[← Option.some.inj e]
   exact⟨_,q.1,q.2,.none⟩) fun _ e=>AH R R₂ hb hs hfs .none e
 | ret x =>
  obtain⟨v,rfl,p⟩:=p
  exact aD e fun _ e=>AH R R₂ hb hs hfs p e
 | _=>exact nk3 e
end
section
variable {w:World}{K:Frag}{T:bQ}{X:zW}{C C':bW}{n n':Nat}{H:PM}{F:Fr}{c:Cf}{s:Shared}{st:St}{h:Heap}{env₁:Env}
theorem Ok.inHeap (o:Ok ⟨w,K,T,X,C,n⟩ H F c) (R:aC w H F.env c st h) {a:Addr}{ob:Obj} (q:X.base.get? a=some ob):h.get? a=some ob:=(o.base a ob q).elim (R.b a ob) fun q=>(R.hh a ob q.1).is q.2
theorem Ok.call (o:Ok ⟨w,K,T,X,C',n'⟩ H F c) (R:aC w H F.env c st h) {A:Around}{cs:List (Str × Addr)} (hk:env₁.scope.kind=.function) {L:Addr} (hf:env₁.frame=some L) (hl:env₁.locals=L) (hn:h.get? L=none) :
  Ok ⟨w,K,T,X,C,n⟩ (PM.mix H (dR c h)) ⟨A,env₁,env₁,F.fenv::F.outer,false⟩ (c.call F.env.locals env₁.locals cs):=by
 have q:=Ok.comp (C:=L) (cenv:=env₁) o R
 refine⟨rfl,q.k,q.base,q.h0,fun e he=>(List.mem_cons.mp he).elim (fun z=>z ▸ ⟨o.fkind,o.fframe.imp fun L y=>y.2.2.elim (fun z=>(q.fsD _ List.mem_cons_self).imp fun ob b=>⟨y.1,y.2.1,z ▸ b.1,z ▸ List.mem_cons_self,b.2⟩) fun b=>b.imp fun ob b=>⟨y.1,y.2.1,PM.mix_l R.hid_apart b.1,List.mem_cons_of_mem _ b.2.1,b.2.2⟩⟩) (q.outer e),?_,⟨L,hf,?_,.inl hl.symm⟩,q.fsD⟩
 ·show env₁.scope.kind ≠ _;rw[hk];exact nofun
 ·cases q:X.base.get? L with
  | none=>rfl
  | some ob=>exact nk3 (hn.symm.trans (o.inHeap R q))
theorem Up.cg {e:Value} (u:Up ⟨w,K,T,X,C,n⟩ F e h):Up ⟨w,K,T,X,C',n'⟩ F e h:=⟨u.is,u.stays,u.frames,u.keep⟩
noncomputable def LY (w:World) (K:Frag) (T:bQ) (C:bW) (m n:Nat):Prop :=
 ∀ {A:Around}{X:zW}{H:PM}{F:Fr}{st:St}{a:Nat}{vs:List Value}{ws:List PV}{c:Cf}{s:Shared}{Q:Value→Shared→Prop}{E:Value→Shared→Prop}{q:FI × List (Str × PV) × List (Str × PV)}{p:Expr × Str}{C':bW}{x:Pg (PV × St)},A.frames=some (F.fenv::F.outer)→A.handled=none→A.depth + 3 * (n + 1) + 4 ≤ recursionLimit→A.units + 8 * (n + 1) + 36 ≤ cLine →
  Ok ⟨w,K,T,X,C',n + 1⟩ H F c→aC w H F.env c st s.heap→aX w c vs ws→i0 T a ws st.g=some q→cX q.1.body=some p→(aN C' x=(BO T C ⟨a,q.1.sc,m⟩ p.1 p.2 st.g q.2.1 q.2.2).bind fun q=>.ok (q.1,{ st with g:=q.2 })) →
  aG ⟨w,K,T,X,C',n + 1⟩ (aH w) H F x c s Q E→codeAny (model pw w) A (.call (.ref a) ⟨vs,[]⟩) (BY Q E) s
abbrev L6 (A:Around) (l:List Env) (env₁:Env):Fr:=⟨A.deeper env₁,env₁,env₁,l,false⟩
theorem n9 (B:iW w K T) {m a:Nat}{A:Around}{vs:List Value}{ws:List PV}{q:FI × List (Str × PV) × List (Str × PV)}{R':Result→Shared→Prop}{fl:List Env}{g:List MO} (hfr:A.frames=some fl) (hh:A.handled=none) (hd:A.depth + 3 * (n + 1) + 4 ≤ recursionLimit) (hu:A.units + 8 * (n + 1) + 36 ≤ cLine)
  (KI:K.In s.heap) (ps:aX w c vs ws) (hq:i0 T a ws g=some q) (go:∀ (fd:FuncData) env₁ s₁ mL mC,env₁=callEnvC fd s.heap.objs.size a→aV ⟨w,K,T,X,C,n⟩ (L6 A fl env₁) ⟨a,q.1.sc,m⟩→InCallC s env₁.locals mL env₁.cells mC s₁→mT g.length g=true→BI w c (fun _=>True) mL q.2.1→BI w c (fun x=>(env₁.cells.lookup x).isSome=true) mC q.2.2→aS s s₁ →
   wpAny (model pw w) (A.deeper env₁) (execs q.1.body env₁) (fun f s₂=>R' (.ok (.ret (OJ f))) s₂) (fun e s₂=>wpAny (model pw w) (A.deeper env₁) («leaving» env₁ e) (fun _ s₃=>R' (.error e) s₃) (fun e' s₃=>R' (.error e') s₃) s₂) s₁):codeAny (model pw w) A (.call (.ref a) ⟨vs,[]⟩) R' s:=by
 refine ob hq fun p h1 hq=>ob hq fun fi h2 hq=>aD hq fun h3 hq=>ob hq fun vc h4 hq=>?_
 rw[← Option.some.inj hq]at go
 cases B.k.fnI a p fi h1 h2 with | mk ob fd k1 k2 k3 k4 k5 k6 k7 k8 k9 yC HO HA k13 =>
 have hkf:∀ x k,kindOf fi.sc x=some k→(callEnvC fd s.heap.objs.size a).kindOf x=some k:=fun x k e=>by
  show fd.scope.names.lookup x=some k
  rw[k4];exact dT e
 obtain⟨lv,b1,b2,b3⟩:=El hkf (m:=fun _=>none) (cm:=fun _=>none) ps k13 (fun _ _=>⟨rfl,rfl⟩) (fun _ _=>nk3) (fun _ _=>nk3) h4
 have hcells:∀ x,kindOf fi.sc x=some .cell→((cellsFrom (s.heap.objs.size + 1) fd.scope.names []).lookup x).isSome=true:=fun x e=>by
  rw[k4];exact cellsFrom_some _ _ _ (.inl (dT e))
 have hk:fd.scope.kind=.function:=k4 ▸ HO
 have hd':A.depth + 1 + 3 * n + 6 ≤ recursionLimit:=by omega
 refine codeAny_call_cells (by omega) (KI _ _ k1) k2 (B.k.nolim _ KI) (codeRec_of KI k8) k3 (HA vs lv) k5 (fun x hx=>?_) (fun s₁ ic=>?_) (by rw[k4];exact k9) (by rw[k4];exact yC) hk
 ·exact(b3 x.1 (List.of_mem_zip hx).1).imp (fun q=>by rw[k4];exact dT q) fun q=>⟨by rw[k4];exact dT q,hcells _ q⟩
 have zz:aS s s₁:=by obtain⟨h',tk,rfl,_⟩:=ic.done;exact⟨rfl,rfl⟩
 exact go fd _ s₁ _ _ rfl ⟨hk,fun x k e _=>hkf x k e,fun x e=>.inl (hkf x _ e),fun x e=>⟨rfl,hcells x e⟩,k6,k7,hh,Around.frames_deeper hfr,rfl,hd',by show A.units + 3 + 8 * n + 40 ≤ _;omega⟩ ic h3 b1 (fun x u e=>⟨(b2 x u e).1,hcells x (b2 x u e).2.1,(b2 x u e).2.2⟩) zz
theorem PG {α γ:Type}{y:Option α}{a:α}{f:α→γ}{n:γ} (h:y=some a):Mine.oe y f n=f a:=by rw[h];rfl
theorem L2 {α γ:Type}{y:Option α}{f:α→γ}{n:γ} (h:y=none):Mine.oe y f n=n:=by rw[h];rfl
theorem D3 (B:iW w K T) {m:Nat} (hC:fH w K T n C) (hT:LY w K T C m n):fH w K T (n + 1) (cG T C m):=by
 intro A X H F st m' a vs ws c s Q E hfr hh hd hu o R ps g
 have e0:aN (cG T C m) (qC m' a ws st.g fun q=>.ok (q.1,{ st with g:=q.2 }))=((eF (i0 T a ws st.g)).bind fun q=>Mine.oe (cX q.1.body) (fun p=>BO T C ⟨a,q.1.sc,m⟩ p.1 p.2 st.g q.2.1 q.2.2) (aN C (iR T m a st.g q))).bind fun q=>.ok (q.1,{ st with g:=q.2 }):=rfl
 cases h0:i0 T a ws st.g with
 | none=>exact absurd (e0.trans (by rw[h0];rfl)) g.go
 | some q =>
  rw[h0]at e0
  cases h1:cX q.1.body with
  | some p=>exact hT hfr hh hd hu o R ps h0 h1 (e0.trans (congrArg (fun z=>O.bind z _) (PG h1))) g
  | none =>
   have e0:=e0.trans (congrArg (fun z=>O.bind z _) (L2 h1))
   refine n9 (C:=C) (m:=m) (X:=X) B hfr hh hd hu (o.kin R) ps h0 fun fd env₁ s₁ mL mC he hF₁ ic h3 b1 b2 zz=>mV (D1 B hC 30 _) hF₁ q.1.body ⟨st.g,[],q.2.1,q.2.2⟩ _ s₁ _ _ (o.call R hF₁.kind (L:=s.heap.objs.size) (by rw[he];rfl) (by rw[he];rfl) (get?_size _)) (R.call ic (by rw[he];rfl) h3 b1 b2) ⟨fun f st₂ ef c₂ fl s₂ l₂ R₂ vf z₂=>?_,fun er ev s₂ u z₂=>?_,fun es=>?_⟩
   ·have e0:=e0.trans (by rw[iR,aZ,ef])
    cases ha:gK (dY a T.inits) st.g.length (f,st₂) with
    | none=>exact absurd (e0.trans (by show(aN C (opt (gK (dY a T.inits) st.g.length (f,st₂)) .ok)).bind _=_;rw[ha];rfl)) g.go
    | some r =>
     obtain⟨c₃,l₃,R₃,p₃⟩:=Fa R R₂ l₂.b l₂.s l₂.fs.symm vf ha
     exact g.ok r.1 { st with g:=r.2 } (e0.trans (by show(aN C (opt (gK (dY a T.inits) st.g.length (f,st₂)) .ok)).bind _=_;rw[ha];rfl)) c₃ _ s₂ l₃ R₃ p₃ (zz.trans z₂)
   ·exact Fs (F₀:=F) hF₁.frames rfl rfl (o.fframe.imp fun L q=>q.1) u fun s₃ u₃ z₃=>g.raise (e0.trans (by rw[iR,aZ,er];rfl)) ev s₃ u₃.cg ((zz.trans z₂).trans z₃)
   ·exact g.go (e0.trans (by rw[iR,aZ,es];rfl))
end
end Mine
end
section
namespace Mine
noncomputable def Be (c:Cf) (h:Heap):PM:=fun a=>(c.ow a).bind fun _=>h.get? a
theorem zD {c:Cf}{h:Heap}{a:Addr}{t:bY} (q:c.ow a=some t):Be c h a=h.get? a:=by show(c.ow a).bind _=_;rw[q];rfl
noncomputable def bY.isVC (t:bY):Bool:=@bY.rec (fun _=>Bool) true (fun _=>true) (fun _=>false) (fun _=>false) (fun _=>false) t
noncomputable def mJ (c:Cf) (h:Heap):PM:=fun a=>(c.ow a).bind fun t=>gd (!t.isVC) (h.get? a)
noncomputable def Cf.vc (c:Cf):Cf:={ c with ow:=fun a=>(c.ow a).bind fun t=>gd t.isVC (some t),S:=[],L:=[] }
theorem PM.mix_f {H P:PM}{a:Addr} (h:P a=none):PM.mix H P a=H a:=by unfold PM.mix;rw[h];rfl
section
variable {w:World}{H:PM}{c:Cf}{st:St}{env:Env}{h h₂:Heap}
theorem aC.all_apart (R:aC w H env c st h):PM.apart H (Be c h):=fun a o e=>ob (x:=c.ow a) e fun t q _=>R.owH q
theorem aC.stay (R:aC w H env c st h) {B':PM} (hb:c.B.le B') (hB:∀ a o,B' a=some o→h₂.get? a=some o) (hBh:∀ a o,B' a=some o→H a=none∧c.ow a=none)
  (hk:∀ a o,PM.mix H (Be c h) a=some o→oJ (env.locals::c.fs) h₂ a o):c.le { c with B:=B' }∧aC w H env { c with B:=B' } st h₂:=by
 have l:c.le { c with B:=B' }:=⟨hb,List.prefix_refl _,List.prefix_refl _,rfl,rfl⟩
 refine⟨l,hB,fun a o e=>(hBh a o e).1,fun a o e=>(hk a o (PM.mix_l R.all_apart e)).imp id fun q=>⟨(List.mem_cons.mp q.1).elim (fun m=>nk3 ((R.owH R.ix.loc).symm.trans (m ▸ e))) id,q.2⟩,R.fsH,fun a t e=>⟨?_,R.owH e,?_⟩,R.ix.loc,fun x a e=>(R.ix.cel x a e).imp id fun q=>⟨q.1,q.2.imp fun o q=>⟨q.1,q.2.mono l⟩⟩,R.ix.celd,R.ix.gl,R.ix.g,R.ix.ll,R.ix.l,R.ix.nol⟩
 ·cases q:B' a with
  | none=>exact q
  | some o=>exact nk3 ((hBh a o q).2.symm.trans e)
 ·obtain⟨o,e1,p⟩:=R.owG e
  have hi:=hk a o (PM.mix_r ((zD e).trans e1))
  by_cases z:a=env.locals
  ·rw[z,R.ix.loc]at e
   obtain⟨sl,q⟩:=hi.slots
   exact⟨_,q,Own.keep (o':={ o with slots:=sl }) (g:=st.g) p l (by rw[← Option.some.inj e];rfl) rfl fun k tk=>by rw[tk]at e;cases e⟩
  ·exact⟨o,hi.is fun m=>(List.mem_cons.mp m).elim z (R.noFs (R.owH e)),p.mono l⟩
theorem v3 {a:Addr}{t:bY} (q:c.ow a=some t):c.vc.ow a=gd t.isVC (some t):=by show(c.ow a).bind _=_;rw[q];rfl
theorem aC.drop (R:aC w H env c st h):PM.apart H (mJ c h)∧aC w (PM.mix H (mJ c h)) env c.vc ⟨[],[],[],[]⟩ h ∧
  ∀ a o,PM.mix H (Be c h) a=some o→PM.mix (PM.mix H (mJ c h)) (dR c.vc h) a=some o:=by
 have ap:PM.apart H (mJ c h):=fun a o e=>ob (x:=c.ow a) e fun t q _=>R.owH q
 have cof:∀ {x:Str}{o:Obj},jK w c st.c x o→jK w c.vc [] x o:=fun q=>q.imp fun v₀ q=>⟨q.1,fun u e=>nk3 e⟩
 refine⟨ap,⟨R.b,fun a o e=>PM.mixN' (fun o' q=>ob (x:=c.ow a) q fun t q _=>nk3 ((R.owB q).symm.trans e)) (R.bh a o e),fun a o e=>PM.mixE e (fun o' q e=>ob (x:=c.ow a) q fun t _ q=>aD q fun _ q=>.inl (Option.some.inj e ▸ q)) fun _ e=>R.hh a o e,fun a e=>Option.isSome_iff_exists.mpr ((Option.isSome_iff_exists.mp (R.fsH a e)).imp fun o q=>PM.mix_l ap q),fun a t e=>ob (x:=c.ow a) e fun t' q e=>aD e fun y e=>⟨R.owB q,PM.mixN' (fun o q'=>ob (x:=c.ow a) q' fun t₂ q₂ e=>aD e fun y₂ _=>by rw[← Option.some.inj (q.symm.trans q₂),y]at y₂;exact nk6 y₂) (R.owH q),?_⟩,
  (v3 R.ix.loc),fun x a e=>(R.ix.cel x a e).imp (fun q=>v3 q) fun q=>⟨q.1,q.2.imp fun o q=>⟨PM.mix_l ap q.1,cof q.2⟩⟩,fun x u e=>nk3 e,rfl,fun k sl e=>nk3 e,rfl,fun k a xs e=>nk3 e,fun k C fs e=>nk3 e⟩,fun a o e=>PM.mixE e (fun o' q e=>ob (x:=c.ow a) q fun t q ho=>?_) fun q e=>?_⟩
 ·obtain⟨o,e1,p⟩:=R.owG q
  refine⟨o,e1,?_⟩
  rw[← Option.some.inj e]
  cases t' with
  | v=>exact⟨p.1,p.2.imp fun es p=>p.imp fun ep p=>⟨p.1,p.2.1,fun x u e=>nk3 e⟩⟩
  | c x=>exact⟨p.1,cof p.2⟩
  | _=>exact nk6 y
 ·have ho:=ho.trans e
  cases z:t.isVC with
  | true=>exact PM.mix_r ((kC ((v3 q).trans (by rw[z];rfl)) (by cases t<;>first | rfl | exact nk6 z)).trans ho)
  | false =>
   rw[PM.mix_f (by show(c.vc.ow a).bind _=none;rw[v3 q,z];rfl)]
   refine PM.mix_r ?_
   show(c.ow a).bind _=_
   rw[q]
   show gd (!t.isVC) _=_
   rw[z];exact ho
 ·have n:c.ow a=none:=by
   cases y:c.ow a with
   | none=>rfl
   | some t=>exact nk3 ((R.owH y).symm.trans e)
  rw[PM.mix_f (by show((c.ow a).bind _).bind _=none;rw[n];rfl)]
  exact PM.mix_l ap e
end
open Classical in
noncomputable def stays (B H:PM) (fs:List Addr) (a:Addr):Bool:=decide ((∃ o,B a=some o)∨∃ o,H a=some o∧a ∉ fs)
noncomputable def d9 (h:Heap) (B H:PM) (fs:List Addr):Heap:=hideAll h ((List.range h.objs.size).filter fun a=>!stays B H fs a)
open Classical in
theorem gM {h:Heap}{B H:PM}{fs:List Addr}{a:Addr}{o:Obj} (e:(d9 h B H fs).get? a=some o):h.get? a=some o∧((∃ o,B a=some o)∨∃ o,H a=some o∧a ∉ fs):=by
 have q:=of_hideAll _ e
 refine⟨q,?_⟩
 cases z:stays B H fs a with
 | true=>exact of_decide_eq_true z
 | false=>exact nk3 ((hideAll_none (h:=h) _ (List.mem_filter.mpr ⟨List.mem_range.mpr (Heap.lt_size q),by rw[z];rfl⟩)).symm.trans e)
open Classical in
theorem tD {h:Heap}{B H:PM}{fs:List Addr}{a:Addr}{o:Obj} (e:h.get? a=some o) (q:(∃ o,B a=some o)∨∃ o,H a=some o∧a ∉ fs):(d9 h B H fs).get? a=some o :=
 hideAll_get _ e fun m=>by
  have z:=(List.mem_filter.mp m).2
  rw[show stays B H fs a=true from decide_eq_true q]at z
  exact nk6 z
open Classical in
noncomputable def t9 (H:PM) (fs:List Addr):PM:=fun a=>if a ∈ fs then H a else none
theorem JK {H:PM}{fs:List Addr}{a:Addr} (h:a ∈ fs):t9 H fs a=H a:=if_pos h
theorem Kq {H:PM}{fs:List Addr}{a:Addr}{o:Obj} (e:t9 H fs a=some o):H a=some o:=by
 unfold t9 at e
 by_cases h:a ∈ fs
 ·rw[if_pos h]at e;exact e
 ·rw[if_neg h]at e;exact nk3 e
end Mine
end
section
namespace Mine
theorem Cp {s:Stmt}{q:List Stmt × List ExceptHandler × List Stmt × List Stmt} (h:GC s=some q):∃ p,s=.Try q.1 q.2.1 q.2.2.1 q.2.2.2 p:=by
 cases s with
 | Try b x o f p=>exact⟨p,by rw[← Option.some.inj h]⟩
 | _=>exact nk3 h
theorem Cm {s:Stmt}{e:Expr} (h:Fz s=some e):∃ p,s=.Return (some e) p:=by
 cases s with
 | Return v p=>exact⟨p,by rw[← show v=some e from h]⟩
 | _=>exact nk3 h
theorem vF {l:List Stmt}{e:Expr} (h:Ad l=some e):∃ p,l=[.Return (some e) p] :=
 ob h fun s h1 h=>(Cm h).imp fun p q=>by rw[eA h1,q]
theorem BV {l:List Stmt} (h:Br l=true):∃ k p q,l=[.Return (some (.Constant .none k p)) q]:=by
 obtain⟨u,hu,h⟩:=mH h
 obtain⟨c,hc,h⟩:=mH h
 obtain⟨k,p,e⟩:=wI hc
 obtain⟨q,e2⟩:=vF hu
 refine⟨k,p,q,?_⟩
 rw[e2,e]
 cases c with
 | none=>rfl
 | _=>exact nk6 h
theorem Hc {h:ExceptHandler}{n:Str} (e:Of h=some n):∃ p2 k p3 p4 p5,h=.ExceptHandler (some (.Name n p2)) none [.Return (some (.Constant .none k p3)) p4] p5:=by
 obtain⟨ty,nm,bd,p5⟩:=h
 refine ob (x:=ty) e fun ty h1 e=>aD e fun h2 e=>aD e fun h3 e=>?_
 obtain⟨p2,hn⟩:=d4 e
 obtain⟨k,p,q,hb⟩:=BV h3
 exact⟨p2,k,p,q,p5,by rw[h1,hn,show nm=none from Option.isNone_iff_eq_none.mp h2,show bd=_ from hb]⟩
theorem w6 {b:List Stmt}{r:Expr × Str} (h:cX b=some r) {P:Prop} (k:∀ p1 p2 k p3 p4 p5 p6,b=[.Try [.Return (some r.1) p1] [.ExceptHandler (some (.Name r.2 p2)) none [.Return (some (.Constant .none k p3)) p4] p5] [] [] p6]→P):P :=
 ob h fun s h1 h=>ob h fun q h2 h=>ob h fun e h3 h=>ob h fun x h4 h=>ob h fun n h5 h=>aD h fun h6 h=>aD h fun h7 h=>by
  obtain⟨p6,e2⟩:=Cp h2
  obtain⟨p1,e3⟩:=vF h3
  obtain⟨p2,kk,p3,p4,p5,e5⟩:=Hc h5
  exact k p1 p2 kk p3 p4 p5 p6 (by rw[eA h1,e2,e3,eA h4,e5,bN h6,bN h7,← Option.some.inj h])
theorem Kn {l:List (Str × PV)}{x:Str}{u:PV} (h:sF l=true) (e:lk x l=some u):∃ y,u=.f y:=by
 induction l with
 | nil=>exact nk3 e
 | cons p r ih =>
  obtain⟨y,hy,h⟩:=mH (p:=fun _=>sF r) h
  exact AM e (fun _ e=>⟨y,Option.some.inj e ▸ nG hy⟩) fun _ e=>ih h e
section
variable {w:World}{K:Frag}{T:bQ}{X:zW}{C C':bW}{n n':Nat}{H:PM}{F:Fr}{c:Cf}{s:Shared}{st:St}{h:Heap}{env:Env}
theorem Ok.try_ (o:Ok ⟨w,K,T,X,C,n⟩ H F c) (R:aC w H F.env c st h):Ok ⟨w,K,T,⟨d9 h c.B H c.fs,t9 H c.fs⟩,C,n⟩ H F c:=by
 have no:∀ {L:Addr},c.B L=none→(∀ o,H L=some o→L ∈ c.fs)→(d9 h c.B H c.fs).get? L=none:=fun {L} b m=>by
  cases z:(d9 h c.B H c.fs).get? L with
  | none=>rfl
  | some o'=>exact(gM z).2.elim (fun y=>y.elim fun o y=>nk3 (b.symm.trans y)) fun y=>y.elim fun o y=>absurd (m o y.1) y.2
 have nB:∀ {L:Addr}{ob:Obj},H L=some ob→c.B L=none:=fun {L ob} a=>by
  cases q:c.B L with
  | none=>rfl
  | some o'=>exact nk3 ((R.bh L o' q).symm.trans a)
 exact⟨o.ro,o.k,fun a ob e=>(gM e).2.imp (fun y=>y.elim fun o' y=>Option.some.inj ((R.b a o' y).symm.trans (gM e).1) ▸ y) fun y=>y.elim fun o' y=>⟨Option.some.inj (((R.hh a o' y.1).is y.2).symm.trans (gM e).1) ▸ y.1,y.2⟩,fun a ob e=>Kq e,
  fun e he=>⟨(o.outer e he).1,(o.outer e he).2.imp fun L q=>q.imp fun ob q=>⟨q.1,no (nB q.2.2.1) fun _ _=>q.2.2.2.1,q.2.2⟩⟩,o.fkind,
  o.fframe.imp fun L q=>⟨q.1,q.2.2.elim (fun z=>by rw[z];exact no (R.owB R.ix.loc) fun o e=>nk3 ((R.owH R.ix.loc).symm.trans e)) fun b=>b.elim fun ob b=>no (nB b.1) fun _ _=>b.2.1,q.2.2⟩,o.fsD⟩
theorem IS (hK:cW w K T) {cx:Cx} (hF:aV ⟨w,K,T,X,C,n⟩ F cx) {A:Around} (KI:K.In s.heap) {x:Str}{a:Nat} (h:wF T cx x=some a) {pos:Pos}{Q:Value→Shared→Prop}{E:Value→Shared→Prop} (q:Q (.ref a) s):wpAny (model pw w) A (eval (.Name x pos) F.env) Q E s :=
 ob h fun k hk h=>aD h fun hg h=>ob h fun y hy h=>by
  rw[show k=.globalImplicit from beq_iff_eq.mp hg]at hk
  refine wpAny_Name (ks_loadName_global hF.kind (hF.names _ _ hk nofun) (zA (Γ:=⟨w,K,T,X,C,n⟩) hK hF.globals hF.builtins KI hy fun v fv=>?_)) (iV hk).1
  rw[show v=.ref a from(vJ h ▸ fv:aO w (fun a=>K.lookup a) v (.top a))];exact q
theorem aV.cg {X':zW}{cx:Cx} (q:aV ⟨w,K,T,X,C,n⟩ F cx):aV ⟨w,K,T,X',C,n⟩ F cx:=⟨q.kind,q.names,q.free,q.cells,q.globals,q.builtins,q.handled,q.frames,q.frame,q.depth,q.units⟩
end
section
variable {w:World}{K:Frag}{s:Shared}
theorem GZ {h:Heap}{C:Addr} (KI:K.In h) (q:ktsIn K C "BaseException" = true) {P:Prop} (k:∀ nm qn N bs bm hdct sn sub ab col dd k0 k1 k2 k3 k5 newId,h.get? C=some (excClassObj nm qn C N bs bm hdct sn sub ab col dd k0 k1 k2 k3 k5 newId)→bm.contains (.type "BaseException")=true→P):P:=by
 obtain⟨nm,qn,N,bs,bm,hdct,sn,sub,ab,col,dd,k0,k1,k2,k3,k5,newId,hC,hb,_⟩:=kts_cls KI q
 exact k nm qn N bs bm hdct sn sub ab col dd k0 k1 k2 k3 k5 newId hC hb
theorem KZ {cls ea:Addr}{oe:Obj}{A:Around} (f:ktsIn K cls "BaseException" = true) (KI:K.In s.heap) (he:s.heap.get? ea=some oe) (hc:oe.cls=.ref cls) {Q:Bool→Shared→Prop}{E:Value→Shared→Prop} (q:Q true s):wpAny (model pw w) A (excMatches (.ref ea) (.ref cls)) Q E s :=
 GZ KI f fun _ _ _ _ _ _ _ _ _ _ _ _ _ _ _ _ _ hC hb=>wpAny_excMatches_sub_self hC he hc hb q
end
inductive G4 (Γ:Gm) (F:Fr) (e:Value) (h:Heap):Prop where
 | mk (ea:Addr) (a0:Value) (oe:Obj) (he:e=.ref ea) (k0:h.get? ea=some oe) (kc:oe.cls=.ref Γ.T.fail) (k1:Γ.X.base.StaysIn h) (k2:h.FunFrames Γ.X.base (F.fenv::F.outer)) (k3:h.TracedW Γ.X.base ea (.ref Γ.T.fail) a0) (k4:∀ a o,Γ.X.H0 a=some o→(∀ vs,o.data ≠ .fields vs)→∃ sl,h.get? a=some { o with slots:=sl }):G4 Γ F e h
section
variable {Γ:Gm}{F:Fr}{A:Around}{e:Value}{s:Shared}{Q:Unit→Shared→Prop}{E:Value→Shared→Prop}
theorem Dm {ea:Addr}{a0 fl:Value} (k1:Γ.X.base.StaysIn s.heap) (k2:s.heap.FunFrames Γ.X.base (F.fenv::F.outer)) (k3:s.heap.TracedAtW Γ.X.base ea (.ref Γ.T.fail) a0 fl) (k4:∀ a o,Γ.X.H0 a=some o→(∀ vs,o.data ≠ .fields vs)→∃ sl,s.heap.get? a=some { o with slots:=sl }) (q:∀ s',G4 Γ F (.ref ea) s'.heap→aS s s'→Q () s'):wpAny (model pw Γ.w) A (setFlight (.ref ea) none) Q E s :=
 wpAny_setFlight_noneW k1 k2 k3 fun h m1 m2 m3 m4=>by
  obtain⟨oe,vs',T',oT,ts,he,⟨hc,h0⟩,_⟩:=id m3
  exact q _ ⟨ea,a0,oe,rfl,he,hc,m1,m2,m3,fun a o e n=>(k4 a o e n).imp fun sl q=>m4 _ _ q n⟩ ⟨rfl,rfl⟩
theorem ET {env:Env} (hfr:F.A.frames=some (F.fenv::F.outer)) (hf:env.frame=F.fenv.frame) (u:Up Γ F e s.heap) (q:∀ s',G4 Γ F e s'.heap→aS s s'→Q () s'):wpAny (model pw Γ.w) F.A (noteFrame e env) (fun _ s₃=>wpAny (model pw Γ.w) F.A (setFlight e none) Q E s₃) E s :=
 uM hfr hf u fun s₃ u₃ hr z₃=>by
  obtain⟨⟨ea,LF,rfl,hLF,hb,hx⟩,stays,frames,keep⟩:=id u₃
  obtain⟨a0,ta⟩:=(hr ea LF rfl hLF).at_
  exact Dm stays frames ta keep fun s' f z=>q s' f (z₃.trans z)
theorem F4 (B:iW Γ.w Γ.K Γ.T) {cx:Cx} (hF:aV Γ F cx) {nm:Str} (f3:wF Γ.T cx nm=some Γ.T.fail) {x:Expr}{p1 p2 p3 p4 p5 p6:Pos}{k:Nat}{Q:Flow→Shared→Prop}{E:Value→Shared→Prop} (KI:∀ h,Γ.X.base.StaysIn h→Γ.K.In h)
  (h:wpAny (model pw Γ.w) F.A (eval x F.env) (fun v s₂=>Q (.ret v) s₂) (fun er s₂=>Up Γ F er s₂.heap∧∀ s₄,G4 Γ F er s₄.heap→aS s₂ s₄→Q (.ret .none) s₄) s) :
  wpAny (model pw Γ.w) F.A (execs [.Try [.Return (some x) p1] [.ExceptHandler (some (.Name nm p2)) none [.Return (some (.Constant .none k p3)) p4] p5] [] [] p6] F.env) Q E s:=by
 refine wpAny_execs_cons (wpAny_Try_except (wpAny_execs_cons (wpAny_Return_some (wpAny_mono h (fun v s q=>q) fun er s₂ q=>?_))))
 refine ET hF.frames hF.frame q.1 fun s₃ f z₃=>?_
 cases f with | mk ea a0 oe he k0 kc k1 k2 k3 k4 =>
 subst he
 refine wpAny_handleBy_cons (codeAny_handlers_test (IS (s:=s₃) B.k hF (KI _ k1) f3 (KZ B.fcls (KI _ k1) k0 kc (codeAny_handlers_suite (Dm k1 k2 k3.at k4 fun s₄ f z₄=>?_))))) (fun q=>nomatch q)
 exact wpAny_execs_cons (wpAny_Return_some (wpAny_Constant_none (q.2 s₄ f (z₃.trans z₄))))
end
section
variable {w:World}{K:Frag}{T:bQ}{C:bW}{n:Nat}
theorem FX (B:iW w K T) {m:Nat} (hC:fH w K T n C):LY w K T C m n:=by
 intro A X H F st a vs ws c s Q E q p C' x hfr hh hd hu o R ps h0 h5 e0 g
 refine w6 h5 fun p1 p2 kk p3 p4 p5 p6 hbody=>?_
 replace e0:aN C' x=((eF (gd (sF q.2.1) (gd (sF q.2.2) ((wF T ⟨a,q.1.sc,m⟩ p.2).bind fun a=>gd (Nat.beq a T.fail) (some ()))))).bind fun _=>FK st.g (aN C (E0 T ⟨a,q.1.sc,m⟩ p.1 ⟨[],[],q.2.1,q.2.2⟩))).bind fun q=>.ok (q.1,{ st with g:=q.2 }):=e0
 cases hz:gd (sF q.2.1) (gd (sF q.2.2) ((wF T ⟨a,q.1.sc,m⟩ p.2).bind fun a=>gd (Nat.beq a T.fail) (some ()))) with
 | none=>rw[hz]at e0;exact absurd e0 g.go
 | some u =>
 rw[hz]at e0
 replace e0:aN C' x=(FK st.g (aN C (E0 T ⟨a,q.1.sc,m⟩ p.1 ⟨[],[],q.2.1,q.2.2⟩))).bind fun q=>.ok (q.1,{ st with g:=q.2 }):=e0
 refine aD hz fun f1 hz=>aD hz fun f2 hz=>ob hz fun fa f3 hz=>aD hz fun f4 _=>?_
 obtain⟨ap,R0,hall⟩:=R.drop
 refine n9 (C:=C) (m:=m) (X:=X) B hfr hh hd hu (o.kin R) ps h0 fun fd env₁ s₁ mL mC he hF₁ ic h3 b1 b2 zz=>?_
 have thaw:∀ {P:Str→Prop}{m:Str→Option Value}{l:List (Str × PV)},sF l=true→BI w c P m l→BI w c.vc P m l:=fun f b x u e=>⟨(b x u e).1,(b x u e).2.1,(b x u e).2.2.imp fun y q=>⟨q.1,by obtain⟨z,rfl⟩:=Kn f e;exact q.2⟩⟩
 have R₁:=R0.call ic (by rw[he];rfl) rfl (thaw f1 b1) (thaw f2 b2)
 have oh:=o.hide ap
 have o0:Ok ⟨w,K,T,X,C',n + 1⟩ (PM.mix H (mJ c s.heap)) F c.vc:=⟨oh.ro,oh.k,oh.base,oh.h0,oh.outer,oh.fkind,oh.fframe,oh.fsD⟩
 have o₁:=(o0.call (A:=A.deeper env₁) (C:=C) (n:=n) (cs:=env₁.cells) R0 hF₁.kind (L:=s.heap.objs.size) (by rw[he];rfl) (by rw[he];rfl) (get?_size _))
 have o₂:=o₁.try_ R₁
 have nB:∀ {a:Addr}{o:Obj},c.B a=some o→H a=none∧c.ow a=none:=fun {a o} e=>⟨R.bh a o e,by
  cases q:c.ow a with
  | none=>rfl
  | some t=>exact nk3 ((R.owB q).symm.trans e)⟩
 have mP:∀ {a ob},c.B a=some ob→(d9 s₁.heap (c.vc.call F.env.locals env₁.locals env₁.cells).B (PM.mix (PM.mix H (mJ c s.heap)) (dR c.vc s.heap)) (c.vc.call F.env.locals env₁.locals env₁.cells).fs).get? a=some ob:=fun e=>tD (R₁.b _ _ e) (.inl ⟨_,e⟩)
 rw[hbody]
 refine F4 (Γ:=⟨w,K,T,⟨d9 s₁.heap (c.vc.call F.env.locals env₁.locals env₁.cells).B (PM.mix (PM.mix H (mJ c s.heap)) (dR c.vc s.heap)) (c.vc.call F.env.locals env₁.locals env₁.cells).fs,t9 (PM.mix (PM.mix H (mJ c s.heap)) (dR c.vc s.heap)) (c.vc.call F.env.locals env₁.locals env₁.cells).fs⟩,C,n⟩) B hF₁.cg (f3.trans (congrArg some (Nat.eq_of_beq_eq_true f4))) (fun h k1 a ob e=>k1 _ _ (mP (o.k a ob e))) ?_
 refine sM (Γ:=⟨w,K,T,⟨d9 s₁.heap (c.vc.call F.env.locals env₁.locals env₁.cells).B (PM.mix (PM.mix H (mJ c s.heap)) (dR c.vc s.heap)) (c.vc.call F.env.locals env₁.locals env₁.cells).fs,t9 (PM.mix (PM.mix H (mJ c s.heap)) (dR c.vc s.heap)) (c.vc.call F.env.locals env₁.locals env₁.cells).fs⟩,C,n⟩) B.k B.zip hC 40 _ (L6 A (F.fenv::F.outer) env₁) ⟨a,q.1.sc,m⟩ p.1 ⟨[],[],q.2.1,q.2.2⟩ hF₁.cg _ s₁ _ _ o₂ R₁ ⟨fun b st₂ er c₂ y s₂ l₂ R₂ p₂ z₂=>?_,fun er ev s₂ u z₂=>?_,fun er=>?_⟩
 ·rw[show aN C (E0 T ⟨a,q.1.sc,m⟩ p.1 ⟨[],[],q.2.1,q.2.2⟩)=.ok (b,st₂) from er]at e0
  cases b with
  | f z =>
   obtain⟨l₃,R₃⟩:=R.stay (h₂:=s₂.heap) (B':=c₂.B) l₂.b R₂.b (fun a o e=>by
    have z:=PM.mixN (R₂.bh a o e)
    refine⟨(PM.mixN z.2).2,?_⟩
    cases q:c.ow a with
    | none=>rfl
    | some t=>exact(R.owG q).elim fun ob y=>nk3 ((R₂.bh a o e).symm.trans (hall a ob (PM.mix_r ((zD q).trans y.1))))) fun a o e=>by have q:=R₂.hh a o (hall a o e);rw[← l₂.fs]at q;exact q
   exact g.ok (.f z) st e0 _ y s₂ l₃ R₃ p₂ (zz.trans z₂)
  | _=>exact absurd e0 g.go
 ·rw[show aN C (E0 T ⟨a,q.1.sc,m⟩ p.1 ⟨[],[],q.2.1,q.2.2⟩)=.raise from er]at e0
  refine⟨u,fun s₄ f z₄=>?_⟩
  cases f with | mk ea a0 oe he k0 kc k1 k2 k3 k4 =>
  obtain⟨l₃,R₃⟩:=R.stay (h₂:=s₄.heap) (B':=c.B) (.refl _) (fun a o e=>k1 _ _ (mP e)) (fun a o e=>nB e) fun a o e=>by
   have q:=hall a o e
   by_cases m:a ∈ F.env.locals::c.fs
   ·obtain⟨o',q1,q2⟩:=o₁.fsD a m
    obtain rfl:=Option.some.inj (q.symm.trans q1)
    exact .inr ⟨m,k4 a o ((JK m).trans q) q2⟩
   ·exact .inl (k1 _ _ (tD ((R₁.hh a o q).is m) (.inr ⟨_,q,m⟩)))
  exact g.ok (.f .none) st e0 _ .none s₄ l₃ R₃ .none ((zz.trans z₂).trans z₄)
 ·exact g.go (by rw[show aN C (E0 T ⟨a,q.1.sc,m⟩ p.1 ⟨[],[],q.2.1,q.2.2⟩)=.stuck from er]at e0;exact e0)
theorem JQ (B:iW w K T) (m:Nat) (n:Nat):fH w K T n (run T m n):=by
 induction n with
 | zero=>exact fun A X H F st _ a vs ws c s Q E hfr hh hd hu o R ps g=>absurd rfl g.go
 | succ n ih=>exact D3 B ih (FX B ih)
end
end Mine
end
section
namespace Mine
section
variable {w:World}{K:Frag}{T:bQ}
theorem vO {M:Model}{A:Around}{E:Value→Shared→Prop}{s:Shared}{e:Addr}{oe:Obj}{vs:Array Value}{Q:Unit→Shared→Prop} (he:s.heap.get? e=some oe) (hd:oe.data=.fields vs) (h1:vs[1]? = some .none) (q:Q () s):wpAny M A (setFlight (.ref e) none) Q E s:=by
 unfold setFlight
 refine wpAny_bind (wpAny_field he hd h1 ?_)
 rw[if_neg (by simp)]
 exact wpAny_pure q
theorem Bk (hq:ktsIn K T.fail "BaseException" = true):vG w K T:=by
 intro A s env x Q E hh h
 unfold raiseStmt
 refine wpAny_bind (wpAny_mono h (fun v s₁ h₁=>?_) fun _ _ x=>x)
 refine Exists.elim h₁ fun e h₁=>?_
 have KI:=h₁.2.1
 refine Exists.elim h₁.2.2.1 fun oe z=>Exists.elim z fun vs z=>GZ KI hq fun nm qn N bs bm hdct sn sub ab col dd k0 k1 k2 k3 k5 newId hC hbase=>?_
 have he:=z.1
 have hc:=z.2.1
 have hd:=z.2.2.1
 have h1:=z.2.2.2
 have hE:=h₁.2.2.2
 rw[h₁.1]
 clear h₁ z KI
 have hcB:(Value.ref T.fail::bm).contains (.type "BaseException")=true:=by rw[List.contains_cons,hbase,Bool.or_true]
 obtain⟨hp,g,d,tk,os⟩:=s₁
 have he:hp.get? e=some oe:=he
 have hC:hp.get? T.fail=some (excClassObj nm qn T.fail N bs bm hdct sn sub ab col dd k0 k1 k2 k3 k5 newId):=hC
 repeat (first | (with_reducible refine wpAny_bind (vO he hd h1 ?_)) | (with_reducible refine wpAny_loadPart_at he ?_;rw[hc]) | with_reducible refine wpAny_loadPart_at hC ?_ | (with_reducible refine wpAny_isSubtype_exc hC ?_;rw[hcB]) | wp_step)
 exact wpAny_raiseNew_none hh hE
end
open Builtin Builtin.ObjectAttr in
section
end
section
open Builtin Builtin.ObjectAttr
section
variable {w:World}{A:Around}{E:Value→Shared→Prop}{h:Heap}{g:Array GenState}{d:Drawn}{t:Nat}{os:OsState}
variable {nm q:Str}{C N x:Addr}{bs bm:List Value}{sn:List Str}{sub:List Value}{ab:Bool}{col:Option Bool}{dd:Option Addr}{k0 k1 k2 k3 k5:Option Value}{B newId sa owner:String}
 {mN mA:Str→Option Value}{name:Str}{v:Value}{o:Obj}{vs:Array Value}
theorem DA {tk:Tok}{Q:Fin→Shared→Prop} (SF:StoreFacts B bm sa owner)
  (hC:h.get? C=some (excClassObj nm q C N bs bm true sn sub ab col dd k0 k1 k2 k3 k5 newId)) (hn:h.Ns N mN) (hna:mN name=none)
  (hB:typeLookup (.type B) name=pure none) (hx:h.get? x=some o) (hc:o.cls=.ref C) (hd:o.data=.fields vs) (hdn:o.dict=none)
  (hq:∀ h' tk',h'.get? x=some { o with dict:=some h.objs.size }→h'.Ns1 h.objs.size (fun y=>if y=name then some v else none)→(∀ b ob,b ≠ x→h.get? b=some ob→h'.get? b=some ob)→Q (.done (.ret .none)) ⟨h',g,d,tk',os⟩) :
  wpAny (model pw w) A (Builtin.«object.__setattr__» ⟨[.ref x,.str name tk,v],[]⟩) Q E ⟨h,g,d,t,os⟩:=by
 have hpass:=SF.passes (.ref x)
 have lt:=Heap.lt_size hx
 have hxs:x ≠ h.objs.size:=Nat.ne_of_lt lt
 unfold Builtin.«object.__setattr__»
 repeat (first | rw[refuse_eq] | (rw[refuseLoop_ref,hpass]) | (with_reducible refine wpAny_loadPart_at hx ?_;rw[hc]) | with_reducible refine wpAny_mroOf_exc hC ?_ | (with_reducible refine wpAny_typeLookup_exc hC hn SF.mro hB ?_;rw[hna]) | wp_step)
 rw[hdn,if_neg (by simp[typeHasDict])]
 split
 ·rename_i hcd
  cases hcd
 split
 ·rename_i c hcd
  rw[hd]at hcd;cases hcd
 ·have hx₁:(h.push { cls:=.type "dict",data:=.dict #[] }).get? x=some o:=Heap.get?_push_of_some _ hx
  refine wpAny_bind (wpAny_alloc' (wpAny_bind (wpAny_update' hx₁ (wpAny_pure ?_))))
  have hgd:((h.push { cls:=.type "dict",data:=.dict #[] }).update x fun o=>{ o with dict:=some h.objs.size }).get? h.objs.size=some { cls:=.type "dict",data:=.dict #[] } :=
   (Heap.get?_update_ne _ _ _ _ hxs.symm).trans (Heap.get?_push_at rfl rfl)
  have hnd:((h.push { cls:=.type "dict",data:=.dict #[] }).update x fun o=>{ o with dict:=some h.objs.size }).Ns h.objs.size (fun _=>none) :=
   ⟨_,#[],_,hgd,rfl,fun e he=>absurd he (by simp),fun _=>rfl⟩
  show wpAny _ _ (storeInDict h.objs.size (.str name tk) name v) _ _ _
  unfold storeInDict newKeyGuard
  refine wpAny_bind (wpAny_pure (wpAny_bind (wpAny_nsSet1 (Heap.Ns1.of_empty hnd) fun h' hn' hs=>?_)))
  obtain⟨oD,esD,epD,hoD,hdD,hcD⟩:=hn'.count (Within.cons name v Within.nil)
  refine wpAny_bind (wpAny_lookBehind hoD (by rw[hdD];exact pastItsLine_dict (Nat.le_trans hcD (by rw[List.length_cons,List.length_nil,sizeLine_eq];omega))) ?_)
  wp_walk
  refine hq h' _ ((hs.2 x hxs).trans (Heap.get?_update_self _ hx₁ (Obj.isFreed_of_fields hd))) hn' fun b ob hbx hb=>?_
  exact(hs.2 b (Nat.ne_of_lt (Heap.lt_size hb))).trans ((Heap.get?_update_ne _ _ _ _ hbx).trans (Heap.get?_push_of_some _ hb))
theorem tO {Q:Unit→Shared→Prop} (SF:StoreFacts B bm sa owner)
  (hC:h.get? C=some (excClassObj nm q C N bs bm true sn sub ab col dd k0 k1 k2 k3 k5 newId)) (hn:h.Ns N mN) (hns:mN "__setattr__" = none) (hna:mN name=none)
  (hB:typeLookup (.type B) name=pure none) (hx:h.get? x=some o) (hc:o.cls=.ref C) (hd:o.data=.fields vs) (hdn:o.dict=none)
  (hq:∀ h' tk',h'.get? x=some { o with dict:=some h.objs.size }→h'.Ns1 h.objs.size (fun y=>if y=name then some v else none)→(∀ b ob,b ≠ x→h.get? b=some ob→h'.get? b=some ob)→Q () ⟨h',g,d,tk',os⟩) :
  wpAny (model pw w) A (setAttr (.ref x) name v) Q E ⟨h,g,d,t,os⟩:=by
 have f3:=SF.slot.bind (.ref x)
 unfold setAttr callSpecial? specialOf
 repeat (any_goals (first | assumption | (with_reducible refine wpAny_loadPart_at hx ?_;rw[hc]) | (with_reducible refine wpAny_typeLookup_exc hC hn SF.mro SF.slot.lookup ?_;rw[hns]) | wp_step))
 refine codeAny_call_builtin SF.slot.plain SF.entry (wpAny_check_sa SF hC hx hc (DA SF hC hn hna hB hx hc hd hdn fun h' tk' a1 a2 a3=>?_))
 repeat (any_goals (first | assumption | wp_step))
 exact hq h' tk' a1 a2 a3
end
end
end Mine
end
section
namespace Mine
inductive xA (K:Frag) (C:Addr):Prop where
 | mk (nm:_) (q:_) (N:_) (bs:_) (sn:_) (sub:_) (ab:_) (col:_) (dd:_) (k0:_) (k1:_) (k2:_) (k3:_) (k5:_) (g0:K.lookup C=some (excClassObj nm q C N bs [.type "Exception",.type "BaseException",.type "object"] true sn sub ab col dd k0 k1 k2 k3 k5 "Exception.__new__")) (oN:_) (es:_) (ep:_) (fI:_) (oI:_) (fi:_) (s0:_) (s1:_) (s2:_) (p1:_) (p2:_) (p3:_) (p4:_) (p5:_) (p6:_) (p7:_) (p8:_) (g1:K.lookup N=some oN) (g2:oN.data=.dict es ep) (g3:StrKeys es) (g4:nsFind es "__init__" = some (.ref fI)) (g5:nsFind es "__setattr__" = none) (g6:nsFind es "text" = none) (g7:nsFind es "line" = none) (g8:K.lookup fI=some oI) (g9:oI.cls=.type "function") (OL:Ah K fI fi) (OR:fi.ps=[s0,s1,s2]) (Oe:kindOf fi.sc s0=some .local) (g13:kindOf fi.sc s1=some .local) (g14:kindOf fi.sc s2=some .local) (g15:fi.body=[.Assign [.Attribute (.Name s0 p1) "text" p2] (.Name s1 p3) p4,.Assign [.Attribute (.Name s0 p5) "line" p6] (.Name s2 p7) p8]):xA K C
theorem CX:typeLookup (.type "Exception") "text" = pure none:=by rw[typeLookup_type,builtinLookup_eq_fast];kernel_rfl
theorem Du:typeLookup (.type "Exception") "line" = pure none:=by rw[typeLookup_type,builtinLookup_eq_fast];kernel_rfl
theorem Gk {h h':Heap}{a:Addr}{m:Str→Option Value} (x:h.Ns a m) (k:∀ o,h.get? a=some o→h'.get? a=some o):h'.Ns a m:=x.imp fun o q=>q.imp fun es q=>q.imp fun ep q=>⟨k _ q.1,q.2⟩
section
variable {w:World}{K:Frag}{T:bQ}
theorem xP {A:Around}{E:Value→Shared→Prop}{s:Shared}{env:Env}{x a y:Str}{p1 p2 p3 p4:Pos}{e v:Value}{Q:Flow→Shared→Prop} (hx:(x == ("__debug__" : Str))=false) (hy:(y == ("__debug__" : Str))=false)
  (l1:∀ {Q:Value→Shared→Prop}{s':Shared},s'.heap=s.heap→Q v s'→wpAny (model pw w) A (loadName env y) Q E s') (l2:∀ {Q:Value→Shared→Prop}{s':Shared},s'.heap=s.heap→Q e s'→wpAny (model pw w) A (loadName env x) Q E s')
  (h:wpAny (model pw w) A (setAttr e a v) (fun _=>Q .next) E s):wpAny (model pw w) A (exec (.Assign [.Attribute (.Name x p1) a p2] (.Name y p3) p4) env) Q E s:=by
 refine wpAny_Assign_stores (wpAny_Name (l1 rfl ?_) hy) rfl rfl
 have he:(assignEach [.Attribute (.Name x p1) a p2] env).map (·.2)=[assign (.Attribute (.Name x p1) a p2) env]:=by rw[d5 rfl];rfl
 rw[he]
 show wpAny _ _ (do let ov ← holding [v] (eval (.Name x p1) env);standAt p2.atName;holding [v,ov] (setAttr ov a v);release [v,ov] []) _ _ s
 refine wpAny_bind (wpAny_holding (wpAny_Name (l2 rfl ?_) hx))
 exact wpAny_bind (wpAny_standAt (wpAny_bind (wpAny_holding (wpAny_mono h (fun _ s' q=>wpAny_release q) fun _ _ z=>z))))
theorem I4 (hK:xA K T.fail) (hlim:∀ h:Heap,K.In h→h.NoLimit):C4 w K T:=by
 intro A s v₁ v₂ Q E hh hd hu KI q
 cases hK with | mk nm qn N bs sn sub ab col dd k0 k1 k2 k3 k5 hCK oN es ep fI oI fi s0 s1 s2 p1 p2 p3 p4 p5 p6 p7 p8 hN hNd hNk n1 n2 n3 n4 hI hIc FI f1 f2 f3 f4 f5 =>
 obtain⟨hp,g,d,tk,os⟩:=s
 refine wpAny_call_exc_init (hrest:=by show 2 ≤ sizeLine;rw[sizeLine_eq];omega) PySem.F.excBase_Exception (KI _ _ hCK) ⟨oN,es,ep,KI _ _ hN,hNd,hNk,fun _=>rfl⟩ n1 (KI _ _ hI) hIc (fun h1 e mk=>?_)
 cases FI with | mk ob fd j1 j2 j3 j4 j5 j6 j7 j8 j9 j10 j11 j12 j13 =>
 have K1:K.In h1:=fun a o z=>mk.keeps _ _ (KI _ _ z)
 have hkf:∀ {x k},kindOf fi.sc x=some k→(callEnvC fd h1.objs.size fI).kindOf x=some k:=fun {x k} z=>by
  show fd.scope.names.lookup x=some k
  rw[j4];exact dT z
 have nd:s0 ≠ s1∧s0 ≠ s2∧s1 ≠ s2:=by
  rw[f1]at j13
  simp only[List.nodup_cons,List.mem_cons,List.not_mem_nil,or_false,not_or]at j13
  exact⟨j13.1.1,j13.1.2,j13.2.1⟩
 refine wpAny_call (codeAny_call_cells (by rw[depth_under_make];omega) (K1 _ _ j1) j2 (hlim _ K1) (codeRec_of K1 j8) j3 (j12 _ (by rw[f1];rfl)) j5 (fun x hx=>?_) (fun s₁ ic=>?_) (by rw[j4];exact j9) (by rw[j4];exact j10) (by rw[j4];exact j11))
 ·have hm:x.1 ∈ fi.ps:=(List.of_mem_zip hx).1
  rw[f1]at hm
  refine .inl ?_
  rw[j4]
  rcases List.mem_cons.mp hm with z | hm
  ·rw[z];exact dT f2
  ·rcases List.mem_cons.mp hm with z | hm
   ·rw[z];exact dT f3
   ·rcases List.mem_cons.mp hm with z | hm
    ·rw[z];exact dT f4
    ·cases hm
 obtain⟨m,hm,m0,m1,m2⟩:∃ m,s₁.heap.Ns (callEnvC fd h1.objs.size fI).locals m∧m s0=some (.ref e)∧m s1=some v₁∧m s2=some v₂:=by
  refine⟨_,ic.toInCall.ns,?_,?_,?_⟩<;>(rw[f1];simp[bindL,hkf f2,hkf f3,hkf f4,nd.1,nd.2.1,nd.2.2,nd.1.symm,nd.2.1.symm,nd.2.2.symm])
 have gr:aY h1 s₁.heap:=ic.toInCall.keep
 obtain⟨h2,tk2,rfl,_⟩:=ic.done
 have gr:aY h1 h2:=gr
 have hm:h2.Ns (callEnvC fd h1.objs.size fI).locals m:=hm
 have hk:(callEnvC fd h1.objs.size fI).scope.kind=.function:=by show fd.scope.kind=_;rw[j4];exact j11
 obtain⟨te,he,_,_⟩:=mk.there
 have he2:=gr _ _ he
 have C2:=gr _ _ (mk.keeps _ _ (KI _ _ hCK))
 have N2:h2.Ns N (nsFind es):=⟨oN,es,ep,gr _ _ (mk.keeps _ _ (KI _ _ hN)),hNd,hNk,fun _=>rfl⟩
 have eC:e ≠ T.fail:=fun z=>by have:=mk.new;rw[z,KI _ _ hCK]at this;cases this
 have eL:(callEnvC fd h1.objs.size fI).locals ≠ e:=fun z=>by
  have:(callEnvC fd h1.objs.size fI).locals=h1.objs.size:=rfl
  rw[this]at z
  have:=Heap.lt_size he
  rw[← z]at this;exact Nat.lt_irrefl _ this
 have eN:N ≠ e:=fun z=>by have:=mk.new;rw[← z,KI _ _ hN]at this;cases this
 rw[f5]
 have load:∀ {h:Heap}{M:Model}{A':Around}{x:Str}{u:Value}{Q:Value→Shared→Prop}{E:Value→Shared→Prop}{s':Shared},s'.heap=h→h.Ns (callEnvC fd h1.objs.size fI).locals m→kindOf fi.sc x=some .local→m x=some u→Q u s'→wpAny M A' (loadName (callEnvC fd h1.objs.size fI) x) Q E s' :=
  fun e1 e2 e3 e4 q=>wpAny_loadName_local hk (hkf e3) (e1 ▸ e2) e4 q
 refine wpAny_execs_cons (xP (e:=.ref e) (v:=v₁) (iV f2).1 (iV f3).1 (fun e1 q=>load e1 hm f3 m1 q) (fun e1 q=>load e1 hm f2 m0 q) ?_)
 refine tO PySem.F.store_Exception C2 N2 n2 n3 CX he2 rfl rfl rfl fun h3 tk3 a1 a2 a3=>?_
 have hm3:h3.Ns (callEnvC fd h1.objs.size fI).locals m:=Gk hm fun o z=>a3 _ _ eL z
 have N3:h3.Ns N (nsFind es):=Gk N2 fun o z=>a3 _ _ eN z
 have de:h2.objs.size ≠ e:=fun z=>by have:=Heap.lt_size he2;rw[← z]at this;exact Nat.lt_irrefl _ this
 refine wpAny_execs_cons (xP (s:=⟨h3,g,d,tk3,os⟩) (e:=.ref e) (v:=v₂) (iV f2).1 (iV f4).1 (fun e1 q=>load e1 hm3 f4 m2 q) (fun e1 q=>load e1 hm3 f2 m0 q) ?_)
 refine store_attr (ns:=["text"]) (hsz:=by show 1 ≤ sizeLine;rw[sizeLine_eq];omega) (hw:=Within.cons _ _ Within.nil) PySem.F.store_Exception (a3 _ _ eC.symm C2) N3 n2 n4 Du eC ⟨_,a1,rfl,(fun c z=>by cases z),.inr ⟨_,rfl,de,a2⟩⟩ fun h4 tk4 b1 b2 b3=>?_
 obtain⟨o₁,c1,c2,c3,_⟩:=b3 _ a1
 have gg:aY hp h4:=fun b o z=>by
  have z1:=mk.keeps _ _ z
  have z2:=gr _ _ z1
  have be:b ≠ e:=fun y=>by rw[y,mk.new]at z;cases z
  refine b2 b o be (fun o₀ dx y1 y2 y3=>?_) (a3 _ _ be z2)
  rw[a1]at y1;cases y1;cases y2
  rw[y3]at z2
  exact absurd (Heap.lt_size z2) (Nat.lt_irrefl _)
 exact wpAny_execs_nil ⟨rfl,q e ⟨h4,g,d,tk4,os⟩ ⟨rfl,rfl⟩ gg mk.new ⟨o₁,_,c1,c2,c3,rfl⟩⟩
end
end Mine
end
section
namespace Mine
theorem nb {b j k:Nat} (h:Nat.beq j k=false):b + j ≠ b + k:=fun e=>Nat.ne_of_beq_eq_false h (Nat.add_left_cancel e)
theorem bn {b k:Nat}:b ≠ b + (k + 1):=Nat.ne_of_lt (Nat.lt_add_of_pos_right (Nat.succ_pos k))
theorem kO {a b k:Nat} (h:a < b):a ≠ b + k:=Nat.ne_of_lt (Nat.lt_of_lt_of_le h (Nat.le_add_right b k))
theorem qU {b k T:Nat} (e:b + 6 ≤ T) (h:Nat.blt k 6=true):T ≠ b + k:=Nat.ne_of_gt (Nat.lt_of_lt_of_le (Nat.add_lt_add_left (eK h) b) e)
theorem JS {b T:Nat} (e:b + 6 ≤ T):T ≠ b:=qU (k:=0) e rfl
abbrev fP (h:Heap) (z TI TO T:Addr) (b:Bool):Prop :=
 h.get? z=some { cls:=.type "zip",dict:=none,data:=.fields #[rawInt T,.bool b,.bool false,.ref TI,.ref TO],slots:=#[] }
section
variable {w:World}{A:Around}{E:Value→Shared→Prop}{s:Shared}
theorem xL {z TI TO T:Addr}{b:Bool}{oT:Obj}{Q:Bool→Shared→Prop} (hz:fP s.heap z TI TO T b) (hT:s.heap.get? T=some oT)
  (h:∀ h',fP h' z TI TO T true→Heap.SameBut z s.heap h'→Q false { s with heap:=h' }):wpAny (model pw w) A (Builtin.SmallTypes.ownedTupleIsFree (.ref z)) Q E s:=by
 unfold Builtin.SmallTypes.ownedTupleIsFree
 refine wpAny_bind (wpAny_field hz rfl (x:=rawInt T) rfl ?_)
 show wpAny _ _ (loadIfAlive T >>= _) _ _ _
 refine wpAny_bind (fun Γ p hΓ=>?_)
 show Sem.wp _ _ (.loadIfAlive T .pure) _ _ _ _
 rw[Sem.wp_loadIfAlive,hT]
 refine(show wpAny (model pw w) A _ _ _ _ from ?_) Γ p hΓ
 refine wpAny_pure ?_
 simp only[Option.isNone_some,Bool.false_eq_true,if_false]
 refine wpAny_bind ?_
 refine wpAny_field hz rfl (x:=.bool b) rfl ?_
 cases b with
 | true =>
  rw[if_neg (by simp)]
  exact wpAny_pure (h s.heap hz ⟨rfl,fun _ _=>rfl⟩)
 | false =>
  rw[if_pos (by simp)]
  exact wpAny_bind (wpAny_setField_rec hz (by simp) fun h' hz' hs'=>wpAny_pure (h h' hz' hs'))
theorem tT {z TI TO i1 i2 l1 l2 T:Addr}{bb:Bool}{oT:Obj}{k1 k2:Nat}{xs ys:Array Value}{x y:Value}{Q:Value→Shared→Prop} (D:ZipApart z TI TO i1 i2 l1 l2)
  (hz:fP s.heap z TI TO T bb) (hT:s.heap.get? T=some oT) (hTI:IsPair s.heap TI (.ref i1) (.ref i2))
  (h1:s.heap.IsListIter i1 l1 k1) (h2:s.heap.IsListIter i2 l2 k2) (hl1:s.heap.IsList l1 xs) (hl2:s.heap.IsList l2 ys) (hx:xs[k1]? = some x) (hy:ys[k2]? = some y)
  (hQ:∀ h',fP h' z TI TO T true→h'.IsListIter i1 l1 (k1 + 1)→h'.IsListIter i2 l2 (k2 + 1)→IsPair h' s.heap.objs.size x y→h'.objs.size=s.heap.objs.size + 1 →
   (∀ c o,c ≠ z→c ≠ i1→c ≠ i2→s.heap.get? c=some o→h'.get? c=some o)→Q (.ref s.heap.objs.size) { s with heap:=h' }) :
  wpAny (model pw w) A (Builtin.«zip.__next__» ⟨[.ref z],[]⟩) (fun fin s'=>∃ v,fin=.done (.ret v)∧Q v s') E s:=by
 show wpAny _ _ (field (.ref z) 2 >>= _) _ _ _
 refine wpAny_bind (wpAny_field hz rfl (x:=.bool false) rfl ?_)
 show wpAny _ _ (field (.ref z) 3 >>= _) _ _ _
 refine wpAny_bind (wpAny_field hz rfl (x:=.ref TI) rfl ?_)
 refine wpAny_bind (wpAny_seqItems hTI rfl ?_)
 show wpAny _ _ (Builtin.SmallTypes.ownedTupleIsFree (.ref z) >>= _) _ _ _
 refine wpAny_bind (xL hz hT fun h₁ hz₁ hs₁=>?_)
 simp only[Bool.false_eq_true,if_false,← Array.forIn_toList,List.forIn_cons,List.forIn_nil]
 refine wpAny_bind (wpAny_bind (wpAny_bind (wpAny_holding ?_)))
 show wpAny _ _ (Builtin.SmallTypes.nextOf (.ref i1) >>= _) _ _ _
 refine wpAny_bind (wpAny_nextOf_list_item (h1.extBut hs₁.extBut D.i1z) (hl1.extBut hs₁.extBut D.l1z) hx fun h₂ h1₂ hs₂=>wpAny_pure ?_)
 refine wpAny_pure (wpAny_bind (wpAny_bind (wpAny_holding ?_)))
 show wpAny _ _ (Builtin.SmallTypes.nextOf (.ref i2) >>= _) _ _ _
 refine wpAny_bind (wpAny_nextOf_list_item ((h2.extBut hs₁.extBut D.i2z).extBut hs₂.extBut D.i12.symm) ((hl2.extBut hs₁.extBut D.l2z).extBut hs₂.extBut D.l2i1) hy fun h₄ h2₄ hs₄=>wpAny_pure ?_)
 refine wpAny_pure (wpAny_pure ?_)
 show wpAny _ _ (newTuple [x,y] >>= fun t=>ret t) _ _ _
 refine wpAny_bind (wpAny_newTuple ?_)
 have hsz:h₄.objs.size=s.heap.objs.size:=by rw[hs₄.1,hs₂.1,hs₁.1]
 have up:∀ c o,c ≠ z→c ≠ i1→c ≠ i2→s.heap.get? c=some o→h₄.get? c=some o:=fun c o c1 c2 c3 e=>hs₄.extBut _ _ c3 (hs₂.extBut _ _ c2 (hs₁.extBut _ _ c1 e))
 have hz₄:fP h₄ z TI TO T true:=hs₄.extBut _ _ D.i2z.symm (hs₂.extBut _ _ D.i1z.symm hz₁)
 have h1₄:h₄.IsListIter i1 l1 (k1 + 1):=h1₂.extBut hs₄.extBut D.i12
 refine wpAny_pure ⟨_,rfl,?_⟩
 show Q (.ref h₄.objs.size) { s with heap:=h₄.push { cls:=.type "tuple",data:=.seq #[x,y] } }
 have hp:IsPair (h₄.push { cls:=.type "tuple",data:=.seq #[x,y] }) h₄.objs.size x y:=Heap.get?_push_size _ rfl
 rw[hsz]at hp ⊢
 exact hQ _ (Heap.get?_push_of_some _ hz₄) (h1₄.at fun o e=>Heap.get?_push_of_some _ e) (h2₄.at fun o e=>Heap.get?_push_of_some _ e) hp (by rw[Heap.size_push,hsz]) fun c o c1 c2 c3 e=>Heap.get?_push_of_some _ (up c o c1 c2 c3 e)
theorem vN {z TI TO i1 i2 l1 l2 T:Addr}{bb:Bool}{oT:Obj}{k1 k2:Nat}{xs ys:Array Value}{Q:Fin→Shared→Prop} (hh:A.handled=none) (D:ZipApart z TI TO i1 i2 l1 l2)
  (hz:fP s.heap z TI TO T bb) (hT:s.heap.get? T=some oT) (hTI:IsPair s.heap TI (.ref i1) (.ref i2))
  (h1:s.heap.IsListIter i1 l1 k1) (h2:s.heap.IsListIter i2 l2 k2) (hl1:s.heap.IsList l1 xs) (hl2:s.heap.IsList l2 ys) (hend:xs[k1]? = none∨ys[k2]? = none)
  (hE:∀ h' e,(∀ c o,c ≠ z→c ≠ i1→c ≠ i2→s.heap.get? c=some o→h'.get? c=some o)→(∃ o,h'.get? e=some o∧o.cls=.type "StopIteration")→E (.ref e) { s with heap:=h' }) :
  wpAny (model pw w) A (Builtin.«zip.__next__» ⟨[.ref z],[]⟩) Q E s:=by
 show wpAny _ _ (field (.ref z) 2 >>= _) _ _ _
 refine wpAny_bind (wpAny_field hz rfl (x:=.bool false) rfl ?_)
 show wpAny _ _ (field (.ref z) 3 >>= _) _ _ _
 refine wpAny_bind (wpAny_field hz rfl (x:=.ref TI) rfl ?_)
 refine wpAny_bind (wpAny_seqItems hTI rfl ?_)
 show wpAny _ _ (Builtin.SmallTypes.ownedTupleIsFree (.ref z) >>= _) _ _ _
 refine wpAny_bind (xL hz hT fun h₁ hz₁ hs₁=>?_)
 simp only[Bool.false_eq_true,if_false,← Array.forIn_toList,List.forIn_cons,List.forIn_nil]
 refine wpAny_bind (wpAny_bind (wpAny_bind (wpAny_holding ?_)))
 show wpAny _ _ (Builtin.SmallTypes.nextOf (.ref i1) >>= _) _ _ _
 cases hx:xs[k1]? with
 | none =>
  exact wpAny_bind (wpAny_nextOf_list_end hh (h1.extBut hs₁.extBut D.i1z) (hl1.extBut hs₁.extBut D.l1z) hx fun h₂ e hs₂ he=>hE h₂ e (fun c o c1 c2 c3 x=>hs₂ _ _ c2 (hs₁.extBut _ _ c1 x)) he)
 | some x =>
  have hy:ys[k2]? = none:=by rcases hend with h | h;rw[hx]at h;cases h;exact h
  refine wpAny_bind (wpAny_nextOf_list_item (h1.extBut hs₁.extBut D.i1z) (hl1.extBut hs₁.extBut D.l1z) hx fun h₂ h1₂ hs₂=>wpAny_pure ?_)
  refine wpAny_pure (wpAny_bind (wpAny_bind (wpAny_holding ?_)))
  show wpAny _ _ (Builtin.SmallTypes.nextOf (.ref i2) >>= _) _ _ _
  exact wpAny_bind (wpAny_nextOf_list_end hh ((h2.extBut hs₁.extBut D.i2z).extBut hs₂.extBut D.i12.symm) ((hl2.extBut hs₁.extBut D.l2z).extBut hs₂.extBut D.l2i1) hy fun h₄ e hs₄ he=>hE h₄ e (fun c o c1 c2 c3 x=>hs₄ _ _ c3 (hs₂.extBut _ _ c2 (hs₁.extBut _ _ c1 x))) he)
theorem sZ {z TI TO i1 i2 l1 l2 T:Addr}{bb:Bool}{oT:Obj}{k1 k2:Nat}{xs ys:Array Value}{x y:Value}{Q:Option Value→Shared→Prop} (D:ZipApart z TI TO i1 i2 l1 l2)
  (hz:fP s.heap z TI TO T bb) (hT:s.heap.get? T=some oT) (hTI:IsPair s.heap TI (.ref i1) (.ref i2))
  (h1:s.heap.IsListIter i1 l1 k1) (h2:s.heap.IsListIter i2 l2 k2) (hl1:s.heap.IsList l1 xs) (hl2:s.heap.IsList l2 ys) (hx:xs[k1]? = some x) (hy:ys[k2]? = some y)
  (hQ:∀ h',fP h' z TI TO T true→h'.IsListIter i1 l1 (k1 + 1)→h'.IsListIter i2 l2 (k2 + 1)→IsPair h' s.heap.objs.size x y→h'.objs.size=s.heap.objs.size + 1 →
   (∀ c o,c ≠ z→c ≠ i1→c ≠ i2→s.heap.get? c=some o→h'.get? c=some o)→Q (some (.ref s.heap.objs.size)) { s with heap:=h' }) :
  wpAny (model pw w) A (pyNext (.ref z)) Q E s:=by
 have hT':s.TypeIs (.ref z) "zip" := ⟨_,hz,rfl⟩
 unfold pyNext
 exact wpAny_bind (wpAny_attempt (wpAny_callSpecial?_slot (name:=Str.ofString "__next__") hT' F.slot_zip_next
  (wpAny_call_entry F.slot_zip_next hT' F.entry_zip_next
   (tT D hz hT hTI h1 h2 hl1 hl2 hx hy fun h' a1 a2 a3 a4 a5 a6=>wpAny_pure (hQ h' a1 a2 a3 a4 a5 a6)) (F.args_zip_next_1 _))))
theorem uH {z TI TO i1 i2 l1 l2 T:Addr}{bb:Bool}{oT:Obj}{k1 k2:Nat}{xs ys:Array Value}{Q:Option Value→Shared→Prop} (hh:A.handled=none) (D:ZipApart z TI TO i1 i2 l1 l2)
  (hz:fP s.heap z TI TO T bb) (hT:s.heap.get? T=some oT) (hTI:IsPair s.heap TI (.ref i1) (.ref i2))
  (h1:s.heap.IsListIter i1 l1 k1) (h2:s.heap.IsListIter i2 l2 k2) (hl1:s.heap.IsList l1 xs) (hl2:s.heap.IsList l2 ys) (hend:xs[k1]? = none∨ys[k2]? = none)
  (hQ:∀ h',(∀ c o,c ≠ z→c ≠ i1→c ≠ i2→s.heap.get? c=some o→h'.get? c=some o)→Q none { s with heap:=h' }):wpAny (model pw w) A (pyNext (.ref z)) Q E s:=by
 have hT':s.TypeIs (.ref z) "zip" := ⟨_,hz,rfl⟩
 unfold pyNext
 refine wpAny_bind (wpAny_attempt (wpAny_callSpecial?_slot (name:=Str.ofString "__next__") hT' F.slot_zip_next
  (wpAny_call_entry F.slot_zip_next hT' F.entry_zip_next (vN hh D hz hT hTI h1 h2 hl1 hl2 hend fun h' e hk he=>?_) (F.args_zip_next_1 _))))
 obtain⟨o,ho,hc⟩:=he
 refine wpAny_bind (wpAny_isInstance (T := "StopIteration") (b:=true) ⟨o,ho,hc⟩ isSubtype_stop ?_)
 exact wpAny_pure (hQ _ hk)
end
end Mine
end
section
namespace Mine
theorem A3:typeLookup (.type "zip") "__len__" = pure none:=by rw[typeLookup_type,builtinLookup_eq_fast];kernel_rfl
theorem yX:typeLookup (.type "zip") "__length_hint__" = pure none:=by rw[typeLookup_type,builtinLookup_eq_fast];kernel_rfl
noncomputable def uF (b:Nat) (xs ys acc:Array Value) (h:Heap):Prop:=∀ (j:Nat) (v:Value),acc[j]? = some v→∃ T x y,v=.ref T∧b + 6 ≤ T∧IsPair h T x y∧xs[j]? = some x∧ys[j]? = some y
structure GK (b:Nat) (h₀:Heap) (l1 l2:Addr) (xs ys:Array Value) (i:Nat) (acc:Array Value) (c:Nat) (h:Heap):Prop where
 z:IsZip h (b + 4) (b + 2) (b + 3) .none∨∃ T bb oT,fP h (b + 4) (b + 2) (b + 3) T bb∧h.get? T=some oT∧b + 6 ≤ T
 ti:IsPair h (b + 2) (.ref b) (.ref (b + 1))
 to:∃ x y,IsPair h (b + 3) x y
 i1:h.IsListIter b l1 i
 i2:h.IsListIter (b + 1) l2 i
 l1:h.IsList l1 xs
 l2:h.IsList l2 ys
 sz:b + 6 ≤ h.objs.size
 S:h.get? (b + 5)=some { cls:=.type "list",dict:=none,data:=.seq acc c,slots:=#[] }
 old:∀ a o,h₀.get? a=some o→h.get? a=some o
 acc:uF b xs ys acc h
section
variable {w:World}{A:Around}{E:Value→Shared→Prop}{s:Shared}{b:Nat}{h₀:Heap}{l1 l2:Addr}{xs ys:Array Value}{i c:Nat}{acc:Array Value}{h h':Heap}
theorem CA (hb:h₀.objs.size=b) (a1:l1 < b) (a2:l2 < b):ZipApart (b + 4) (b + 2) (b + 3) b (b + 1) l1 l2 where
 TIz:=nb rfl
 TOz:=nb rfl
 i1z:=bn
 i2z:=nb rfl
 TITO:=nb rfl
 TIi1:=bn.symm
 TIi2:=nb rfl
 TOi1:=bn.symm
 TOi2:=nb rfl
 i12:=bn
 l1z:=kO a1
 l1TO:=kO a1
 l1i1:=Nat.ne_of_lt a1
 l1i2:=kO a1
 l2z:=kO a2
 l2TO:=kO a2
 l2i1:=Nat.ne_of_lt a2
 l2i2:=kO a2
noncomputable def HL (b:Nat) (h h':Heap):Prop:=∀ c o,c ≠ b + 4→c ≠ b + 3→c ≠ b→c ≠ b + 1→h.get? c=some o→h'.get? c=some o
theorem Eb (D:ZipApart (b + 4) (b + 2) (b + 3) b (b + 1) l1 l2) (Z:GK b h₀ l1 l2 xs ys i acc c s.heap) (hx:i < xs.size) (hy:i < ys.size) {Q:Option Value→Shared→Prop}
  (q:∀ h',(∃ T bb oT,fP h' (b + 4) (b + 2) (b + 3) T bb∧h'.get? T=some oT∧b + 6 ≤ T)→(∃ x y,IsPair h' (b + 3) x y)→h'.IsListIter b l1 (i + 1)→h'.IsListIter (b + 1) l2 (i + 1)→IsPair h' s.heap.objs.size xs[i] ys[i] →
   h'.objs.size=s.heap.objs.size + 1→HL b s.heap h'→Q (some (.ref s.heap.objs.size)) { s with heap:=h' }):wpAny (model pw w) A (pyNext (.ref (b + 4))) Q E s:=by
 rcases Z.z with hz | ⟨T,bb,oT,hz,hT,hTb⟩
 ·obtain⟨x,y,hTO⟩:=Z.to
  refine wpAny_pyNext_zip_item D hz Z.ti hTO Z.i1 Z.i2 Z.l1 Z.l2 (Array.getElem?_eq_getElem hx) (Array.getElem?_eq_getElem hy) fun h' a1 a2 a3 a4 a5 a6 a7=>?_
  exact q h' ⟨_,false,_,a1,a5,Z.sz⟩ ⟨_,_,a2⟩ a3 a4 a5 a6 fun c o c1 c2 c3 c4 e=>a7 c o c1 c2 c3 c4 e
 ·obtain⟨x,y,hTO⟩:=Z.to
  refine sZ D hz hT Z.ti Z.i1 Z.i2 Z.l1 Z.l2 (Array.getElem?_eq_getElem hx) (Array.getElem?_eq_getElem hy) fun h' a1 a3 a4 a5 a6 a7=>?_
  have n1:T ≠ b + 4:=qU hTb rfl
  have n2:T ≠ b:=JS hTb
  have n3:T ≠ b + 1:=qU hTb rfl
  exact q h' ⟨_,_,_,a1,a7 _ _ n1 n2 n3 hT,hTb⟩ ⟨_,_,a7 _ _ D.TOz D.TOi1 D.TOi2 hTO⟩ a3 a4 a5 a6 fun c o c1 _ c3 c4 e=>a7 c o c1 c3 c4 e
theorem Fu (hh:A.handled=none) (D:ZipApart (b + 4) (b + 2) (b + 3) b (b + 1) l1 l2) (Z:GK b h₀ l1 l2 xs ys i acc c s.heap) (hend:xs[i]? = none∨ys[i]? = none) {Q:Option Value→Shared→Prop}
  (q:∀ h',HL b s.heap h'→Q none { s with heap:=h' }):wpAny (model pw w) A (pyNext (.ref (b + 4))) Q E s:=by
 rcases Z.z with hz | ⟨T,bb,oT,hz,hT,hTb⟩
 ·obtain⟨x,y,hTO⟩:=Z.to
  exact wpAny_pyNext_zip_end hh D hz Z.ti hTO Z.i1 Z.i2 Z.l1 Z.l2 hend fun h' k=>q h' fun c o c1 c2 c3 c4 e=>k c o c1 c2 c3 c4 e
 ·exact uH hh D hz hT Z.ti Z.i1 Z.i2 Z.l1 Z.l2 hend fun h' k=>q h' fun c o c1 _ c3 c4 e=>k c o c1 c3 c4 e
theorem FL (hh:A.handled=none) (D:ZipApart (b + 4) (b + 2) (b + 3) b (b + 1) l1 l2) (hb:h₀.objs.size=b) (a1:l1 < b) (a2:l2 < b) (hl:xs.size ≤ sizeLine) (hl2:ys.size ≤ sizeLine) {R:Result→Shared→Prop}{res:Value} :
  ∀ (k i:Nat) (s:Shared) (acc:Array Value) (c:Nat),i + k=min xs.size ys.size→GK b h₀ l1 l2 xs ys i acc c s.heap→acc.size=i →
  (∀ h' acc' c',(∀ a o,h₀.get? a=some o→h'.get? a=some o)→h'.get? (b + 5)=some { cls:=.type "list",dict:=none,data:=.seq acc' c',slots:=#[] }→acc'.size=min xs.size ys.size →
   uF b xs ys acc' h'→R (.ok (.ret res)) { s with heap:=h' }) →
  codeAny (model pw w) A (.builtin "list.extend.loop" ⟨[.ref (b + 5),.ref (b + 4),res],[]⟩) R s:=by
 intro k
 induction k with
 | zero =>
  intro i s acc c hk Z ha hR
  have hin:i=min xs.size ys.size:=hk
  refine codeAny_builtin F.entry_extend_loop ?_
  rw[Around.under_plainId F.plain_extend_loop _]
  show wpAny _ A.in1 (pyNext (.ref (b + 4)) >>= _) _ _ s
  refine wpAny_bind (Fu (by exact hh) D Z ?_ fun h' kp=>?_)
  ·rcases Nat.le_total xs.size ys.size with h | h
   ·exact .inl (Array.getElem?_eq_none (Nat.le_of_eq ((Nat.min_eq_left h).symm.trans hin.symm)))
   ·exact .inr (Array.getElem?_eq_none (Nat.le_of_eq ((Nat.min_eq_right h).symm.trans hin.symm)))
  ·refine wpAny_pure (hR h' acc c (fun a o e=>?_) (kp _ _ (nb rfl) (nb rfl) (bn.symm) (nb rfl) Z.S) (ha.trans hin) fun j v e=>?_)
   ·have lt:a < b:=hb ▸ Heap.lt_size e
    exact kp _ _ (kO lt) (kO lt) (Nat.ne_of_lt lt) (kO lt) (Z.old a o e)
   ·obtain⟨T,x,y,e1,e2,e3,e4,e5⟩:=Z.acc j v e
    exact⟨T,x,y,e1,e2,kp _ _ (qU e2 rfl) (qU e2 rfl) (JS e2) (qU e2 rfl) e3,e4,e5⟩
 | succ k ih =>
  intro i s acc c hk Z ha hR
  have hlt:i < min xs.size ys.size:=hk ▸ Nat.lt_add_of_pos_right (Nat.succ_pos k)
  have hx:i < xs.size:=Nat.lt_of_lt_of_le hlt (Nat.min_le_left _ _)
  have hy:i < ys.size:=Nat.lt_of_lt_of_le hlt (Nat.min_le_right _ _)
  refine codeAny_builtin F.entry_extend_loop ?_
  rw[Around.under_plainId F.plain_extend_loop _]
  show wpAny _ A.in1 (pyNext (.ref (b + 4)) >>= _) _ _ s
  refine wpAny_bind (Eb D Z hx hy fun h' z' to' j1 j2 np sz' kp=>?_)
  have S':=kp _ _ (nb rfl) (nb rfl) (bn.symm) (nb rfl) Z.S
  show wpAny _ A.in1 (updateSeq (b + 5) (·.push (.ref s.heap.objs.size)) >>= _) _ _ _
  have oth:∀ a o,a ≠ b + 5→h'.get? a=some o→(h'.update (b + 5) (Obj.mapSeq (·.push (.ref s.heap.objs.size)))).get? a=some o:=fun a o n e=>(Heap.get?_update_other _ _ (Ne.symm n)).trans e
  have up:∀ a o,a ≠ b + 4→a ≠ b + 3→a ≠ b→a ≠ b + 1→a ≠ b + 5→s.heap.get? a=some o→(h'.update (b + 5) (Obj.mapSeq (·.push (.ref s.heap.objs.size)))).get? a=some o:=fun a o n1 n2 n3 n4 n5 e=>oth a o n5 (kp a o n1 n2 n3 n4 e)
  have hi6:∀ {T:Addr},b + 6 ≤ T→T ≠ b + 4∧T ≠ b + 3∧T ≠ b∧T ≠ b + 1∧T ≠ b + 5:=fun {T} e =>
   ⟨qU e rfl,qU e rfl,JS e,qU e rfl,qU e rfl⟩
  have lo:∀ {a:Addr},a < b→a ≠ b + 4∧a ≠ b + 3∧a ≠ b∧a ≠ b + 1∧a ≠ b + 5:=fun {a} lt =>
   ⟨kO lt,kO lt,Nat.ne_of_lt lt,kO lt,kO lt⟩
  obtain⟨c',Sx⟩:∃ c',(h'.update (b + 5) (Obj.mapSeq (·.push (.ref s.heap.objs.size)))).get? (b + 5)=some { cls:=.type "list",dict:=none,data:=.seq (acc.push (.ref s.heap.objs.size)) c',slots:=#[] }:=⟨_,Heap.get?_update_self _ S' rfl⟩
  refine wpAny_bind ?_
  refine wpAny_updateSeq S' rfl (wpAny_pure ⟨plainId_quiet F.plain_extend_loop _,ih (i + 1) { s with heap:=h'.update (b + 5) (Obj.mapSeq (·.push (.ref s.heap.objs.size))) } (acc.push (.ref s.heap.objs.size)) c' ((Nat.add_assoc i 1 k).trans ((congrArg (i + ·) (Nat.add_comm 1 k)).trans hk)) ?_ (by rw[Array.size_push,ha]) fun h'' acc' c₂ r1 r2 r3 r4=>hR h'' acc' c₂ r1 r2 r3 r4⟩)
   (by rw[ha];exact Nat.le_of_lt (Nat.lt_of_lt_of_le hx hl)) (by show(acc.push _).size ≤ sizeLine + 1;rw[Array.size_push,ha];exact Nat.succ_le_succ (Nat.le_of_lt (Nat.lt_of_lt_of_le hx hl)))
  refine⟨.inr ?_,up _ _ (nb rfl) (nb rfl) (bn.symm) (nb rfl) (nb rfl) Z.ti,to'.imp fun x q=>q.imp fun y q=>oth _ _ (nb rfl) q,
   j1.at fun o e=>oth _ _ (bn) e,j2.at fun o e=>oth _ _ (nb rfl) e,Z.l1.at fun o e=>?_,Z.l2.at fun o e=>?_,?_,Sx,fun a o e=>?_,fun j v e=>?_⟩
  ·obtain⟨T,bb,oT,q1,q2,q3⟩:=z'
   exact⟨T,bb,oT,oth _ _ (nb rfl) q1,oth _ _ (hi6 q3).2.2.2.2 q2,q3⟩
  ·obtain⟨n1,n2,n3,n4,n5⟩:=lo a1;exact up _ _ n1 n2 n3 n4 n5 e
  ·obtain⟨n1,n2,n3,n4,n5⟩:=lo a2;exact up _ _ n1 n2 n3 n4 n5 e
  ·have:=Z.sz
   show b + 6 ≤ (h'.update _ _).objs.size
   rw[Heap.size_after_update,sz'];exact Nat.le_succ_of_le this
  ·obtain⟨n1,n2,n3,n4,n5⟩:=lo (a:=a) (hb ▸ Heap.lt_size e);exact up _ _ n1 n2 n3 n4 n5 (Z.old a o e)
  ·rw[Array.getElem?_push]at e
   split at e
   ·rename_i hj
    cases e
    rw[ha]at hj;subst hj
    exact⟨_,_,_,rfl,Z.sz,oth _ _ (hi6 Z.sz).2.2.2.2 np,Array.getElem?_eq_getElem hx,Array.getElem?_eq_getElem hy⟩
   ·obtain⟨T,x,y,e1,e2,e3,e4,e5⟩:=Z.acc j v e
    obtain⟨n1,n2,n3,n4,n5⟩:=hi6 e2
    exact⟨T,x,y,e1,e2,up _ _ n1 n2 n3 n4 n5 e3,e4,e5⟩
end
end Mine
end
section
namespace Mine
theorem Ht {h h':Heap} (us:List Value):∀ {vs ws:List Value},ws.length=min us.length vs.length →
  (∀ (j:Nat) (v:Value),ws[j]? = some v→∃ (T:Addr) (x y:Value),v=.ref T∧h.get? T=none∧h'.get? T=some { cls:=.type "tuple",data:=.seq #[x,y] }∧us[j]? = some x∧vs[j]? = some y)→sA h h' us vs ws:=by
 induction us with
 | nil=>exact fun e _=>List.eq_nil_of_length_eq_zero (e.trans (Nat.zero_min _))
 | cons a us ih =>
  intro vs ws e f
  cases vs with
  | nil=>exact List.eq_nil_of_length_eq_zero (e.trans (Nat.min_zero _))
  | cons b vs =>
   have e:=e.trans (Nat.succ_min_succ us.length vs.length)
   cases ws with
   | nil=>exact absurd e nofun
   | cons v ws =>
    obtain⟨T,x,y,e1,h1,h2,h3,h4⟩:=f 0 v rfl
    exact⟨T,0,ws,by rw[e1],h1,by rw[h2,← Option.some.inj h3,← Option.some.inj h4],ih (Nat.succ.inj e) fun j v e=>f (j + 1) v e⟩
section
variable {w:World}{A:Around}{s:Shared}
theorem Ac {b:Nat}{h₀:Heap}{l1 l2:Addr}{xs ys:Array Value}{c:Nat}{R:Result→Shared→Prop}{res:Value} (hh:A.handled=none) (D:ZipApart (b + 4) (b + 2) (b + 3) b (b + 1) l1 l2) (hb:h₀.objs.size=b) (a1:l1 < b) (a2:l2 < b) (hl:xs.size ≤ sizeLine) (hl2:ys.size ≤ sizeLine)
  (Z:GK b h₀ l1 l2 xs ys 0 #[] c s.heap) (hz:IsZip s.heap (b + 4) (b + 2) (b + 3) .none)
  (hR:∀ h' acc' c',(∀ a o,h₀.get? a=some o→h'.get? a=some o)→h'.get? (b + 5)=some { cls:=.type "list",dict:=none,data:=.seq acc' c',slots:=#[] }→acc'.size=min xs.size ys.size →
   uF b xs ys acc' h'→R (.ok (.ret res)) { s with heap:=h' }) :
  wpAny (model pw w) A.in1 (Builtin.List.listExtendWith (.ref (b + 5)) (.ref (b + 4)) res)
   (fun fin s'=>match fin with | .done f=>R (.ok f) s' | .again c'=>c'.quiet=true∧codeAny (model pw w) A c' R s') (fun e s'=>R (.error e) s') s:=by
 have hT:s.TypeIs (.ref (b + 4)) "zip" := ⟨_,hz,rfl⟩
 unfold Builtin.List.listExtendWith
 refine wpAny_bind (wpAny_typeOf hT ?_)
 have h1:Builtin.List.listSameRef (.ref (b + 5)) (.ref (b + 4))=false:=by simp[Builtin.List.listSameRef]
 have h2:(Value.type "zip" == Value.type "list")=false:=by decide
 have h3:(Value.type "zip" == Value.type "tuple")=false:=by decide
 simp only[h1,h2,h3,Bool.or_false,Bool.false_eq_true,if_false]
 refine wpAny_bind (wpAny_pyIter_zip hz ?_)
 refine wpAny_bind (wpAny_holding ?_)
 unfold Builtin.List.listLengthHint
 refine wpAny_bind (wpAny_specialOf hT A3 ?_)
 show wpAny _ A.in1 (specialOf (Value.ref (b + 4)) (Str.ofString "__length_hint__") >>= _) _ _ _
 refine wpAny_bind (wpAny_specialOf hT yX ?_)
 refine wpAny_pure ?_
 show wpAny _ A.in1 (rule "list.extend.makes-room" >>= fun _=>Builtin.List.listTouch (.ref (b + 5)) >>= fun _ =>
  again (.builtin "list.extend.loop" ⟨[.ref (b + 5),.ref (b + 4),res],[]⟩)) _ _ _
 refine wpAny_bind (wpAny_rule ?_)
 refine wpAny_bind ?_
 show wpAny _ A.in1 (updateSeq (b + 5) (·.push .none) >>= fun _=>updateSeq (b + 5) (·.pop)) _ _ _
 refine wpAny_bind (wpAny_updateSeq Z.S rfl ?_)
 have hS₂:=Heap.get?_update_self (Obj.mapSeq (·.push Value.none)) Z.S rfl
 refine wpAny_updateSeq (hz:=by seq_fits) hS₂ rfl ?_
 obtain⟨c₃,hS₃⟩:∃ c₃,((s.heap.update (b + 5) (Obj.mapSeq (·.push Value.none))).update (b + 5) (Obj.mapSeq (·.pop))).get? (b + 5)=some { cls:=.type "list",dict:=none,data:=.seq #[] c₃,slots:=#[] }:=⟨_,Heap.get?_update_self (Obj.mapSeq (·.pop)) hS₂ rfl⟩
 have oth:∀ a o,a ≠ b + 5→s.heap.get? a=some o→((s.heap.update (b + 5) (Obj.mapSeq (·.push Value.none))).update (b + 5) (Obj.mapSeq (·.pop))).get? a=some o :=
  fun a o hb e=>(Heap.get?_update_other _ _ (Ne.symm hb)).trans ((Heap.get?_update_other _ _ (Ne.symm hb)).trans e)
 have lo:∀ {a:Addr},a < b→a ≠ b + 5:=fun lt=>kO lt
 refine wpAny_pure ⟨plainId_quiet F.plain_extend_loop _,FL hh D hb a1 a2 hl hl2 _ 0 _ #[] c₃ (Nat.zero_add _) ⟨.inl (oth _ _ (nb rfl) hz),oth _ _ (nb rfl) Z.ti,Z.to.imp fun x q=>q.imp fun y q=>oth _ _ (nb rfl) q,
  Z.i1.at fun o e=>oth _ _ (bn) e,Z.i2.at fun o e=>oth _ _ (nb rfl) e,Z.l1.at fun o e=>oth _ _ (lo a1) e,Z.l2.at fun o e=>oth _ _ (lo a2) e,?_,hS₃,fun a o e=>oth _ _ (lo (a:=a) (hb ▸ Heap.lt_size e)) (Z.old a o e),fun j v e=>by simp at e⟩ rfl hR⟩
 show b + 6 ≤ ((s.heap.update _ _).update _ _).objs.size
 rw[Heap.size_after_update,Heap.size_after_update]
 exact Z.sz
end
theorem Nn {w:World}:wJ w:=by
 intro A s la lb us vs n m Q E hh hla hlb hu hv q
 have ta:la < s.heap.objs.size:=Heap.lt_size hla
 have tb:lb < s.heap.objs.size:=Heap.lt_size hlb
 refine call_zip_2 (xs:=us.toArray) (ys:=vs.toArray) ⟨_,hla,rfl,_,rfl⟩ ⟨_,hlb,rfl,_,rfl⟩ fun h' a1 a2 a3 a4 a5 a6 a7=>?_
 refine callType_codes (Q₁:=fun obj s₁=>obj=.ref h'.objs.size∧s₁={ s with heap:=h'.push { cls:=.type "list",data:=.seq #[] } }) F.called_list (F.typeCall_list_1 _) F.entry_list_init (code_list_new _ ⟨rfl,rfl⟩) fun obj s₁ h₁=>?_
 obtain⟨rfl,rfl⟩:=h₁
 have hS:(h'.push { cls:=.type "list",data:=.seq #[] }).get? h'.objs.size=some { cls:=.type "list",data:=.seq #[] }:=Heap.get?_push_size _ rfl
 refine⟨⟨_,hS,rfl⟩,F.args_list_init_2 _ _,?_⟩
 rw[a6]at hS ⊢
 show wpAny _ A.in1.in1 (do let old ← Builtin.List.listItems (.ref (s.heap.objs.size + 5));Builtin.List.listUpdate (.ref (s.heap.objs.size + 5)) (fun _=>#[]);letGo old.toList.reverse;Builtin.List.listExtendWith (.ref (s.heap.objs.size + 5)) (.ref (s.heap.objs.size + 4)) .none) _ _ _
 refine wpAny_bind ?_
 unfold Builtin.List.listItems
 refine wpAny_bind (wpAny_seqItems hS rfl (wpAny_pure ?_))
 show wpAny _ A.in1.in1 (updateSeq (s.heap.objs.size + 5) (fun _=>#[]) >>= fun _=>letGo (#[]:Array Value).toList.reverse >>= fun _=>Builtin.List.listExtendWith (.ref (s.heap.objs.size + 5)) (.ref (s.heap.objs.size + 4)) .none) _ _ _
 refine wpAny_bind (wpAny_updateSeq hS rfl ?_)
 obtain⟨c₂,hS₂⟩:∃ c₂,((h'.push { cls:=.type "list",data:=.seq #[] }).update (s.heap.objs.size + 5) (Obj.mapSeq (fun _=>(#[]:Array Value)))).get? (s.heap.objs.size + 5)=some { cls:=.type "list",dict:=none,data:=.seq #[] c₂,slots:=#[] }:=⟨_,Heap.get?_update_self (Obj.mapSeq (fun _=>(#[]:Array Value))) hS rfl⟩
 have oth:∀ a o,a ≠ s.heap.objs.size + 5→h'.get? a=some o→((h'.push { cls:=.type "list",data:=.seq #[] }).update (s.heap.objs.size + 5) (Obj.mapSeq (fun _=>(#[]:Array Value)))).get? a=some o :=
  fun a o hb e=>(Heap.get?_update_other _ _ (Ne.symm hb)).trans (Heap.get?_push_of_some _ e)
 have lo:∀ {a:Addr},a < s.heap.objs.size→a ≠ s.heap.objs.size + 5:=fun lt=>kO lt
 have hz:=oth _ _ (nb rfl) a1
 have la':((h'.push { cls:=.type "list",data:=.seq #[] }).update (s.heap.objs.size + 5) (Obj.mapSeq (fun _=>(#[]:Array Value)))).IsList la us.toArray:=⟨_,oth _ _ (lo ta) (a7 _ _ hla),rfl,_,rfl⟩
 have lb':((h'.push { cls:=.type "list",data:=.seq #[] }).update (s.heap.objs.size + 5) (Obj.mapSeq (fun _=>(#[]:Array Value)))).IsList lb vs.toArray:=⟨_,oth _ _ (lo tb) (a7 _ _ hlb),rfl,_,rfl⟩
 refine wpAny_bind (wpAny_letGo ?_)
 refine Ac (c:=c₂) (l1:=la) (l2:=lb) (xs:=us.toArray) (ys:=vs.toArray) (h₀:=s.heap) (by exact hh) (CA rfl ta tb) rfl ta tb (by simpa using hu) (by simpa using hv) ⟨.inl hz,oth _ _ (nb rfl) a2,⟨_,_,oth _ _ (nb rfl) a3⟩,
  a4.at fun o e=>oth _ _ (bn) e,a5.at fun o e=>oth _ _ (nb rfl) e,la',lb',?_,hS₂,fun a o e=>oth _ _ (lo (Heap.lt_size e)) (a7 _ _ e),fun j v e=>by simp at e⟩ hz fun h'' acc' c' r1 r2 r3 r4=>?_
 ·show s.heap.objs.size + 6 ≤ (Heap.update _ _ _).objs.size
  rw[Heap.size_after_update,Heap.size_push,a6];exact Nat.le_refl _
 ·refine⟨rfl,q _ (s.heap.objs.size + 5) c' acc'.toList ⟨rfl,rfl⟩ r1 (Heap.get?_none_of_le (by omega)) (by rw[Array.toArray_toList];exact r2) (Ht _ (by simpa using r3) fun j v e=>?_)⟩
  obtain⟨T,x,y,e1,e2,e3,e4,e5⟩:=r4 j v (by simpa using e)
  exact⟨T,x,y,e1,Heap.get?_none_of_le (Nat.le_trans (by omega) e2),e3,by simpa using e4,by simpa using e5⟩
end Mine
end
section
namespace Mine
abbrev Ob:=List (Int × Str)
noncomputable def vI (v:Value):Option Int:=match v with
 | .int i _=>some i
 | _=>none
noncomputable def vS (v:Value):Option Str:=match v with
 | .str s _=>some s
 | _=>none
noncomputable def vR (v:Value):Option Addr:=match v with
 | .ref a=>some a
 | _=>none
theorem DR {v:Value}{i:Int} (h:vI v=some i):∃ t,v=.int i t:=by
 cases v with
 | int j t=>exact⟨t,by rw[Option.some.inj h]⟩
 | _=>exact nk3 h
theorem xD {v:Value}{i:Str} (h:vS v=some i):∃ t,v=.str i t:=by
 cases v with
 | str j t=>exact⟨t,by rw[Option.some.inj h]⟩
 | _=>exact nk3 h
theorem oZ {v:Value}{i:Addr} (h:vR v=some i):v=.ref i:=by
 cases v with
 | ref a=>rw[Option.some.inj h]
 | _=>exact nk3 h
noncomputable def rI (d:Data):Option (List Value × Nat):=match d with
 | .seq vs n=>some (vs.toList,n)
 | _=>none
noncomputable def t8 (d:Data):Option (List DictEntry × Nat):=match d with
 | .dict es n=>some (es.toList,n)
 | _=>none
theorem wO {d:Data}{r:List Value × Nat} (h:rI d=some r):d=.seq r.1.toArray r.2:=by
 cases d with
 | seq=>rw[← Option.some.inj h,Array.toArray_toList]
 | _=>exact nk3 h
theorem rK {d:Data}{r:List DictEntry × Nat} (h:t8 d=some r):d=.dict r.1.toArray r.2:=by
 cases d with
 | dict=>rw[← Option.some.inj h,Array.toArray_toList]
 | _=>exact nk3 h
noncomputable def bare {α:Type} (t:String) (f:Data→Option α) (o:Obj):Option α:=gd (decide (o.cls=.type t)) (gd o.dict.isNone (gd (bV o.slots.toList) (f o.data)))
theorem BR {α:Type}{t:String}{f:Data→Option α}{o:Obj}{r:α}{P:Prop} (h:bare t f o=some r) (k:o=⟨.type t,none,o.data,#[]⟩→f o.data=some r→P):P :=
 aD h fun h1 h=>aD h fun h2 h=>aD h fun h3 h=>k (by
  obtain⟨c,d,da,s⟩:=o
  rw[show c=.type t from of_decide_eq_true h1,show d=none from Option.isNone_iff_eq_none.mp h2,show s = #[] from Array.toList_inj.mp (bN h3)]) h
noncomputable def BD (k:FV) (e:DictEntry):Option Ob:=oe (dQ k) (fun i=>(vI e.key).bind fun j=>gd (decide (i=j)) (gd (decide (e.hash=hashInt i)) (some []))) ((dF k).bind fun s=>(vS e.key).bind fun t=>gd (gE t.cps.toList s) (some [(e.hash,t)]))
noncomputable def Gn (K:Frag) (x:FV):Value→Option Ob:=@FV.rec (fun _=>Value→Option Ob) (fun _=>List Value→Option Ob) (fun _=>List DictEntry→Option Ob) (fun _=>List DictEntry→Option Ob) (fun _=>DictEntry→Option Ob) (fun _=>DictEntry→Option Ob)
 (fun v=>gd (decide (v=.none)) (some [])) (fun b v=>gd (decide (v=.bool b)) (some [])) (fun i v=>(vI v).bind fun j=>gd (decide (j=i)) (some [])) (fun s v=>(vS v).bind fun t=>gd (gE t.cps.toList s) (some []))
 (fun _ k v=>(vR v).bind fun a=>(K.lookup a).bind fun o=>(bare "tuple" rI o).bind fun r=>k r.1) (fun _ k v=>(vR v).bind fun a=>(K.lookup a).bind fun o=>(bare "list" rI o).bind fun r=>k r.1)
 (fun _ _ _ _=>none) (fun _ k v=>(vR v).bind fun a=>gd (!(a == sysModules)) ((K.lookup a).bind fun o=>(bare "dict" t8 o).bind fun r=>k r.1))
 (fun a v=>(vR v).bind fun b=>gd (Nat.beq a b) (some [])) (fun n v=>gd (decide (v=.type n.id)) (some [])) (fun n v=>gd (decide (v=.builtin n.id)) (some []))
 (fun us=>gd (bV us) (some [])) (fun _ _ p q us=>@List.rec Value (fun _=>Option Ob) none (fun v r _=>(p v).bind fun l=>(q r).bind fun m=>some (l++m)) us)
 (fun _=>none) (fun _ _ _ _ _=>none) (fun es=>gd (bV es) (some [])) (fun _ _ p q es=>@List.rec DictEntry (fun _=>Option Ob) none (fun e r _=>(p e).bind fun l=>(q r).bind fun m=>some (l++m)) es)
 (fun _ _ _ _=>none) (fun k _ _ p e=>(BD k e).bind fun a=>(p e.val).bind fun l=>some (a++l)) x
noncomputable def PC (K:Frag) (x:List FV):List Value→Option Ob:=@FV.rec_1 (fun _=>Value→Option Ob) (fun _=>List Value→Option Ob) (fun _=>List DictEntry→Option Ob) (fun _=>List DictEntry→Option Ob) (fun _=>DictEntry→Option Ob) (fun _=>DictEntry→Option Ob)
 (fun v=>gd (decide (v=.none)) (some [])) (fun b v=>gd (decide (v=.bool b)) (some [])) (fun i v=>(vI v).bind fun j=>gd (decide (j=i)) (some [])) (fun s v=>(vS v).bind fun t=>gd (gE t.cps.toList s) (some []))
 (fun _ k v=>(vR v).bind fun a=>(K.lookup a).bind fun o=>(bare "tuple" rI o).bind fun r=>k r.1) (fun _ k v=>(vR v).bind fun a=>(K.lookup a).bind fun o=>(bare "list" rI o).bind fun r=>k r.1)
 (fun _ _ _ _=>none) (fun _ k v=>(vR v).bind fun a=>gd (!(a == sysModules)) ((K.lookup a).bind fun o=>(bare "dict" t8 o).bind fun r=>k r.1))
 (fun a v=>(vR v).bind fun b=>gd (Nat.beq a b) (some [])) (fun n v=>gd (decide (v=.type n.id)) (some [])) (fun n v=>gd (decide (v=.builtin n.id)) (some []))
 (fun us=>gd (bV us) (some [])) (fun _ _ p q us=>@List.rec Value (fun _=>Option Ob) none (fun v r _=>(p v).bind fun l=>(q r).bind fun m=>some (l++m)) us)
 (fun _=>none) (fun _ _ _ _ _=>none) (fun es=>gd (bV es) (some [])) (fun _ _ p q es=>@List.rec DictEntry (fun _=>Option Ob) none (fun e r _=>(p e).bind fun l=>(q r).bind fun m=>some (l++m)) es)
 (fun _ _ _ _=>none) (fun k _ _ p e=>(BD k e).bind fun a=>(p e.val).bind fun l=>some (a++l)) x
noncomputable def Qj (K:Frag) (x:List (FV × FV)):List DictEntry→Option Ob:=@FV.rec_3 (fun _=>Value→Option Ob) (fun _=>List Value→Option Ob) (fun _=>List DictEntry→Option Ob) (fun _=>List DictEntry→Option Ob) (fun _=>DictEntry→Option Ob) (fun _=>DictEntry→Option Ob)
 (fun v=>gd (decide (v=.none)) (some [])) (fun b v=>gd (decide (v=.bool b)) (some [])) (fun i v=>(vI v).bind fun j=>gd (decide (j=i)) (some [])) (fun s v=>(vS v).bind fun t=>gd (gE t.cps.toList s) (some []))
 (fun _ k v=>(vR v).bind fun a=>(K.lookup a).bind fun o=>(bare "tuple" rI o).bind fun r=>k r.1) (fun _ k v=>(vR v).bind fun a=>(K.lookup a).bind fun o=>(bare "list" rI o).bind fun r=>k r.1)
 (fun _ _ _ _=>none) (fun _ k v=>(vR v).bind fun a=>gd (!(a == sysModules)) ((K.lookup a).bind fun o=>(bare "dict" t8 o).bind fun r=>k r.1))
 (fun a v=>(vR v).bind fun b=>gd (Nat.beq a b) (some [])) (fun n v=>gd (decide (v=.type n.id)) (some [])) (fun n v=>gd (decide (v=.builtin n.id)) (some []))
 (fun us=>gd (bV us) (some [])) (fun _ _ p q us=>@List.rec Value (fun _=>Option Ob) none (fun v r _=>(p v).bind fun l=>(q r).bind fun m=>some (l++m)) us)
 (fun _=>none) (fun _ _ _ _ _=>none) (fun es=>gd (bV es) (some [])) (fun _ _ p q es=>@List.rec DictEntry (fun _=>Option Ob) none (fun e r _=>(p e).bind fun l=>(q r).bind fun m=>some (l++m)) es)
 (fun _ _ _ _=>none) (fun k _ _ p e=>(BD k e).bind fun a=>(p e.val).bind fun l=>some (a++l)) x
noncomputable def lC (w:World) (l:Ob):Prop:=∀ p ∈ l,p.1=hashStr w p.2
section
variable {w:World}{K:Frag}
theorem lC.l {a b l:Ob} (o:lC w l) (e:some (a++b)=some l):lC w a:=fun p m=>o p (Option.some.inj e ▸ List.mem_append_left _ m)
theorem lC.r {a b l:Ob} (o:lC w l) (e:some (a++b)=some l):lC w b:=fun p m=>o p (Option.some.inj e ▸ List.mem_append_right _ m)
theorem sH {t:Str}{s:List Nat} (h:gE t.cps.toList s=true):t=⟨s.toArray⟩:=by
 rw[← qG.mp h]
theorem I8 {k:FV}{e:DictEntry}{l:Ob} (h:BD k e=some l) (o:lC w l):nX w e k:=by
 refine fC h (fun i hi h=>ob h fun j hj h=>aD h fun h1 h=>aD h fun h2 _=>?_) fun _ h=>ob h fun s hs h=>ob h fun t ht h=>aD h fun h1 h=>?_
 ·rw[lU hi]
  exact(DR hj).imp fun t e=>⟨by rw[e,of_decide_eq_true h1],of_decide_eq_true h2⟩
 ·rw[lH hs]
  have q:=sH h1
  exact(xD ht).imp fun u e=>⟨by rw[e,q],q ▸ o _ (Option.some.inj h ▸ List.mem_cons_self)⟩
theorem J0 {x:FV}:∀ {v:Value}{l:Ob},Gn K x v=some l→lC w l→aO w (fun a=>K.lookup a) v x:=by
 refine @FV.rec (fun x=>∀ {v:Value}{l:Ob},Gn K x v=some l→lC w l→aO w (fun a=>K.lookup a) v x)
  (fun xs=>∀ {us:List Value}{l:Ob},PC K xs us=some l→lC w l→aQ w (fun a=>K.lookup a) us xs) (fun _=>True) (fun xs=>∀ {us:List DictEntry}{l:Ob},Qj K xs us=some l→lC w l→nV w (fun a=>K.lookup a) us xs) (fun _=>True) (fun p=>∀ {v:Value}{l:Ob},Gn K p.2 v=some l→lC w l→aO w (fun a=>K.lookup a) v p.2)
  (fun {v l} h _=>?_) (fun b {v l} h _=>?_) (fun i {v l} h _=>?_) (fun s {v l} h _=>?_) (fun xs ih {v l} h o=>?_) (fun xs ih {v l} h o=>?_) (fun _ _ _ {v l} h _=>nk3 h) (fun xs ih {v l} h o=>?_) (fun a {v l} h _=>?_) (fun n {v l} h _=>?_) (fun n {v l} h _=>?_)
  (fun {us l} h _=>?_) (fun x xs p q {us l} h o=>?_) trivial (fun _ _ _ _=>trivial) (fun {us l} h _=>?_) (fun x xs p q {us l} h o=>?_) (fun _ _ _=>trivial) (fun _ _ _ p=>p) x
 ·exact aD h fun h _=>show v=.none from of_decide_eq_true h
 ·exact aD h fun h _=>show v=.bool b from of_decide_eq_true h
 ·exact ob h fun j hj h=>aD h fun h _=>by rw[← show j=i from of_decide_eq_true h];exact DR hj
 ·exact ob h fun t ht h=>aD h fun h _=>(xD ht).imp fun u e=>by rw[e,sH h]
 ·exact ob h fun a ha h=>ob h fun ob' ho h=>ob h fun r hr h=>BR hr fun e1 e2=>by
   rw[oZ ha]
   exact .tup (n:=r.2) (by rw[ho,e1,wO e2]) (ih h o)
 ·exact ob h fun a ha h=>ob h fun ob' ho h=>ob h fun r hr h=>BR hr fun e1 e2=>by
   rw[oZ ha]
   exact .lst (n:=r.2) (by rw[ho,e1,wO e2]) (ih h o)
 ·exact ob h fun a ha h=>aD h fun hm h=>ob h fun ob' ho h=>ob h fun r hr h=>BR hr fun e1 e2=>by
   rw[oZ ha]
   exact .dct (n:=r.2) (gU hm) (by rw[ho,e1,rK e2]) (ih h o)
 ·exact ob h fun b hb h=>aD h fun h _=>show v=.ref a by rw[oZ hb,Nat.eq_of_beq_eq_true h]
 ·exact aD h fun h _=>show v=.type n.id from of_decide_eq_true h
 ·exact aD h fun h _=>show v=.builtin n.id from of_decide_eq_true h
 ·exact aD h fun h _=>bN h
 ·cases us with
  | nil=>exact nk3 h
  | cons v r=>exact ob h fun a h1 h=>ob h fun b h2 h=>.cons (p h1 (o.l h)) (q h2 (o.r h))
 ·exact aD h fun h _=>bN h
 ·cases us with
  | nil=>exact nk3 h
  | cons e r=>exact ob h fun a h1 h=>ob h fun b h2 h=>ob h1 fun k hk h1=>ob h1 fun l hl h1=>⟨e,r,rfl,⟨I8 hk ((o.l h).l h1),p hl ((o.l h).r h1)⟩,q h2 (o.r h)⟩
end
end Mine
end
section
namespace Mine
theorem s5 {ps:List Str}:∀ {vs:List Value},ps.length=vs.length→∀ n ∈ ps,((ps.zip vs).lookup n).isSome=true:=by
 induction ps with
 | nil=>exact fun _=>iG
 | cons p ps ih =>
  intro vs e n m
  cases vs with
  | nil=>exact absurd e nofun
  | cons v vs =>
   rw[List.zip_cons_cons]
   by_cases z:n=p
   ·rw[jM z];rfl
   ·rw[kK z];exact ih (Nat.succ.inj e) n ((List.mem_cons.mp m).resolve_left z)
theorem rJ {α β:Type}{f g:α→Option β}{l:List α} (h:∀ x ∈ l,f x=g x):l.filterMap f=l.filterMap g:=by
 induction l with
 | nil=>rfl
 | cons a r ih=>rw[List.filterMap_cons,List.filterMap_cons,h a List.mem_cons_self,ih fun x m=>h x (List.mem_cons_of_mem _ m)]
theorem vM {ps:List Str}:∀ {vs:List Value},ps.length=vs.length→ps.Nodup→ps.filterMap (fun n=>((ps.zip vs).lookup n).map (n,·))=ps.zip vs:=by
 induction ps with
 | nil=>exact fun _ _=>rfl
 | cons p ps ih =>
  intro vs e nd
  cases vs with
  | nil=>exact absurd e nofun
  | cons v vs =>
   have nd:=List.nodup_cons.mp nd
   rw[List.zip_cons_cons,List.filterMap_cons,jM rfl]
   show(p,v)::_=_
   rw[rJ (g:=fun n=>((ps.zip vs).lookup n).map (n,·)) fun x m=>by rw[kK fun z=>nd.1 (by rw[← z];exact m)],ih (Nat.succ.inj e) nd.2]
theorem BK {fd:FuncData} (h1:fd.params.posonlyargs=[]) (h2:fd.params.kwonlyargs=[]) (h3:fd.params.vararg=none) (h4:fd.params.kwarg=none) (h5:fd.defaults=.none) (nd:(fd.params.args.map (·.arg)).Nodup) {vals:List Value} (hl:vals.length=(fd.params.args.map (·.arg)).length) :
  bindArgs fd ⟨vals,[]⟩=pure ((fd.params.args.map (·.arg)).zip vals):=by
 obtain⟨n,q,⟨po,ar,va,ko,kd,kw,df⟩,bo,sc,gl,cl,dfs,kwd,doc,pm,an,co,ct,bu⟩:=fd
 dsimp only at h1 h2 h3 h4 h5 nd hl ⊢
 subst h1 h2 h3 h4 h5
 have e1:¬ ((decide (vals.length > (ar.map (·.arg)).length)&&Option.isNone (none:Option Arg))=true):=by rw[hl];simp
 refine Eq.trans (if_neg e1) ?_
 have e2:¬ ((!((((ar.map (·.arg)).take ((ar.map (·.arg)).length - (List.drop (0 - (ar.map (·.arg)).length) ([]:List Value)).length)).filter fun n=>(((ar.map (·.arg)).zip vals).lookup n).isNone).isEmpty))=true):=by
  have hm:((ar.map (·.arg)).take ((ar.map (·.arg)).length - (List.drop (0 - (ar.map (·.arg)).length) ([]:List Value)).length)).filter (fun n=>(((ar.map (·.arg)).zip vals).lookup n).isNone)=[]:=by
   refine List.filter_eq_nil_iff.mpr fun n hn z=>?_
   have:=s5 hl.symm n (List.mem_of_mem_take hn)
   rw[Option.isNone_iff_eq_none.mp z]at this
   exact nk6 this
  rw[hm];exact nk6
 refine Eq.trans (if_neg e2) ?_
 show(forIn (((ar.map (·.arg)).drop ((ar.map (·.arg)).length - (List.drop (0 - (ar.map (·.arg)).length) ([]:List Value)).length)).zip (List.drop (0 - (ar.map (·.arg)).length) ([]:List Value))) _ _ >>= _)=_
 rw[List.drop_nil,List.zip_nil_right]
 show(pure (List.filterMap (fun n=>(((ar.map (·.arg)).zip vals).lookup n).map (n,·)) (ar.map (·.arg)++[])):Sem _)=_
 rw[List.append_nil,vM hl.symm nd]
end Mine
end
section
namespace Mine
noncomputable def Mf (K:Frag) (x:Str):Option Value:=(nsIn K mainGlobals x).bind fun o=>oe o some ((nsIn K builtinsNs x).bind fun o=>o)
noncomputable def mS (K:Frag) (l:List (Str × FV)):Option Ob:=@List.rec (Str × FV) (fun _=>Option Ob) (some []) (fun p _ ih=>(Mf K p.1).bind fun v=>(Gn K p.2 v).bind fun a=>ih.bind fun b=>some (a++b)) l
theorem Ce {w:World}{K:Frag}{l:List (Str × FV)}:∀ {o:Ob},mS K l=some o→lC w o→∀ {x y},lk x l=some y→∃ v,(nsIn K mainGlobals x=some (some v)∨(nsIn K mainGlobals x=some none∧nsIn K builtinsNs x=some (some v)))∧aO w (fun a=>K.lookup a) v y:=by
 induction l with
 | nil=>exact fun _ _ _ _=>nk3
 | cons p r ih =>
  intro o e ob' x y h
  refine ob e fun v hv e=>ob e fun a h1 e=>ob e fun b h2 e=>AM h (fun z h=>⟨v,?_,Option.some.inj h ▸ J0 h1 (ob'.l e)⟩) fun _ h=>ih h2 (ob'.r e) h
  rw[z]
  exact ob hv fun q hq hv=>fC hv (fun u hu hv=>.inl (by rw[hq,hu,hv])) fun hu hv=>ob hv fun u h1 h2=>.inr ⟨by rw[hq,hu],by rw[h1];exact congrArg some h2⟩
noncomputable def Jb (T:bQ):List (Nat ⊕ Ty):=[.inr .none,.inr .bool,.inr .int,.inr .str,.inr .tuple,.inr .list]++T.isiC.map Sum.inl
noncomputable def Ol (T:bQ):List (Nat ⊕ Ty):=[.inr .list,.inr .tuple,.inr .bool]++T.isiC.map Sum.inl
theorem IL {T:bQ}{x:FV}{tv:Nat ⊕ Ty} (h:rW T x=some tv):tv ∈ Jb T:=by
 have f:∀ {t:Nat ⊕ Ty},t ∈ [.inr .none,.inr .bool,.inr .int,.inr .str,.inr .tuple,.inr .list]→some t=some tv→tv ∈ Jb T:=fun m e=>Option.some.inj e ▸ List.mem_append_left _ m
 cases x with
 | none=>exact f (.head _) h
 | bool=>exact f (.tail _ (.head _)) h
 | int=>exact f (.tail _ (.tail _ (.head _))) h
 | str=>exact f (.tail _ (.tail _ (.tail _ (.head _)))) h
 | tup=>exact f (.tail _ (.tail _ (.tail _ (.tail _ (.head _))))) h
 | lst=>exact f (.tail _ (.tail _ (.tail _ (.tail _ (.tail _ (.head _)))))) h
 | obj D fs=>exact aD h fun hm h=>Option.some.inj h ▸ List.mem_append_right _ (List.mem_map_of_mem (tQ hm))
 | _=>exact nk3 h
theorem IE {T:bQ}{t:FV}{c:Nat ⊕ Ty} (h:Ag T t=some c):c ∈ Ol T:=by
 cases t with
 | top C=>exact aD h fun hm h=>Option.some.inj h ▸ List.mem_append_right _ (List.mem_map_of_mem (tQ hm))
 | typ n =>
  refine aD h fun hm h=>Option.some.inj h ▸ List.mem_append_left _ ?_
  cases n with
  | list=>exact .head _
  | tuple=>exact .tail _ (.head _)
  | bool=>exact .tail _ (.tail _ (.head _))
  | _=>exact nk6 hm
 | _=>exact nk3 h
noncomputable def Ph (K:Frag) (T:bQ):Bool:=(Jb T).all fun tv=>(Ol T).all fun c=>decide (kitOne K (jN tv) (jN c)=some (FM tv c))
noncomputable def Mi (K:Frag) (D:Nat):Option Unit:=gd (plainGet K D "__class__") (gd (hasDictIn K D) (gd (decide (findIn K (.ref D) "__class__" = some (some (.builtin "object.__class__")))) (gd (decide (specialIn K (.builtin "object.__class__") "__get__" = some (some (.builtin "getset_descriptor.__get__")))) (gd (decide (takesIn K (.builtin "object.__class__")=some true)) (gd (decide (mroIn K D (.type "object")=some true)) (some ()))))))
noncomputable def oC {α:Type} (f:α→Option Unit) (l:List α):Bool:=l.all fun x=>(f x).isSome
theorem rV {α:Type}{f:α→Option Unit}{l:List α} (h:oC f l=true) {x:α} (m:x ∈ l) {P:Prop} (k:∀ u,f x=some u→P):P:=(Option.isSome_iff_exists.mp (gY h m)).elim k
noncomputable def Ea (e:DictEntry):Option Unit:=(vS e.key).bind fun _=>some ()
theorem sP {es:List DictEntry} (h:oC Ea es=true):StrKeys es.toArray:=fun e m=>rV h (List.mem_toArray.mp m) fun u h=>ob h fun s hs _=>(xD hs).imp' (fun _=>s) fun t q=>⟨t,q⟩
noncomputable def C6 (K:Frag):Option Unit:=(K.lookup cStatics).bind fun o=>(t8 o.data).bind fun r=>gd (oC Ea r.1) (gd (nsFind r.1.toArray "sys.recursionlimit").isNone (some ()))
theorem Fg {K:Frag}{u:Unit} (e:C6 K=some u) (h:Heap) (KI:K.In h):h.NoLimit :=
 ob e fun o ho e=>ob e fun r hr e=>aD e fun h1 e=>aD e fun h2 _=>⟨nsFind r.1.toArray,⟨o,r.1.toArray,r.2,KI _ _ ho,rK hr,sP h1,fun _=>rfl⟩,Option.isNone_iff_eq_none.mp h2⟩
theorem E3 {l:List Str} (h:v7 l=true):l.Nodup:=by
 induction l with
 | nil=>exact List.nodup_nil
 | cons a r ih =>
  obtain⟨h1,h2⟩:=Bool.and_eq_true_iff.mp h
  exact List.nodup_cons.mpr ⟨fun m=>nk5 ((rS.mpr m).symm.trans (gU h1)),ih h2⟩
noncomputable def Bp (d:Data):Option FuncData:=match d with
 | .func fd=>some fd
 | _=>none
theorem Ej {d:Data}{fd:FuncData} (h:Bp d=some fd):d=.func fd:=by
 cases d with
 | func=>rw[← Option.some.inj h]
 | _=>exact nk3 h
noncomputable def O4 (K:Frag) (a:Addr):Option FuncData:=(K.lookup a).bind fun o=>(Bp o.data).bind fun fd=>gd (bV fd.closure) (gd (fd.globals == mainGlobals) (gd (fd.builtins == builtinsNs) (gd (codeIn K fd.code fd.qualname) (gd (!fd.scope.isCoroutine) (gd (!fd.scope.isGenerator) (gd (decide (fd.scope.kind=.function))
 (gd (bV fd.params.posonlyargs) (gd (bV fd.params.kwonlyargs) (gd fd.params.vararg.isNone (gd fd.params.kwarg.isNone (gd (decide (fd.defaults=.none)) (gd (v7 (fd.params.args.map (·.arg))) (some fd)))))))))))))
noncomputable def J6 (K:Frag) (a:Addr):Option (FuncBody × Scope × Arguments):=(K.lookup a).bind fun o=>(Bp o.data).bind fun fd=>some (fd.body,fd.scope,fd.params)
noncomputable def pW (s:Stmt):Option (FuncBody × Scope × Arguments):=s7 s none (fun a b c=>some (.stmts b,c,a)) (fun _=>none) (fun _=>none) (fun _ _=>none) (fun _ _ _=>none) (fun _ _ _ _=>none) (fun _ _ _=>none) (fun _ _ _=>none) (fun _ _=>none) (fun _ _ _ _=>none) (fun _=>none) none none
noncomputable def BH (i:Nat) (j:Option Nat):Option (FuncBody × Scope × Arguments):=(nth pw.main.body i).bind fun s=>oe j (fun j=>(nth (jG s) j).bind pW) (pW s)
theorem w8 {s:Stmt}{fi:FI} (h:wR s=some fi):∃ a,pW s=some (.stmts fi.body,fi.sc,a)∧fi.ps=a.args.map (·.arg):=by
 cases s with
 | FunctionDef _ a=>exact⟨a,by rw[← Option.some.inj h];rfl,by rw[← Option.some.inj h]⟩
 | _=>exact nk3 h
theorem Il {i:Nat}{j:Option Nat}{fi:FI} (h:tR i j=some fi):∃ a,BH i j=some (.stmts fi.body,fi.sc,a)∧fi.ps=a.args.map (·.arg) :=
 ob h fun s hs h=>by
  have e:BH i j=oe j (fun j=>(nth (jG s) j).bind pW) (pW s):=by show(nth pw.main.body i).bind _=_;rw[hs];rfl
  cases j with
  | none=>exact(w8 h).imp fun a q=>⟨e.trans q.1,q.2⟩
  | some j=>exact ob h fun t ht h=>(w8 h).imp fun a q=>⟨e.trans (by show(nth (jG s) j).bind pW=_;rw[ht];exact q.1),q.2⟩
theorem H7 {K:Frag}{a:Addr}{i:Nat}{j:Option Nat}{fi:FI}{fd:FuncData} (h1:O4 K a=some fd) (h2:J6 K a=BH i j) (h3:tR i j=some fi):Ah K a fi:=by
 obtain⟨ar,h4,h5⟩:=Il h3
 refine ob h1 fun o ho h1=>ob h1 fun fd' hd h1=>aD h1 fun q1 h1=>aD h1 fun q2 h1=>aD h1 fun q3 h1=>aD h1 fun q4 h1=>aD h1 fun q5 h1=>aD h1 fun q6 h1=>aD h1 fun q7 h1=>aD h1 fun q8 h1=>aD h1 fun q9 h1=>aD h1 fun q10 h1=>aD h1 fun q11 h1=>aD h1 fun q12 h1=>aD h1 fun q13 _=>?_
 have e:J6 K a=some (fd'.body,fd'.scope,fd'.params):=by show(K.lookup a).bind _=_;rw[ho];show(Bp o.data).bind _=_;rw[hd];rfl
 have e:=Option.some.inj ((e.symm.trans h2).trans h4)
 have b1:fd'.body=.stmts fi.body:=congrArg Prod.fst e
 have b2:fd'.scope=fi.sc:=congrArg (fun p=>p.2.1) e
 have b3:fd'.params=ar:=congrArg (fun p=>p.2.2) e
 have nd:=E3 q13
 refine⟨o,fd',ho,Ej hd,b1,b2,bN q1,beq_iff_eq.mp q2,beq_iff_eq.mp q3,q4,b2 ▸ gU q5,b2 ▸ gU q6,b2 ▸ of_decide_eq_true q7,fun vals e=>?_,by rw[h5,← b3];exact nd⟩
 rw[h5,← b3]at e ⊢
 exact BK (bN q8) (bN q9) (Option.isNone_iff_eq_none.mp q10) (Option.isNone_iff_eq_none.mp q11) (of_decide_eq_true q12) nd e
noncomputable def Ro (K:Frag) (p:Nat × Nat × Option Nat):Option Unit:=(O4 K p.1).bind fun _=>gd (keepIn K (.ref p.1)) (some ())
noncomputable def QF (K:Frag) (p:Nat × Bool × Nat):Option Unit:=gd (keepIn K (.ref p.1)) (gd (makesIn K p.1) (gd (decide (findIn K (.ref p.1) "__init__" = some (some (.ref p.2.2)))) (gd (decide (typeIn K (.ref p.2.2)=some (.type "function"))) (some ()))))
noncomputable def NG (K:Frag) (C:Nat) (p:Str × Nat):Option Unit:=gd (plainGet K C p.1) (gd (decide (findIn K (.ref C) p.1=some (some (.ref p.2)))) (gd (decide (typeIn K (.ref p.2)=some (.type "function"))) (gd (keepIn K (.ref p.2)) (some ()))))
noncomputable def PW (K:Frag) (C:Nat) (a:Str):Option Unit:=gd (plainGet K C a) (gd (hasDictIn K C) ((findIn K (.ref C) a).bind fun attr=>gd (noGet K attr) (gd (decide (findIn K (.ref C) "__setattr__" = some (some (.builtin "object.__setattr__")))) (gd (plainOver K C) (gd (decide (takerIn K C a=some none)) (some ()))))))
noncomputable def EW (K:Frag) (T:bQ):Option Unit:=gd (Ph K T) (gd (oC (Mi K) T.isiC) ((K.lookup sysModules).bind fun _=>(C6 K).bind fun _=>gd (oC (Ro K) T.fns) (gd (oC (QF K) T.clss) (gd (T.meths.all fun q=>oC (NG K q.1) q.2) (gd (T.fields.all fun q=>oC (PW K q.1) q.2) (some ()))))))
noncomputable def Bi (K:Frag) (T:bQ):List (Option (FuncBody × Scope × Arguments)):=T.fns.map fun p=>J6 K p.1
noncomputable def BF (T:bQ):List (Option (FuncBody × Scope × Arguments)):=T.fns.map fun p=>BH p.2.1 p.2.2
theorem Ci {α β:Type}{f g:α→β}{l:List α} (h:l.map f=l.map g) {x:α} (m:x ∈ l):f x=g x:=by
 induction l with
 | nil=>exact absurd m List.not_mem_nil
 | cons a r ih =>
  have h:=List.cons.inj h
  exact(List.mem_cons.mp m).elim (fun q=>q ▸ h.1) (ih h.2)
theorem kB {α:Type}{x:Nat}{y:α}{l:List (Nat × α)} (e:iS x l=some y):(x,y) ∈ l:=by
 induction l with
 | nil=>exact nk3 e
 | cons p r ih =>
  replace e : @Bool.rec (fun _=>Option α) (iS x r) (some p.2) (Nat.beq x p.1)=some y:=e
  cases q:Nat.beq x p.1 with
  | true=>rw[q]at e;rw[Nat.eq_of_beq_eq_true q,← show p.2=y from Option.some.inj e];exact List.mem_cons_self
  | false=>rw[q]at e;exact List.mem_cons_of_mem _ (ih e)
theorem Jz {α:Type}{x:Str}{y:α}{l:List (Str × α)} (e:lk x l=some y):(x,y) ∈ l:=nJ ((fW _ _).symm.trans e)
theorem LM {w:World}{K:Frag}{T:bQ}{o:Ob}{u:Unit} (h1:EW K T=some u) (h2:mS K T.glob=some o) (h3:lC w o) (h4:Bi K T=BF T):cW w K T:=by
 refine aD h1 fun c1 h1=>aD h1 fun c2 h1=>ob h1 fun m hm h1=>ob h1 fun _ c4 h1=>aD h1 fun c5 h1=>aD h1 fun c6 h1=>aD h1 fun c7 h1=>aD h1 fun c8 _=>⟨fun x y e=>Ce h2 h3 e,fun tv c x t e1 e2=>?_,fun D m=>?_,⟨m,hm⟩,Fg c4,fun a p fi e1 e2=>?_,fun a p e=>?_,fun a p e=>?_,fun C ms n a e1 e2=>?_,fun C a e=>?_⟩
 ·exact of_decide_eq_true (gY (gY c1 (IL e1)) (IE e2))
 ·exact rV c2 m fun _ h=>aD h fun q1 h=>aD h fun q2 h=>aD h fun q3 h=>aD h fun q4 h=>aD h fun q5 h=>aD h fun q6 _=>⟨q1,q2,of_decide_eq_true q3,of_decide_eq_true q4,of_decide_eq_true q5,of_decide_eq_true q6⟩
 ·exact rV c5 (kB e1) fun _ h=>ob h fun fd hf _=>H7 hf (Ci h4 (kB e1)) e2
 ·exact rV c5 (kB e) fun _ h=>ob h fun fd hf h=>aD h fun q _=>q
 ·exact rV c6 (kB e) fun _ h=>aD h fun q1 h=>aD h fun q2 h=>aD h fun q3 h=>aD h fun q4 _=>⟨q1,q2,of_decide_eq_true q3,of_decide_eq_true q4⟩
 ·exact rV (gY c7 (kB e1)) (Jz e2) fun _ h=>aD h fun q1 h=>aD h fun q2 h=>aD h fun q3 h=>aD h fun q4 _=>⟨q1,of_decide_eq_true q2,of_decide_eq_true q3,q4⟩
 ·obtain⟨fs,hf,e⟩:=mH e
  exact rV (gY c8 (kB hf)) (rS.mp e) fun _ h=>aD h fun q1 h=>aD h fun q2 h=>ob h fun at' ha h=>aD h fun q3 h=>aD h fun q4 h=>aD h fun q5 h=>aD h fun q6 _=>⟨q1,q2,⟨at',ha,q3⟩,of_decide_eq_true q4,q5,of_decide_eq_true q6⟩
end Mine
end
section
namespace Mine
noncomputable def H5 (s:Stmt):Option (List Expr × Expr):=s7 s none (fun _ _ _=>none) (fun _=>none) (fun _=>none) (fun t e=>some (t,e)) (fun _ _ _=>none) (fun _ _ _ _=>none) (fun _ _ _=>none) (fun _ _ _=>none) (fun _ _=>none) (fun _ _ _ _=>none) (fun _=>none) none none
theorem Di {s:Stmt}{q:List Expr × Expr} (h:H5 s=some q):∃ p,s=.Assign q.1 q.2 p:=by
 cases s with
 | Assign t e p=>exact⟨p,by rw[← Option.some.inj h]⟩
 | _=>exact nk3 h
noncomputable def A4 {α:Type} (l:List α):Option (α × α × α):=@List.rec α (fun _=>Option (α × α × α)) none (fun x r _=>(mX r).bind fun y=>some (x,y)) l
theorem vE {α:Type}{l:List α}{x:α × α × α} (h:A4 l=some x):l=[x.1,x.2.1,x.2.2]:=by
 cases l with
 | nil=>exact nk3 h
 | cons a r=>exact ob h fun y h1 h2=>by rw[kD h1,← Option.some.inj h2]
noncomputable def Le (s:Stmt) (p a q:Str):Option Unit:=(H5 s).bind fun z=>(one z.1).bind fun t=>(gG z.2).bind fun y=>(BJ t).bind fun o=>(gG o.1).bind fun x=>gd (seq x p) (gd (seq o.2.1 a) (gd (seq y q) (some ())))
theorem z9 {s:Stmt}{p a q:Str}{u:Unit} (h:Le s p a q=some u):∃ p1 p2 p3 p4,s=.Assign [.Attribute (.Name p p1) a p2] (.Name q p3) p4 :=
 ob h fun z h1 h=>ob h fun t h2 h=>ob h fun y h3 h=>ob h fun o h4 h=>ob h fun x h5 h=>aD h fun g1 h=>aD h fun g2 h=>aD h fun g3 _=>by
  obtain⟨p4,e1⟩:=Di h1
  obtain⟨p3,e3⟩:=d4 h3
  obtain⟨p1,e5⟩:=d4 h5
  exact⟨p1,o.2.2,p3,p4,by rw[e1,eA h2,rO h4,e3,e5,hV.mp g1,hV.mp g2,hV.mp g3]⟩
noncomputable def Bj (sc:Scope) (x:Str):Bool:=decide (kindOf sc x=some .local)
noncomputable def Q2 (fi:FI):Option Unit:=(A4 fi.ps).bind fun z=>(mX fi.body).bind fun b=>(Le b.1 z.1 "text" z.2.1).bind fun _=>(Le b.2 z.1 "line" z.2.2).bind fun _=>gd (Bj fi.sc z.1) (gd (Bj fi.sc z.2.1) (gd (Bj fi.sc z.2.2) (some ())))
noncomputable def Kf (d:Data):Option ClassData:=match d with
 | .cls c=>some c
 | _=>none
theorem EV {d:Data}{c:ClassData} (h:Kf d=some c):d=.cls c:=by
 cases d with
 | cls=>rw[← Option.some.inj h]
 | _=>exact nk3 h
theorem Q6 {α:Type}{l:List α}{e':α} (h:l.length=6) (h4:l[4]? = some e'):∃ a b c d f,l=[a,b,c,d,e',f]:=by
 obtain⟨a,l,rfl⟩:=List.exists_cons_of_length_eq_add_one h
 obtain⟨b,l,rfl⟩:=List.exists_cons_of_length_eq_add_one (Nat.succ.inj h)
 obtain⟨c,l,rfl⟩:=List.exists_cons_of_length_eq_add_one (Nat.succ.inj (Nat.succ.inj h))
 obtain⟨d,l,rfl⟩:=List.exists_cons_of_length_eq_add_one (Nat.succ.inj (Nat.succ.inj (Nat.succ.inj h)))
 obtain⟨e,f,rfl⟩:=K4 (Nat.succ.inj (Nat.succ.inj (Nat.succ.inj (Nat.succ.inj h))))
 exact⟨a,b,c,d,f,by rw[show e=e' from Option.some.inj h4]⟩
theorem Pf {o:Obj}{cd:ClassData}{C:Addr}{bm:List Value}{n:String} (h1:o.cls=.type "type") (h2:o.data=.cls cd) (h3:cd.mro=.ref C::bm) (h4:cd.hasDict=true) (h5:cd.hasDel=false) (h6:o.slots.toList.length=6) (h7:o.slots.toList[4]? = some (some (.builtin n))) :
  ∃ k0 k1 k2 k3 k5,o=excClassObj cd.name cd.qualname C cd.ns cd.bases bm true cd.slotNames cd.subclasses cd.abstract cd.collection o.dict k0 k1 k2 k3 k5 n:=by
 obtain⟨c,d,da,s⟩:=o
 obtain⟨nm,bs,mro,ns,qn,hdi,sn,sub,ab,col,del⟩:=cd
 obtain⟨a,b,c',d',f,e⟩:=Q6 h6 h7
 refine⟨a,b,c',d',f,?_⟩
 rw[show c=.type "type" from h1,show da=_ from h2,show mro=_ from h3,show hdi=_ from h4,show del=_ from h5,show s = #[a,b,c',d',some (.builtin n),f] from Array.toList_inj.mp e]
noncomputable def AZ (K:Frag) (T:bQ):Option Unit:=(K.lookup T.fail).bind fun o=>gd (decide (o.cls=.type "type")) ((Kf o.data).bind fun cd=>gd (decide (cd.mro=[.ref T.fail,.type "Exception",.type "BaseException",.type "object"])) (gd cd.hasDict (gd (!cd.hasDel) (gd (Nat.beq o.slots.toList.length 6) (gd (decide (o.slots.toList[4]? = some (some (.builtin "Exception.__new__"))))
 ((K.lookup cd.ns).bind fun oN=>(t8 oN.data).bind fun r=>gd (oC Ea r.1) (gd (nsFind r.1.toArray "__setattr__").isNone (gd (nsFind r.1.toArray "text").isNone (gd (nsFind r.1.toArray "line").isNone ((nsFind r.1.toArray "__init__").bind fun v=>(vR v).bind fun fI=>(K.lookup fI).bind fun oI=>gd (decide (oI.cls=.type "function")) ((iS fI T.fns).bind fun p=>(tR p.1 p.2).bind Q2)))))))))))
theorem CL {w:World}{K:Frag}{T:bQ}{u:Unit} (k:cW w K T) (h:AZ K T=some u):xA K T.fail :=
 ob h fun o ho h=>aD h fun a1 h=>ob h fun cd hcd h=>aD h fun a2 h=>aD h fun a3 h=>aD h fun a4 h=>aD h fun a5 h=>aD h fun a6 h=>ob h fun oN hN h=>ob h fun r hr h=>aD h fun g1 h=>aD h fun g2 h=>aD h fun g3 h=>aD h fun g4 h=>ob h fun v hI h=>ob h fun fI hf h=>ob h fun oI hoI h=>aD h fun hcI h=>ob h fun p hp h=>ob h fun fi hfi h =>
  ob h fun z hz h=>ob h fun b hb h=>ob h fun _ t1 h=>ob h fun _ t2 h=>aD h fun q7 h=>aD h fun q8 h=>aD h fun q9 _=>by
  obtain⟨p1,p2,p3,p4,e1⟩:=z9 t1
  obtain⟨p5,p6,p7,p8,e2⟩:=z9 t2
  obtain⟨k0,k1,k2,k3,k5,e⟩:=Pf (of_decide_eq_true a1) (EV hcd) (of_decide_eq_true a2) a3 (gU a4) (Nat.eq_of_beq_eq_true a5) (of_decide_eq_true a6)
  exact⟨cd.name,cd.qualname,cd.ns,cd.bases,cd.slotNames,cd.subclasses,cd.abstract,cd.collection,o.dict,k0,k1,k2,k3,k5,ho.trans (congrArg some e),oN,r.1.toArray,r.2,fI,oI,fi,z.1,z.2.1,z.2.2,p1,p2,p3,p4,p5,p6,p7,p8,hN,rK hr,sP g1,oZ hf ▸ hI,Option.isNone_iff_eq_none.mp g2,Option.isNone_iff_eq_none.mp g3,Option.isNone_iff_eq_none.mp g4,hoI,of_decide_eq_true hcI,k.fnI fI p fi hp hfi,vE hz,of_decide_eq_true q7,of_decide_eq_true q8,of_decide_eq_true q9,by rw[kD hb,e1,e2]⟩
theorem Eg {w:World}{K:Frag}{T:bQ}{o:Ob}{u u':Unit} (h1:EW K T=some u) (h2:mS K T.glob=some o) (h3:lC w o) (h4:Bi K T=BF T) (h5:AZ K T=some u') (h6:keepIn K (.ref T.fail)=true) (h7:ktsIn K T.fail "BaseException" = true):iW w K T :=
 have k:=LM h1 h2 h3 h4
 ⟨k,Nn,I4 (CL k h5) k.nolim,Bk h7,h6,h7⟩
end Mine
end
section
namespace Mine
noncomputable def jV (B:PM) (h:Heap):PM:=fun a=>oe (B a) (fun _=>none) (h.get? a)
theorem H8 {B:PM}{h:Heap}{a:Addr}{o:Obj} (e:jV B h a=some o):h.get? a=some o:=by
 unfold jV at e
 cases q:B a with
 | none=>rw[q]at e;exact e
 | some o'=>rw[q]at e;exact nk3 e
theorem IA {B:PM}{h:Heap}{a:Addr}{o:Obj} (e:B a=some o):jV B h a=none:=by unfold jV;rw[e];rfl
theorem zL {B:PM}{h:Heap}{a:Addr} (e:B a=none):jV B h a=h.get? a:=by unfold jV;rw[e];rfl
noncomputable def c0 (B:PM):Cf:=⟨B,fun _=>none,[],[],false,[]⟩
noncomputable def c1 (B:PM) (C:Addr) (cs:List (Str × Addr)):Cf:=⟨B,iN (sV (c0 B) cs) C (some .v),[],[],false,[]⟩
theorem aH.root {w:World}{B:PM}{C:Addr}{cs:List (Str × Addr)}{v:Value}{x:PV} (p:aH w (c0 B) v x):aH w (c1 B C cs) v x:=p
section
variable {w:World}{env₁:Env}{s s₁:Shared}{B:PM}
theorem aC.root (hB:∀ a o,B a=some o→s.heap.get? a=some o) {mL mC:Str→Option Value} (x:InCallC s env₁.locals mL env₁.cells mC s₁) (hL:env₁.locals=s.heap.objs.size) {v c':List (Str × PV)} (hv:BI w (c0 B) (fun _=>True) mL v)
  (hc:BI w (c0 B) (fun x=>(env₁.cells.lookup x).isSome=true) mC c'):aC w (jV B s.heap) env₁ (c1 B env₁.locals env₁.cells) ⟨[],[],v,c'⟩ s₁.heap:=by
 have gr:aY s.heap s₁.heap:=x.toInCall.keep
 have fresh:∀ {a:Addr},env₁.locals ≤ a→B a=none∧jV B s.heap a=none:=fun {a} l=>by
  have q:s.heap.get? a=none:=Heap.get?_none_of_le (hL ▸ l)
  have b:B a=none:=by
   cases e:B a with
   | none=>rfl
   | some o=>exact nk3 (q.symm.trans (hB a o e))
  exact⟨b,(zL b).trans q⟩
 have abv:∀ {n:Str}{a:Addr},env₁.cells.lookup n=some a→env₁.locals < a:=fun e=>x.above _ _ (mem_of_lookup e)
 have owC:∀ {n:Str}{a:Addr},env₁.cells.lookup n=some a→(c1 B env₁.locals env₁.cells).ow a=some (.c n):=fun {n a} e=>by
  refine(eZ (f:=sV (c0 B) env₁.cells) (Nat.ne_of_gt (abv e))).trans ?_
  show oe (gA env₁.cells a) (fun n=>some (bY.c n)) (lZ (c0 B) a)=_
  rw[xX x.apart e];rfl
 refine⟨fun a o e=>gr _ _ (hB a o e),fun a o e=>IA e,fun a o e=>.inl (gr _ _ (H8 e)),fun a e=>absurd e List.not_mem_nil,fun a t e=>jS (f:=sV (c0 B) env₁.cells) e (fun z e=>?_) fun z e=>?_,gS (f:=sV (c0 B) env₁.cells),fun y a e=>.inl (owC e),fun y u e=>(hc y u e).2.1,rfl,fun k sl e=>nk3 e,rfl,fun k a xs e=>nk3 e,fun k C fs e=>nk3 e⟩
 ·obtain⟨o,es,ep,q1,q2,q3,q4⟩:=x.toInCall.ns
  rw[z,← Option.some.inj e]
  have f:=fresh (Nat.le_refl env₁.locals)
  exact⟨f.1,f.2,o,q1,rfl,es,ep,q2,q3,fun y u e=>(hv y u e).2.2.imp fun y' p=>⟨(q4 y).trans p.1,aH.root p.2⟩⟩
 ·replace e:oe (gA env₁.cells a) (fun n=>some (bY.c n)) (lZ (c0 B) a)=some t:=e
  cases q:gA env₁.cells a with
  | some n =>
   rw[q]at e
   have hn:=rE q
   have f:=fresh (Nat.le_of_lt (abv hn))
   rw[← Option.some.inj e]
   exact⟨f.1,f.2,(x.cell n a hn).imp fun o q=>⟨q.1,hn,_,q.2,fun u e=>(hc n u e).2.2.imp fun y p=>⟨p.1,aH.root p.2⟩⟩⟩
  | none=>rw[q]at e;exact nk3 e
end
section
variable {w:World}{K:Frag}{T:bQ}{B:PM}
theorem C0 (Bs:iW w K T) {n m:Nat}{A:Around}{E:Value→Shared→Prop}{s:Shared} (hfr:A.frames=some []) (hh:A.handled=none) (hd:A.depth + 3 * n + 7 ≤ recursionLimit) (hu:A.units + 8 * n + 44 ≤ cLine) (hB:∀ a o,B a=some o→s.heap.get? a=some o) (hK:∀ a o,K.lookup a=some o→B a=some o)
  {a:Nat}{vs:List Value}{xs:List FV}{q:FI × List (Str × PV) × List (Str × PV)} (ps:aQ w B vs xs) (h0:i0 T a (xs.map .f) []=some q) (h5:cX q.1.body=none) (hi:dY a T.inits=false)
  (hr:cG T (run T m n) m a (xs.map .f) []=.ok (.f (.bool true),[])) {Q:Value→Shared→Prop} (fin:∀ s',aS s s'→aY s.heap s'.heap→Q (.bool true) s'):wpAny (model pw w) A (call (.ref a) vs) Q E s:=by
 have KI:K.In s.heap:=fun a o e=>hB _ _ (hK a o e)
 replace hr:(eF (i0 T a (xs.map .f) [])).bind (fun q=>Mine.oe (cX q.1.body) (fun p=>BO T (run T m n) ⟨a,q.1.sc,m⟩ p.1 p.2 [] q.2.1 q.2.2) (aN (run T m n) (iR T m a [] q)))=.ok (.f (.bool true),[]):=hr
 rw[h0]at hr
 replace hr:=(L2 h5).symm.trans hr
 rw[iR,aZ]at hr
 refine wpAny_call (n9 (C:=run T m n) (X:=⟨d9 s.heap (fun _=>none) (fun _=>none) [],fun _=>none⟩) (m:=m) Bs hfr hh (by omega) (by omega) KI (c:=c0 B) (aX.ofF ps) h0 fun fd env₁ s₁ mL mC he hF₁ ic _ b1 b2 zz=>?_)
 have R₁:=aC.root hB ic (by rw[he];rfl) b1 b2
 have nob:∀ a,(d9 s.heap (fun _=>none) (fun _=>none) []).get? a=none:=fun a=>by
  cases z:(d9 s.heap (fun _=>none) (fun _=>none) []).get? a with
  | none=>rfl
  | some o=>exact(gM z).2.elim (fun y=>y.elim fun _=>nk3) fun y=>y.elim fun _ y=>nk3 y.1
 have o₁:Ok ⟨w,K,T,⟨d9 s.heap (fun _=>none) (fun _=>none) [],fun _=>none⟩,run T m n,n⟩ (jV B s.heap) (L6 A [] env₁) (c1 B env₁.locals env₁.cells) :=
  ⟨rfl,hK,fun a o e=>nk3 ((nob a).symm.trans e),fun a o e=>nk3 e,fun e he=>absurd he List.not_mem_nil,by show env₁.scope.kind ≠ _;rw[hF₁.kind];exact nofun,⟨s.heap.objs.size,by rw[he];rfl,nob _,.inl (by rw[he];rfl)⟩,fun a e=>absurd e List.not_mem_nil⟩
 refine mV (D1 Bs (JQ Bs m n) 30 _) hF₁ q.1.body ⟨[],[],q.2.1,q.2.2⟩ _ s₁ _ _ o₁ R₁ ⟨fun f st₂ ef c₂ fl s₂ l₂ R₂ vf z₂=>?_,fun er=>?_,fun es=>?_⟩
 ·rw[show aN (run T m n) (dS (ex T 30) ⟨a,q.1.sc,m⟩ q.1.body ⟨[],[],q.2.1,q.2.2⟩)=.ok (f,st₂) from ef]at hr
  replace hr:aN (run T m n) (opt (gK (dY a T.inits) 0 (f,st₂)) .ok)=.ok (.f (.bool true),[]):=hr
  rw[hi]at hr
  have gg:aY s.heap s₂.heap:=fun b o e=>by
   cases hb:B b with
   | none=>exact(R₂.hh b o ((zL hb).trans e)).is (by rw[← l₂.fs];exact List.not_mem_nil)
   | some o'=>rw[Option.some.inj (e.symm.trans (hB b o' hb))];exact R₂.b b o' (l₂.b _ _ hb)
  have bk:∀ {x:PV},vX 0 x st₂=some (.f (.bool true),[])→x=.f (.bool true):=fun {x} e=>aD e fun _ e=>ob e fun y hy e=>by
   have e:y=.bool true:=by injection congrArg Prod.fst (Option.some.inj e)
   subst e
   cases x with
   | f y=>exact congrArg PV.f (Option.some.inj hy)
   | loc k=>exact ob hy fun vs _ hy=>by injection hy with hy;cases hy
   | ref k=>exact aD (b:=!Nat.blt k 0) (x:=(jD st₂.g k).bind fun q=>(nU q.2).bind fun ys=>some (FV.obj q.1 ys)) hy fun _ hy=>ob hy fun q _ hy=>ob hy fun ys _ hy=>by injection hy with hy;cases hy
  refine Al hr fun r hr' e=>?_
  rw[mO e]at hr'
  cases f with
  | next=>exact absurd (bk (x:=.f .none) hr') (by intro z;cases z)
  | ret x =>
   obtain⟨v,rfl,p⟩:=vf
   rw[bk (x:=x) hr']at p
   rw[show v=.bool true from p]
   exact fin _ (zz.trans z₂) gg
  | _=>exact nk3 hr'
 ·rw[show aN (run T m n) (dS (ex T 30) ⟨a,q.1.sc,m⟩ q.1.body ⟨[],[],q.2.1,q.2.2⟩)=.raise from er]at hr;exact nk2 hr
 ·rw[show aN (run T m n) (dS (ex T 30) ⟨a,q.1.sc,m⟩ q.1.body ⟨[],[],q.2.1,q.2.2⟩)=.stuck from es]at hr;exact nk1 hr
end
end Mine
end
section
namespace Mine
noncomputable def Mx:List (Str × FV):=[((⟨#[99,111,100,101,95,97,116]⟩:Str),FV.top 535),
 ((⟨#[105,115,95,108,105,110,101,95,101,110,100]⟩:Str),FV.top 124),
 ((⟨#[76,73,78,69,95,69,78,68,83]⟩:Str),FV.lst [FV.int (10),FV.int (13),FV.int (8232),FV.int (8233)]),
 ((⟨#[105,115,95,119,104,105,116,101]⟩:Str),FV.top 117),
 ((⟨#[66,76,65,78,75,83]⟩:Str),FV.lst [FV.int (9),FV.int (11),FV.int (12),FV.int (32),FV.int (160),FV.int (5760),FV.int (6158),FV.int (8239),FV.int (8287),FV.int (12288),FV.int (65279)]),
 ((⟨#[105,115,95,105,100,95,115,116,97,114,116]⟩:Str),FV.top 152),
 ((⟨#[105,115,95,100,105,103,105,116]⟩:Str),FV.top 131),
 ((⟨#[108,101,110]⟩:Str),FV.blt .len),
 ((⟨#[111,114,100]⟩:Str),FV.blt .ord),
 ((⟨#[84,111,107,101,110]⟩:Str),FV.top 662),
 ((⟨#[112,117,110,99,116,95,97,116]⟩:Str),FV.top 680),
 ((⟨#[80,85,78,67,84,95,84,65,66,76,69]⟩:Str),FV.dct [(FV.str [62,62,62,61],FV.bool true),(FV.str [61,61,61],FV.bool true),(FV.str [33,61,61],FV.bool true),(FV.str [62,62,62],FV.bool true),(FV.str [60,60,61],FV.bool true),(FV.str [62,62,61],FV.bool true),(FV.str [60,61],FV.bool true),(FV.str [62,61],FV.bool true),(FV.str [61,61],FV.bool true),(FV.str [33,61],FV.bool true),(FV.str [43,43],FV.bool true),(FV.str [45,45],FV.bool true),(FV.str [60,60],FV.bool true),(FV.str [62,62],FV.bool true),(FV.str [38,38],FV.bool true),(FV.str [124,124],FV.bool true),(FV.str [43,61],FV.bool true),(FV.str [45,61],FV.bool true),(FV.str [42,61],FV.bool true),(FV.str [37,61],FV.bool true),(FV.str [38,61],FV.bool true),(FV.str [124,61],FV.bool true),(FV.str [94,61],FV.bool true),(FV.str [47,61],FV.bool true),(FV.str [123],FV.bool true),(FV.str [125],FV.bool true),(FV.str [40],FV.bool true),(FV.str [41],FV.bool true),(FV.str [91],FV.bool true),(FV.str [93],FV.bool true),(FV.str [46],FV.bool true),(FV.str [59],FV.bool true),(FV.str [44],FV.bool true),(FV.str [60],FV.bool true),(FV.str [62],FV.bool true),(FV.str [43],FV.bool true),(FV.str [45],FV.bool true),(FV.str [42],FV.bool true),(FV.str [37],FV.bool true),(FV.str [38],FV.bool true),(FV.str [124],FV.bool true),(FV.str [94],FV.bool true),(FV.str [33],FV.bool true),(FV.str [126],FV.bool true),(FV.str [63],FV.bool true),(FV.str [58],FV.bool true),(FV.str [61],FV.bool true),(FV.str [47],FV.bool true)]),
 ((⟨#[78,111,100,101]⟩:Str),FV.top 31),
 ((⟨#[105,115,95,105,100,95,112,97,114,116]⟩:Str),FV.top 159),
 ((⟨#[76,69,84,84,69,82,83]⟩:Str),FV.lst [FV.tup [FV.int (170),FV.int (170)],FV.tup [FV.int (181),FV.int (181)],FV.tup [FV.int (186),FV.int (186)],FV.tup [FV.int (192),FV.int (214)],FV.tup [FV.int (216),FV.int (246)],FV.tup [FV.int (248),FV.int (705)],FV.tup [FV.int (880),FV.int (883)],FV.tup [FV.int (886),FV.int (887)],FV.tup [FV.int (891),FV.int (893)],FV.tup [FV.int (902),FV.int (902)],FV.tup [FV.int (904),FV.int (906)],FV.tup [FV.int (908),FV.int (908)],FV.tup [FV.int (910),FV.int (929)],FV.tup [FV.int (931),FV.int (1013)],FV.tup [FV.int (1015),FV.int (1153)],FV.tup [FV.int (1162),FV.int (1315)],FV.tup [FV.int (1329),FV.int (1366)],FV.tup [FV.int (1377),FV.int (1415)],FV.tup [FV.int (1488),FV.int (1514)],FV.tup [FV.int (1569),FV.int (1594)],FV.tup [FV.int (1601),FV.int (1610)],FV.tup [FV.int (2308),FV.int (2361)],FV.tup [FV.int (4256),FV.int (4293)],FV.tup [FV.int (4304),FV.int (4346)],FV.tup [FV.int (7680),FV.int (7835)],FV.tup [FV.int (7840),FV.int (7929)],FV.tup [FV.int (8544),FV.int (8578)],FV.tup [FV.int (12353),FV.int (12438)],FV.tup [FV.int (12449),FV.int (12538)],FV.tup [FV.int (12549),FV.int (12588)],FV.tup [FV.int (19968),FV.int (40891)],FV.tup [FV.int (44032),FV.int (55203)]]),
 ((⟨#[80,65,82,84,83]⟩:Str),FV.lst [FV.tup [FV.int (768),FV.int (879)],FV.tup [FV.int (1632),FV.int (1641)],FV.tup [FV.int (2406),FV.int (2415)],FV.tup [FV.int (8204),FV.int (8205)],FV.tup [FV.int (8255),FV.int (8256)],FV.tup [FV.int (8276),FV.int (8276)]]),
 ((⟨#[105,115,105,110,115,116,97,110,99,101]⟩:Str),FV.blt .isi),
 ((⟨#[108,105,115,116]⟩:Str),FV.typ .list),
 ((⟨#[116,117,112,108,101]⟩:Str),FV.typ .tuple),
 ((⟨#[98,111,111,108]⟩:Str),FV.typ .bool),
 ((⟨#[115,116,114,101,110,103,116,104]⟩:Str),FV.top 368),
 ((⟨#[83,84,82,69,78,71,84,72,83]⟩:Str),FV.dct [(FV.str [124,124],FV.int (3)),(FV.str [38,38],FV.int (4)),(FV.str [124],FV.int (5)),(FV.str [94],FV.int (6)),(FV.str [38],FV.int (7)),(FV.str [61,61],FV.int (8)),(FV.str [33,61],FV.int (8)),(FV.str [61,61,61],FV.int (8)),(FV.str [33,61,61],FV.int (8)),(FV.str [60],FV.int (9)),(FV.str [62],FV.int (9)),(FV.str [60,61],FV.int (9)),(FV.str [62,61],FV.int (9)),(FV.str [105,110],FV.int (9)),(FV.str [105,110,115,116,97,110,99,101,111,102],FV.int (9)),(FV.str [60,60],FV.int (10)),(FV.str [62,62],FV.int (10)),(FV.str [62,62,62],FV.int (10)),(FV.str [43],FV.int (11)),(FV.str [45],FV.int (11)),(FV.str [42],FV.int (12)),(FV.str [47],FV.int (12)),(FV.str [37],FV.int (12))]),
 ((⟨#[115,104,111,119,95,98,97,114,101]⟩:Str),FV.top 387),
 ((⟨#[115,104,111,119,95,101,120,112,114,101,115,115,105,111,110]⟩:Str),FV.top 382),
 ((⟨#[77,69,77,66,69,82]⟩:Str),FV.int (16)),
 ((⟨#[67,65,76,76]⟩:Str),FV.int (15)),
 ((⟨#[85,78,65,82,89]⟩:Str),FV.int (13)),
 ((⟨#[65,83,83,73,71,78]⟩:Str),FV.int (1)),
 ((⟨#[67,79,77,77,65]⟩:Str),FV.int (0)),
 ((⟨#[79,84,72,69,82,83]⟩:Str),FV.dct [(FV.str [67,111,109,109,97],FV.int (0)),(FV.str [65,115,115,105,103,110],FV.int (1)),(FV.str [67,111,110,100],FV.int (2)),(FV.str [85,110,97,114,121],FV.int (13)),(FV.str [67,97,108,108],FV.int (15))]),
 ((⟨#[80,76,65,73,78]⟩:Str),FV.dct [(FV.str [78,117,108,108],FV.str [110,117,108,108]),(FV.str [84,104,105,115],FV.str [116,104,105,115])]),
 ((⟨#[65,83,83,73,71,78,73,78,71]⟩:Str),FV.tup [FV.str [61],FV.str [43,61],FV.str [45,61],FV.str [42,61],FV.str [47,61],FV.str [37,61],FV.str [60,60,61],FV.str [62,62,61],FV.str [62,62,62,61],FV.str [38,61],FV.str [94,61],FV.str [124,61]]),
 ((⟨#[85,78,65,82,89,95,83,73,71,78,83]⟩:Str),FV.tup [FV.str [45],FV.str [43],FV.str [33],FV.str [126]]),
 ((⟨#[85,78,65,82,89,95,87,79,82,68,83]⟩:Str),FV.tup [FV.str [116,121,112,101,111,102],FV.str [118,111,105,100],FV.str [100,101,108,101,116,101]]),
 ((⟨#[83,84,69,80,83]⟩:Str),FV.tup [FV.str [43,43],FV.str [45,45]]),
 ((⟨#[80,82,73,79,82,73,84,89]⟩:Str),FV.dct [(FV.str [124,124],FV.int (1)),(FV.str [38,38],FV.int (2)),(FV.str [124],FV.int (3)),(FV.str [94],FV.int (4)),(FV.str [38],FV.int (5)),(FV.str [61,61],FV.int (6)),(FV.str [33,61],FV.int (6)),(FV.str [61,61,61],FV.int (6)),(FV.str [33,61,61],FV.int (6)),(FV.str [60],FV.int (7)),(FV.str [62],FV.int (7)),(FV.str [60,61],FV.int (7)),(FV.str [62,61],FV.int (7)),(FV.str [105,110,115,116,97,110,99,101,111,102],FV.int (7)),(FV.str [105,110],FV.int (7)),(FV.str [60,60],FV.int (8)),(FV.str [62,62],FV.int (8)),(FV.str [62,62,62],FV.int (8)),(FV.str [43],FV.int (9)),(FV.str [45],FV.int (9)),(FV.str [42],FV.int (10)),(FV.str [47],FV.int (10)),(FV.str [37],FV.int (10))]),
 ((⟨#[77,79,83,84,95,78,69,83,84,69,68]⟩:Str),FV.int (40)),
 ((⟨#[111,99,116,97,108,95,102,97,117,108,116]⟩:Str),FV.top 899),
 ((⟨#[99,104,105,108,100,114,101,110]⟩:Str),FV.top 42),
 ((⟨#[115,97,109,101,95,107,105,110,100]⟩:Str),FV.top 54),
 ((⟨#[122,105,112]⟩:Str),FV.typ .zip),
 ((⟨#[115,104,111,119,95,110,97,109,101]⟩:Str),FV.top 347),
 ((⟨#[115,104,111,119,95,116,101,120,116]⟩:Str),FV.top 342),
 ((⟨#[69,83,67,65,80,69,68]⟩:Str),FV.dct [(FV.int (8),FV.str [92,98]),(FV.int (9),FV.str [92,116]),(FV.int (10),FV.str [92,110]),(FV.int (11),FV.str [92,118]),(FV.int (12),FV.str [92,102]),(FV.int (13),FV.str [92,114]),(FV.int (34),FV.str [92,34]),(FV.int (92),FV.str [92,92])]),
 ((⟨#[114,97,110,103,101]⟩:Str),FV.typ .range),
 ((⟨#[99,104,114]⟩:Str),FV.blt .chr),
 ((⟨#[105,115,95,107,101,121,119,111,114,100]⟩:Str),FV.top 673),
 ((⟨#[75,69,89,87,79,82,68,83]⟩:Str),FV.lst [FV.str [98,114,101,97,107],FV.str [99,97,115,101],FV.str [99,97,116,99,104],FV.str [99,111,110,116,105,110,117,101],FV.str [100,101,98,117,103,103,101,114],FV.str [100,101,102,97,117,108,116],FV.str [100,101,108,101,116,101],FV.str [100,111],FV.str [101,108,115,101],FV.str [102,105,110,97,108,108,121],FV.str [102,111,114],FV.str [102,117,110,99,116,105,111,110],FV.str [105,102],FV.str [105,110],FV.str [105,110,115,116,97,110,99,101,111,102],FV.str [110,101,119],FV.str [114,101,116,117,114,110],FV.str [115,119,105,116,99,104],FV.str [116,104,105,115],FV.str [116,104,114,111,119],FV.str [116,114,121],FV.str [116,121,112,101,111,102],FV.str [118,97,114],FV.str [118,111,105,100],FV.str [119,104,105,108,101],FV.str [119,105,116,104],FV.str [99,108,97,115,115],FV.str [99,111,110,115,116],FV.str [101,110,117,109],FV.str [101,120,112,111,114,116],FV.str [101,120,116,101,110,100,115],FV.str [105,109,112,111,114,116],FV.str [115,117,112,101,114],FV.str [110,117,108,108],FV.str [116,114,117,101],FV.str [102,97,108,115,101]]),
 ((⟨#[110,97,109,101,95,102,97,117,108,116]⟩:Str),FV.top 857),
 ((⟨#[83,84,82,73,67,84,95,87,79,82,68,83]⟩:Str),FV.tup [FV.str [105,109,112,108,101,109,101,110,116,115],FV.str [105,110,116,101,114,102,97,99,101],FV.str [108,101,116],FV.str [112,97,99,107,97,103,101],FV.str [112,114,105,118,97,116,101],FV.str [112,114,111,116,101,99,116,101,100],FV.str [112,117,98,108,105,99],FV.str [115,116,97,116,105,99],FV.str [121,105,101,108,100]]),
 ((⟨#[103,117,97,114,100,101,100]⟩:Str),FV.top 489),
 ((⟨#[102,105,114,115,116,95,112,108,97,99,101,95,112,114,105,110,116,101,114]⟩:Str),FV.top 482),
 ((⟨#[70,73,82,83,84,95,80,76,65,67,69,83]⟩:Str),FV.dct [(FV.str [65,115,115,105,103,110],FV.tup [FV.int (1),FV.int (15)]),(FV.str [67,111,110,100],FV.tup [FV.int (0),FV.int (3)]),(FV.str [77,101,109,98,101,114],FV.tup [FV.int (0),FV.int (15)]),(FV.str [73,110,100,101,120],FV.tup [FV.int (0),FV.int (15)]),(FV.str [67,97,108,108],FV.tup [FV.int (0),FV.int (15)])]),
 ((⟨#[105,115,95,116,111,111,95,104,105,103,104]⟩:Str),FV.top 47),
 ((⟨#[77,79,83,84,95,76,69,86,69,76,83]⟩:Str),FV.int (120)),
 ((⟨#[115,97,109,101,95,116,114,101,101]⟩:Str),FV.top 61),
 ((⟨#[105,115,95,111,99,116,97,108,95,100,105,103,105,116]⟩:Str),FV.top 138),
 ((⟨#[104,101,120,95,118,97,108,117,101]⟩:Str),FV.top 145),
 ((⟨#[83,73,71,78,95,66,73,84]⟩:Str),FV.int (9223372036854775808)),
 ((⟨#[70,82,65,67,84,73,79,78,95,66,73,84,83]⟩:Str),FV.int (52)),
 ((⟨#[70,82,65,67,84,73,79,78,95,77,65,83,75]⟩:Str),FV.int (4503599627370495)),
 ((⟨#[72,73,68,68,69,78,95,66,73,84,95,100,98,105,116,115]⟩:Str),FV.int (4503599627370496)),
 ((⟨#[69,88,80,79,78,69,78,84,95,77,65,83,75]⟩:Str),FV.int (2047)),
 ((⟨#[69,88,80,79,78,69,78,84,95,83,72,73,70,84]⟩:Str),FV.int (1075)),
 ((⟨#[76,69,65,83,84,95,80,79,87,69,82,95,100,98,105,116,115]⟩:Str),FV.int (-1074)),
 ((⟨#[90,69,82,79]⟩:Str),FV.int (0)),
 ((⟨#[73,78,70]⟩:Str),FV.int (9218868437227405312)),
 ((⟨#[119,105,100,116,104]⟩:Str),FV.top 173),
 ((⟨#[112,97,99,107]⟩:Str),FV.top 180),
 ((⟨#[105,115,95,110,101,103,97,116,105,118,101]⟩:Str),FV.top 187),
 ((⟨#[105,115,95,110,97,110]⟩:Str),FV.top 194),
 ((⟨#[105,115,95,105,110,102]⟩:Str),FV.top 201),
 ((⟨#[105,115,95,122,101,114,111]⟩:Str),FV.top 208),
 ((⟨#[112,97,114,116,115]⟩:Str),FV.top 222),
 ((⟨#[113,117,111,116,105,101,110,116]⟩:Str),FV.top 229),
 ((⟨#[114,111,117,110,100,95,114,97,116,105,111]⟩:Str),FV.top 236),
 ((⟨#[97,115,115,101,109,98,108,101,100]⟩:Str),FV.top 243),
 ((⟨#[76,69,65,83,84,95,80,79,87,69,82,95,110,117,109,115,104,111,119]⟩:Str),FV.int (-1074)),
 ((⟨#[72,73,68,68,69,78,95,66,73,84,95,110,117,109,115,104,111,119]⟩:Str),FV.int (4503599627370496)),
 ((⟨#[115,99,97,108,101,100]⟩:Str),FV.top 257),
 ((⟨#[100,101,99,105,109,97,108,95,112,108,97,99,101]⟩:Str),FV.top 264),
 ((⟨#[102,105,114,115,116,95,112,108,97,99,101,95,110,117,109,115,104,111,119]⟩:Str),FV.top 271),
 ((⟨#[115,104,111,114,116,101,115,116]⟩:Str),FV.top 278),
 ((⟨#[108,97,115,116,95,102,105,103,117,114,101]⟩:Str),FV.top 285),
 ((⟨#[108,97,105,100,95,111,117,116]⟩:Str),FV.top 306),
 ((⟨#[119,105,116,104,111,117,116,95,102,105,103,117,114,101,115]⟩:Str),FV.top 313),
 ((⟨#[115,104,111,119,95,110,117,109,115,104,111,119]⟩:Str),FV.top 320),
 ((⟨#[67,79,78,68]⟩:Str),FV.int (2)),
 ((⟨#[80,79,83,84,70,73,88]⟩:Str),FV.int (14)),
 ((⟨#[115,104,111,119,95,98,105,116,115]⟩:Str),FV.top 361),
 ((⟨#[115,104,111,119,95,97,114,114,97,121]⟩:Str),FV.top 392),
 ((⟨#[115,104,111,119,95,108,105,115,116]⟩:Str),FV.top 404),
 ((⟨#[115,104,111,119,95,97,99,99,101,115,115]⟩:Str),FV.top 411),
 ((⟨#[115,104,111,119,95,116,97,107,101,110]⟩:Str),FV.top 418),
 ((⟨#[115,104,111,119,95,109,97,100,101]⟩:Str),FV.top 425),
 ((⟨#[115,104,111,119,95,111,112,101,114,97,116,105,111,110]⟩:Str),FV.top 430),
 ((⟨#[115,104,111,119,95,117,110,97,114,121]⟩:Str),FV.top 437),
 ((⟨#[115,104,111,119,95,102,117,110,99,116,105,111,110]⟩:Str),FV.top 444),
 ((⟨#[115,104,111,119,95,98,111,100,121]⟩:Str),FV.top 449),
 ((⟨#[115,104,111,119,95,99,111,100,101]⟩:Str),FV.top 456),
 ((⟨#[115,104,111,119,95,115,116,97,116,101,109,101,110,116]⟩:Str),FV.top 496),
 ((⟨#[115,104,111,119,95,112,114,105,110,116,101,114]⟩:Str),FV.top 527),
 ((⟨#[83,73,78,71,76,69]⟩:Str),FV.dct [(FV.str [98],FV.int (8)),(FV.str [116],FV.int (9)),(FV.str [110],FV.int (10)),(FV.str [118],FV.int (11)),(FV.str [102],FV.int (12)),(FV.str [114],FV.int (13))]),
 ((⟨#[104,101,120,95,97,116]⟩:Str),FV.top 542),
 ((⟨#[114,101,97,100,95,101,115,99,97,112,101]⟩:Str),FV.top 563),
 ((⟨#[70,65,82,84,72,69,83,84]⟩:Str),FV.int (400)),
 ((⟨#[102,105,103,117,114,101,95,111,102]⟩:Str),FV.top 570),
 ((⟨#[119,111,114,116,104]⟩:Str),FV.top 577),
 ((⟨#[102,114,111,109,95,100,101,99,105,109,97,108]⟩:Str),FV.top 584),
 ((⟨#[83,121,110,116,97,120,70,97,105,108]⟩:Str),FV.top 697),
 ((⟨#[76,101,120,101,114]⟩:Str),FV.top 843),
 ((⟨#[82,69,83,84,82,73,67,84,69,68]⟩:Str),FV.tup [FV.str [97,114,103,117,109,101,110,116,115],FV.str [101,118,97,108]]),
 ((⟨#[84,65,82,71,69,84,83]⟩:Str),FV.tup [FV.str [78,97,109,101],FV.str [77,101,109,98,101,114],FV.str [73,110,100,101,120]]),
 ((⟨#[98,105,110,100,105,110,103,95,102,97,117,108,116]⟩:Str),FV.top 864),
 ((⟨#[102,105,114,115,116,95,116,119,105,99,101]⟩:Str),FV.top 871),
 ((⟨#[112,97,114,97,109,115,95,102,97,117,108,116]⟩:Str),FV.top 878),
 ((⟨#[116,97,114,103,101,116,95,102,97,117,108,116]⟩:Str),FV.top 885),
 ((⟨#[74,117,109,112,115]⟩:Str),FV.top 945),
 ((⟨#[83,116,109,116,80,97,114,115,101,114]⟩:Str),FV.top 1469),
 ((⟨#[112,97,114,115,101]⟩:Str),FV.top 1478),
 ((⟨#[95,108,97,119,95,108,101,97,100,115]⟩:Str),FV.tup [FV.tup [FV.str [40,123,125,41,32,43,32],FV.str [59],FV.int (2)],FV.tup [FV.str [40,123,125,41,46,97,32,61,32],FV.str [59],FV.int (3)],FV.tup [FV.str [40,102,117,110,99,116,105,111,110,32,40,41,32,123,125,41,46,99,97,108,108,40,116,104,105,115,44,32],FV.str [41,59],FV.int (3)],FV.tup [FV.str [40,123,125,41,91],FV.str [93,59],FV.int (3)],FV.tup [FV.str [40,123,125,41,44,32],FV.str [59],FV.int (2)],FV.tup [FV.str [40,102,117,110,99,116,105,111,110,32,40,41,32,123,125,41,32,63,32],FV.str [32,58,32,48,59],FV.int (3)],FV.tup [FV.str [40,123,125,41,46,97,40,49,41,40],FV.str [41,59],FV.int (3)],FV.tup [FV.str [40,102,117,110,99,116,105,111,110,32,102,40,41,32,123,125,41,40,41,32,124,124,32],FV.str [59],FV.int (2)],FV.tup [FV.str [40,123,125,41,46,97,43,43,44,32],FV.str [59],FV.int (2)]]),
 ((⟨#[95,108,97,119,95,99,111,114,101,115]⟩:Str),FV.tup [FV.tup [FV.str [48],FV.int (0)],FV.tup [FV.str [102,117,110,99,116,105,111,110,32,40,41,32,123,34,117,115,101,92,120,50,48,115,116,114,105,99,116,34,59,125],FV.int (3)],FV.tup [FV.str [102,117,110,99,116,105,111,110,32,40,41,32,123,40,34,117,115,101,32,115,116,114,105,99,116,34,41,59,32,34,117,115,101,32,115,116,114,105,99,116,34,59,125],FV.int (4)],FV.tup [FV.str [102,117,110,99,116,105,111,110,32,103,40,41,32,123,40,123,125,41,32,43,32,49,59,125],FV.int (4)],FV.tup [FV.str [110,101,119,32,40,102,40,41,46,97,41,40,49,41],FV.int (2)],FV.tup [FV.str [110,101,119,32,40,110,101,119,32,40,102,40,41,46,97,41,40,41,46,98,41,40,41],FV.int (4)],FV.tup [FV.str [102,117,110,99,116,105,111,110,32,40,41,32,123,40,102,117,110,99,116,105,111,110,32,40,41,32,123,125,41,46,97,59,125],FV.int (5)],FV.tup [FV.str [110,101,119,32,40,102,40,41,41,91,91,48,93,93,40,41],FV.int (3)]]),
 ((⟨#[95,108,97,119,95,97,104,101,97,100]⟩:Str),FV.tup [FV.str [34,117,115,101,92,120,50,48,115,116,114,105,99,116,34,59],FV.str [40,34,117,115,101,32,115,116,114,105,99,116,34,41,59],FV.str [34,117,115,101,32,115,116,114,105,99,116,34,59],FV.str [34,97,34,59],FV.str [97,59]]),
 ((⟨#[95,108,97,119,95,112,105,99,107]⟩:Str),FV.top 1505),
 ((⟨#[95,108,97,119,95,114,101,97,100]⟩:Str),FV.top 1512),
 ((⟨#[95,108,97,119,95,105,115,95,115,116,114,105,99,116]⟩:Str),FV.top 1519),
 ((⟨#[108,97,119]⟩:Str),FV.top 1524),
 ((⟨#[109,97,120]⟩:Str),FV.blt .max),
 ((⟨#[115,117,109]⟩:Str),FV.blt .sum),
 ((⟨#[115,116,114]⟩:Str),FV.typ .str),
 ((⟨#[105,110,116]⟩:Str),FV.typ .int)]
noncomputable def Pb:List (Nat × Nat × Option Nat):=[(535,100,none),(124,13,none),(117,12,none),(152,17,none),(131,14,none),(680,116,none),(984,138,some 3),(998,138,some 5),(970,138,some 1),(721,120,some 1),(1005,138,some 6),(159,18,none),(368,68,none),(387,73,none),(382,72,none),(991,138,some 4),(1040,138,some 11),(1047,138,some 12),(899,131,none),(1026,138,some 9),(42,2,none),(54,4,none),(347,65,none),(342,64,none),(673,115,none),(857,125,none),(489,90,none),(47,3,none),(742,120,some 4),(840,120,some 18),(756,120,some 6),(1186,145,some 11),(1158,145,some 7),(1144,145,some 5),(1151,145,some 6),(1172,145,some 9),(1179,145,some 10),(1207,145,some 14),(1123,145,some 2),(1137,145,some 4),(1116,145,some 1),(1252,147,some 1),(1266,147,some 3),(1273,147,some 4),(1280,147,some 5),(1082,138,some 17),(1259,147,some 2),(1019,138,some 8),(977,138,some 2),(763,120,some 7),(826,120,some 16),(777,120,some 9),(28,1,some 0),(61,5,none),(138,15,none),(145,16,none),(173,30,none),(180,31,none),(187,32,none),(194,33,none),(201,34,none),(208,35,none),(222,37,none),(229,38,none),(236,39,none),(243,40,none),(257,45,none),(264,46,none),(271,47,none),(278,49,none),(285,50,none),(306,53,none),(313,54,none),(320,55,none),(361,67,none),(392,74,none),(404,76,none),(411,77,none),(418,78,none),(425,79,none),(430,80,none),(437,81,none),(444,82,none),(449,83,none),(456,84,none),(482,88,none),(496,91,none),(527,96,none),(542,101,none),(563,104,none),(570,107,none),(577,108,none),(584,109,none),(659,114,some 0),(694,118,some 0),(714,120,some 0),(770,120,some 8),(798,120,some 12),(805,120,some 13),(833,120,some 17),(864,126,none),(871,127,none),(878,128,none),(885,129,none),(927,134,some 0),(963,138,some 0),(1054,138,some 13),(1061,138,some 14),(1068,138,some 15),(1130,145,some 3),(1165,145,some 8),(1193,145,some 12),(1200,145,some 13),(1214,145,some 15),(1221,145,some 16),(1245,147,some 0),(1348,149,some 0),(1369,149,some 3),(1376,149,some 4),(1383,149,some 5),(1478,154,none),(1505,159,none),(1512,160,none),(1519,161,none),(1524,162,none)]
noncomputable def JY:List (Nat × List (Str × Nat)):=[(1469,[((⟨#[105,115,95,115,105,103,110]⟩:Str),984),((⟨#[101,97,116]⟩:Str),998),((⟨#[116,97,107,101]⟩:Str),970),((⟨#[110,101,101,100]⟩:Str),1005),((⟨#[105,115,95,119,111,114,100]⟩:Str),991),((⟨#[103,111,95,105,110]⟩:Str),1040),((⟨#[103,111,95,111,117,116]⟩:Str),1047),((⟨#[102,97,105,108,95,102,111,114]⟩:Str),1026),((⟨#[119,105,116,104,95,109,101,109,98,101,114,115]⟩:Str),1186),((⟨#[117,110,97,114,121]⟩:Str),1158),((⟨#[112,114,105,111,114,105,116,121]⟩:Str),1144),((⟨#[98,105,110,97,114,121]⟩:Str),1151),((⟨#[112,111,115,116,102,105,120]⟩:Str),1172),((⟨#[108,101,102,116,95,104,97,110,100]⟩:Str),1179),((⟨#[112,114,105,109,97,114,121]⟩:Str),1207),((⟨#[97,115,115,105,103,110,109,101,110,116]⟩:Str),1123),((⟨#[99,111,110,100,105,116,105,111,110,97,108]⟩:Str),1137),((⟨#[101,120,112,114,101,115,115,105,111,110]⟩:Str),1116),((⟨#[97,116,95,101,110,100]⟩:Str),1252),((⟨#[115,116,97,116,101,109,101,110,116]⟩:Str),1266),((⟨#[98,97,114,101,95,115,116,97,116,101,109,101,110,116]⟩:Str),1273),((⟨#[112,108,97,105,110,95,101,120,112,114,101,115,115,105,111,110]⟩:Str),1280),((⟨#[101,110,100,95,115,116,97,116,101,109,101,110,116]⟩:Str),1082),((⟨#[101,108,101,109,101,110,116]⟩:Str),1259),((⟨#[102,97,105,108]⟩:Str),1019),((⟨#[112,101,101,107]⟩:Str),977),((⟨#[111,98,106,101,99,116]⟩:Str),1348),((⟨#[102,117,110,99,116,105,111,110]⟩:Str),1369),((⟨#[102,117,110,99,116,105,111,110,95,110,97,109,101]⟩:Str),1376),((⟨#[112,97,114,97,109,101,116,101,114,115]⟩:Str),1383),((⟨#[98,111,100,121]⟩:Str),1245),((⟨#[110,101,101,100,95,116,97,114,103,101,116]⟩:Str),1130),((⟨#[111,112,101,114,97,110,100,95,98,101,104,105,110,100]⟩:Str),1165),((⟨#[99,114,101,97,116,105,111,110]⟩:Str),1193),((⟨#[97,114,103,117,109,101,110,116,115]⟩:Str),1200),((⟨#[119,111,114,100,95,111,112,101,114,97,110,100]⟩:Str),1214),((⟨#[97,114,114,97,121]⟩:Str),1221),((⟨#[110,101,101,100,95,110,97,109,101]⟩:Str),1054),((⟨#[110,101,101,100,95,98,105,110,100,105,110,103]⟩:Str),1061),((⟨#[112,114,111,112,101,114,116,121,95,110,97,109,101]⟩:Str),1068)]),
 (843,[((⟨#[110,101,120,116]⟩:Str),721),((⟨#[115,107,105,112,95,98,108,97,110,107,115]⟩:Str),742),((⟨#[114,101,97,100,95,112,117,110,99,116]⟩:Str),840),((⟨#[110,97,109,101,95,115,105,103,110]⟩:Str),756),((⟨#[114,101,97,100,95,110,97,109,101]⟩:Str),763),((⟨#[114,101,97,100,95,116,101,120,116]⟩:Str),826),((⟨#[114,101,97,100,95,110,117,109,98,101,114]⟩:Str),777),((⟨#[115,107,105,112,95,100,105,103,105,116,115]⟩:Str),770),((⟨#[114,101,97,100,95,100,101,99,105,109,97,108]⟩:Str),798),((⟨#[114,101,97,100,95,101,120,112,111,110,101,110,116]⟩:Str),805),((⟨#[101,115,99,97,112,101,100]⟩:Str),833)])]
noncomputable def I9:List (Nat × List Str):=[(662,[(⟨#[107,105,110,100]⟩:Str),(⟨#[118,97,108,117,101]⟩:Str),(⟨#[108,105,110,101]⟩:Str),(⟨#[105,115,95,112,108,97,105,110]⟩:Str),(⟨#[101,110,100]⟩:Str),(⟨#[105,115,95,98,101,104,105,110,100,95,108,105,110,101]⟩:Str),(⟨#[105,115,95,111,99,116,97,108]⟩:Str),(⟨#[115,116,97,114,116]⟩:Str)]),(1469,[(⟨#[116,111,107,101,110]⟩:Str),(⟨#[108,101,120,101,114]⟩:Str),(⟨#[108,97,116,101,114]⟩:Str),(⟨#[105,115,95,115,116,114,105,99,116]⟩:Str),(⟨#[110,101,115,116,101,100]⟩:Str),(⟨#[100,101,112,116,104]⟩:Str),(⟨#[106,117,109,112,115]⟩:Str),(⟨#[112,101,110,100,105,110,103]⟩:Str)]),(843,[(⟨#[116,101,120,116]⟩:Str),(⟨#[97,116]⟩:Str),(⟨#[108,105,110,101]⟩:Str)]),(31,[(⟨#[107,105,110,100]⟩:Str),(⟨#[112,97,114,116,115]⟩:Str),(⟨#[108,105,110,101]⟩:Str),(⟨#[115,99,111,112,101]⟩:Str)]),(945,[(⟨#[108,97,98,101,108,115]⟩:Str),(⟨#[108,111,111,112,115]⟩:Str),(⟨#[115,119,105,116,99,104,101,115]⟩:Str)])]
noncomputable def N6:List (Nat × Bool × Nat):=[(31,true,28),(945,true,927),(662,false,659),(843,false,714),(1469,false,963)]
noncomputable def LD:List Nat:=[28,927,659,714,963]
noncomputable def TT:bQ:=⟨Mx,Pb,JY,I9,N6,LD,[10,33,181,240,350,435,614,717,925,1021,1070,1087,1219,1274],[10,378],[1428],[31],697⟩
end Mine
end
section
namespace Mine
structure FP where
 T:bQ
 m:Nat
 pz:List Nat
 cz:List Nat
 mz:List Nat
 nx:Nat
 sp:Nat
 lx:Nat
 nn:Nat
 pu:List Nat
 pn:Nat
abbrev LF:=List (Str × PV)
inductive An where
 | inl | val (o:O (PV × List MO))
abbrev PU:=Nat × List PV × PV
inductive PA where
 | auto | b (v:Bool) | v (v:PV) | s (v:PV × St) | w (v:PV)
inductive Lg where
 | call (n f:Nat) (ws:List PV) (g:List MO) (o:O (PV × List MO))
 | pb (x:Option Bool) (v:Bool)
 | pv (x:St→Option PV) (v:PV)
 | ps (x:Option (PV × St)) (v:PV × St)
 | pw (x:St→Option PV) (st:St) (v:PV)
 | ct (a b:List Nat)
 | jn (s:List Nat) (vs:List FV) (t:List Nat)
structure FC where
 q:List (FV × LF)
 cuts:List (Nat × List An)
 ps:List PA
 pu:List PU
 nl:List (LF × FV × LF)
 ul:List PU
 cl:List Lg
noncomputable def Jy (p:Str × PV):Bool:=oe (cQ p.2) (fun _=>true) false
noncomputable def CR (p:Str × PV):Bool:=oe (tN p.2) (fun k=>Nat.beq k 1) false
noncomputable def mB (n:Nat):LF→Bool:=@Nat.rec (fun _=>LF→Bool) bV (fun _ k l=>@List.rec (Str × PV) (fun _=>Bool) false (fun p r _=>Jy p&&k r) l) n
noncomputable def z0 (l:LF):Bool:=@List.rec (Str × PV) (fun _=>Bool) false (fun p r _=>CR p&&mB 7 r) l
noncomputable def FE (l:LF):Bool:=@List.rec (Str × PV) (fun _=>Bool) false (fun p r _=>CR p&&mB 0 r) l
noncomputable def F9 (l:LF):Bool:=mB 3 l
noncomputable def J9 (l:LF):Bool:=mB 8 l
noncomputable def mF (m:MO) (p:LF→Bool):Bool:=oe (pA m) (fun q=>p q.2) false
noncomputable def F6 (g:List MO):Bool:=oe (mX g) (fun p=>mF p.1 (fun a=>z0 a||FE a)&&mF p.2 F9) (oe (A4 g) (fun p=>mF p.1 (fun a=>z0 a||FE a)&&(mF p.2.1 F9&&mF p.2.2 J9)) false)
noncomputable def FP.NX (P:FP) (e:LF × FV × LF):Prop:=∀ fs,z0 fs=true→∀ k,run P.T P.m (k + P.nn) P.nx [.ref 1] [.inst P.sp fs,.inst P.lx e.1]=.ok (.f e.2.1,[.inst P.sp fs,.inst P.lx e.2.2])
noncomputable def FP.Holds (P:FP) (k:Nat) (l:Lg):Prop:=match l with
 | .call n f ws g o=>run P.T P.m (k + n) f ws g=o
 | .pb x v=>x=some v
 | .pv x v=>∀ st,x st=some v
 | .ps x v=>x=some v
 | .pw x st v=>x st=some v
 | .ct a b=>fits (a.length + b.length)=true
 | .jn s vs t=>oQ s vs=some (.f (.str t))
noncomputable def FP.PR (P:FP) (e:PU):Prop:=∀ g,F6 g=true→∀ k,run P.T P.m (k + P.pn) e.1 e.2.1 g=.ok (e.2.2,g)
structure FP.All (P:FP) (k:Nat) (c:FC):Prop where
 n:∀ e ∈ c.nl,P.NX e
 u:∀ e ∈ c.ul,P.PR e
 l:∀ l ∈ c.cl,P.Holds k l
structure qX (c c':FC):Prop where
 n:∀ e ∈ c.nl,e ∈ c'.nl
 u:∀ e ∈ c.ul,e ∈ c'.ul
 l:∀ l ∈ c.cl,l ∈ c'.cl
theorem qX.refl (c:FC):qX c c:=⟨fun _ h=>h,fun _ h=>h,fun _ h=>h⟩
theorem qX.trans {a b c:FC} (h:qX a b) (h':qX b c):qX a c:=⟨fun _ x=>h'.n _ (h.n _ x),fun _ x=>h'.u _ (h.u _ x),fun _ x=>h'.l _ (h.l _ x)⟩
theorem FP.All.back {P:FP}{k:Nat}{c c':FC} (h:qX c c') (H:P.All k c'):P.All k c:=⟨fun _ x=>H.n _ (h.n _ x),fun _ x=>H.u _ (h.u _ x),fun _ x=>H.l _ (h.l _ x)⟩
abbrev Hd:=Nat→List PV→List MO→FC→Option (O (PV × List MO) × FC)
noncomputable def FP.pause (P:FP) (m:Nat):Bool:=dY m P.pz||dY m P.mz
noncomputable def FP.logs (P:FP) (m:Nat):Bool:=!dY m P.pz&&(dY m P.cz||dY m P.mz)
noncomputable def mI {β:Type} (x:Option β) (c:FC):Option (O β × FC):=x.bind fun v=>some (.ok v,c)
noncomputable def FC.log (c:FC) (r:List PA) (l:Lg):FC:={ c with ps:=r,cl:=l::c.cl }
noncomputable def HD {γ:Type} (ps:List PA) (nil:γ) (auto:List PA→γ) (b:Bool→List PA→γ) (v:PV→List PA→γ) (s:PV × St→List PA→γ) (w:PV→List PA→γ):γ:=@List.rec PA (fun _=>γ) nil (fun p r _=>@PA.rec (fun _=>γ) (auto r) (fun x=>b x r) (fun x=>v x r) (fun x=>s x r) (fun x=>w x r) p) ps
noncomputable def Jd (z:Bool) (x:Option Bool) (c:FC):Option (O Bool × FC):=bif z then HD c.ps (mI x c) (fun r=>mI x { c with ps:=r }) (fun v r=>some (.ok v,c.log r (.pb x v))) (fun _ _=>none) (fun _ _=>none) (fun _ _=>none) else mI x c
noncomputable def Bh (z:Bool) (x:St→Option PV) (st:St) (c:FC):Option (O PV × FC):=bif z then HD c.ps (mI (x st) c) (fun r=>mI (x st) { c with ps:=r }) (fun _ _=>none) (fun v r=>some (.ok v,c.log r (.pv x v))) (fun _ _=>none) (fun v r=>some (.ok v,c.log r (.pw x st v))) else mI (x st) c
noncomputable def Lm (z:Bool) (x:Option (PV × St)) (c:FC):Option (O (PV × St) × FC):=bif z then HD c.ps (mI x c) (fun r=>mI x { c with ps:=r }) (fun _ _=>none) (fun _ _=>none) (fun v r=>some (.ok v,c.log r (.ps x v))) (fun _ _=>none) else mI x c
noncomputable def oP:St:=⟨[],[],[],[]⟩
noncomputable def Gb (P:FP) (h:Hd) (m:Nat) (q:Qn):FC→Option (O q.A × FC):=@Qn.rec (fun q=>FC→Option (O q.A × FC)) (fun f ws g c=>h f ws g c) (fun x c=>Jd (P.pause m) x c) (fun x st c=>Bh (P.pause m) x st c) (fun x c=>Lm (P.pause m) x c)
 (fun a b c=>bif P.logs m then some (.ok (.f (.str (a++b))),{ c with cl:=.ct a b::c.cl }) else Bh (P.pause m) (fun _=>rX a b) oP c)
 (fun s vs c=>bif P.logs m then (oH s vs).bind fun t=>some (.ok (.f (.str t)),{ c with cl:=.jn s vs t::c.cl }) else Bh (P.pause m) (fun _=>oQ s vs) oP c) q
noncomputable def HZ {α:Type} (P:FP) (h:Hd) (x:Pg α):FC→Option (O α × FC):=@Pg.rec α (fun _=>FC→Option (O α × FC)) (fun _=>none) (fun c=>some (.raise,c)) (fun a c=>some (.ok a,c)) (fun b m q _ ih c=>(Gb P h m q c).bind fun r=>@O.rec q.A (fun _=>Option (O α × FC)) none (bif b then none else some (.raise,r.2)) (fun v=>ih v r.2) r.1) x
noncomputable def d3 {β:Type} (P:FP) (k:Nat) (c:FC) (x:O β) (r:Option (O β × FC)):Prop:=∀ o c',r=some (o,c')→qX c c'∧(P.All k c'→x=o)
section
variable {P:FP}{k:Nat}{c:FC}
theorem d3.none {β:Type}{x:O β}:d3 P k c x none:=fun _ _=>nk3
theorem d3.ev {β:Type}{x:Option β}{c₁:FC} (e:qX c c₁):d3 P k c (eF x) (mI x c₁):=fun o c' h=>ob h fun v hv h=>dK (Option.some.inj h) fun h1 h2=>⟨h2 ▸ e,fun _=>by rw[hv];exact h1⟩
theorem d3.log {β:Type}{x:O β}{v:β}{r:List PA}{l:Lg} (h:P.Holds k l→x=.ok v):d3 P k c x (some (.ok v,c.log r l)):=fun o c' e=>dK (Option.some.inj e) fun h1 h2=>⟨h2 ▸ ⟨fun _ h=>h,fun _ h=>h,fun _ h=>.tail _ h⟩,fun a=>h1 ▸ h (a.l _ (h2 ▸ .head _))⟩
theorem Bo {γ:Type}{M:γ→Prop}{ps:List PA}{nil:γ}{auto:List PA→γ}{b:Bool→List PA→γ}{v:PV→List PA→γ}{s:PV × St→List PA→γ}{w:PV→List PA→γ} (h1:M nil) (h2:∀ r,M (auto r)) (h3:∀ x r,M (b x r)) (h4:∀ x r,M (v x r)) (h5:∀ x r,M (s x r)) (h6:∀ x r,M (w x r)):M (HD ps nil auto b v s w):=by
 cases ps with
 | nil=>exact h1
 | cons p r=>cases p with
  | auto=>exact h2 r
  | b x=>exact h3 x r
  | v x=>exact h4 x r
  | s x=>exact h5 x r
  | w x=>exact h6 x r
theorem yK (r:List PA):qX c { c with ps:=r }:=⟨fun _ h=>h,fun _ h=>h,fun _ h=>h⟩
theorem Iy {z:Bool}{x:Option Bool}:d3 P k c (eF x) (Jd z x c):=by
 cases z with
 | false=>exact .ev (.refl c)
 | true=>exact Bo (M:=d3 P k c (eF x)) (.ev (.refl c)) (fun r=>.ev (yK r)) (fun v r=>.log fun h=>congrArg eF h) (fun _ _=>.none) (fun _ _=>.none) fun _ _=>.none
theorem Iz {z:Bool}{x:Option (PV × St)}:d3 P k c (eF x) (Lm z x c):=by
 cases z with
 | false=>exact .ev (.refl c)
 | true=>exact Bo (M:=d3 P k c (eF x)) (.ev (.refl c)) (fun r=>.ev (yK r)) (fun _ _=>.none) (fun _ _=>.none) (fun v r=>.log fun h=>congrArg eF h) fun _ _=>.none
theorem tY {z:Bool}{x:St→Option PV}{st:St}:d3 P k c (eF (x st)) (Bh z x st c):=by
 cases z with
 | false=>exact .ev (.refl c)
 | true=>exact Bo (M:=d3 P k c (eF (x st))) (.ev (.refl c)) (fun r=>.ev (yK r)) (fun _ _=>.none) (fun v r=>.log fun h=>congrArg eF (h st)) (fun _ _=>.none) fun v r=>.log fun h=>congrArg eF h
noncomputable def C8 (P:FP) (k:Nat) (C:bW) (h:Hd):Prop:=∀ f ws g c,d3 P k c (C f ws g) (h f ws g c)
theorem IK {a b:List Nat} (h:fits (a.length + b.length)=true):eF (rX a b)=.ok (.f (.str (a++b))):=by
 show eF ((gd (fits (a.length + b.length)) _).bind _)=_
 rw[h];rfl
theorem K6 {C:bW}{h:Hd} (hh:C8 P k C h) (m:Nat) (q:Qn):d3 P k c (q.run C) (Gb P h m q c):=by
 cases q with
 | call f ws g=>exact hh f ws g c
 | pb x=>exact Iy
 | pv x st=>exact tY
 | ps x=>exact Iz
 | cat a b=>exact Aw (P:=d3 P k c (eF (rX a b))) (fun _=>d3.log (r:=c.ps) (l:=.ct a b) IK) fun _=>tY (x:=fun _=>rX a b)
 | jo s vs=>exact Aw (P:=d3 P k c (eF (oQ s vs))) (fun _=>fun o c' e=>ob e fun t _ e=>d3.log (r:=c.ps) (l:=.jn s vs t) (fun h=>congrArg eF h) o c' e) fun _=>tY (x:=fun _=>oQ s vs)
theorem Cj {α:Type}{C:bW}{h:Hd} (hh:C8 P k C h) (x:Pg α):∀ c,d3 P k c (aN C x) (HZ P h x c):=by
 induction x with
 | stuck=>exact fun c=>.none
 | raise=>exact fun c o c' e=>dK (Option.some.inj e) fun h1 h2=>⟨h2 ▸ .refl c,fun _=>h1⟩
 | ok a=>exact fun c o c' e=>dK (Option.some.inj e) fun h1 h2=>⟨h2 ▸ .refl c,fun _=>h1⟩
 | ask b m q kk ih =>
  intro c o c' e
  refine ob (x:=Gb P h m q c) e fun r h1 e=>?_
  obtain⟨o1,c1⟩:=r
  obtain⟨x1,h1⟩:=K6 hh m q o1 c1 h1
  show _∧(_→(lD b (q.run C)).bind (fun r=>aN C (kk r))=o)
  cases o1 with
  | stuck=>exact nk3 e
  | raise =>
   cases b with
   | true=>exact nk3 e
   | false=>exact dK (a:=O.raise) (b:=c1) (Option.some.inj e) fun e1 e2=>⟨e2 ▸ x1,fun ha=>by rw[h1 (e2 ▸ ha)];exact e1⟩
  | ok v =>
   obtain⟨x2,h2⟩:=ih v c1 o c' e
   refine⟨x1.trans x2,fun ha=>?_⟩
   rw[h1 (ha.back x2)]
   cases b<;>exact h2 ha
theorem Jq {α:Type}{h:Hd} (x:Pg α):∀ {c c':FC},HZ P h x c=some (.stuck,c')→False:=by
 induction x with
 | stuck=>exact fun e=>nk3 e
 | raise=>exact fun e=>dK (Option.some.inj e) fun e _=>by cases e
 | ok a=>exact fun e=>dK (Option.some.inj e) fun e _=>nk1 e.symm
 | ask b m q kk ih =>
  intro c c' e
  refine ob (x:=Gb P h m q c) e fun r _ e=>?_
  obtain⟨o1,c1⟩:=r
  cases o1 with
  | stuck=>exact nk3 e
  | raise=>cases b with
   | true=>exact nk3 e
   | false=>exact dK (a:=O.raise) (b:=c1) (Option.some.inj e) fun e _=>by cases e
  | ok v=>exact ih v e
end
noncomputable def hd? {α:Type} (l:List α):Option (α × List α):=@List.rec α (fun _=>Option (α × List α)) none (fun x r _=>some (x,r)) l
noncomputable def G3 (P:FP) (n:Nat) (ws:List PV) (g:List MO) (c:FC):Option (O (PV × List MO) × FC):=(one ws).bind fun w=>(tN w).bind fun k=>gd (Nat.beq k 1) ((mX g).bind fun p=>(pA p.1).bind fun a=>(pA p.2).bind fun b=>(hd? c.q).bind fun t=>gd (Nat.beq a.1 P.sp) (gd (Nat.beq b.1 P.lx) (gd (z0 a.2) (gd (Nat.ble P.nn n)
 (some (.ok (.f t.1.1,[.inst a.1 a.2,.inst b.1 t.1.2]),{ c with q:=t.2,nl:=(b.2,t.1.1,t.1.2)::c.nl }))))))
noncomputable def PK (f:Nat) (l:List (Nat × List An)):Option (An × List (Nat × List An)):=@List.rec (Nat × List An) (fun _=>Option (An × List (Nat × List An))) none (fun p r ih=>bif Nat.beq f p.1 then (hd? p.2).bind fun x=>some (x.1,(p.1,x.2)::r) else ih.bind fun x=>some (x.1,p::x.2)) l
noncomputable def Ms (P:FP) (n f:Nat) (ws:List PV) (g:List MO) (c:FC):Option (O (PV × List MO) × FC):=(hd? c.pu).bind fun p=>gd (F6 g) (gd (Nat.ble P.pn n) (some (.ok (p.1.2.2,g),{ c with pu:=p.2,ul:=(f,ws,p.1.2.2)::c.ul })))
noncomputable def Pw (g:List MO):Bool:=oe (mX g) (fun p=>mF p.1 z0&&mF p.2 fun _=>true) false
noncomputable def Oq (rec:Hd) (n f:Nat) (ws:List PV) (g:List MO) (c:FC) (a:An) (r:List (Nat × List An)):Option (O (PV × List MO) × FC):=@An.rec (fun _=>Option (O (PV × List MO) × FC)) (rec f ws g { c with cuts:=r }) (fun o=>some (o,{ c with cuts:=r,cl:=.call n f ws g o::c.cl })) a
noncomputable def J2 (P:FP) (rec:Hd) (n:Nat):Hd:=fun f ws g c=>bif Nat.beq f P.nx&&Pw g then G3 P n ws g c else bif dY f P.pu then Ms P n f ws g c else oe (PK f c.cuts) (fun x=>Oq rec n f ws g c x.1 x.2) (rec f ws g c)
noncomputable def B8 (P:FP) (n:Nat):Hd:=@Nat.rec (fun _=>Hd) (fun _ _ _ _=>none) (fun n rec f ws g c=>HZ P (J2 P rec n) (GI P.T P.m f ws g) c) n
theorem Fv {T:bQ}{C:bW}{m f:Nat}{ws:List PV}{g:List MO}{o:O (PV × List MO)} (h:aN C (GI T m f ws g)=o) (n:o ≠ .stuck):cG T C m f ws g=o:=by
 show(eF (i0 T f ws g)).bind _=o
 replace h:aN C (opt (i0 T f ws g) fun q=>oe (cX q.1.body) (fun _=>.stuck) (iR T m f g q))=o:=h
 cases h0:i0 T f ws g with
 | none=>rw[h0]at h;exact absurd h.symm n
 | some q =>
  rw[h0]at h
  replace h:aN C (oe (cX q.1.body) (fun _=>.stuck) (iR T m f g q))=o:=h
  show oe (cX q.1.body) _ _=o
  cases h1:cX q.1.body with
  | some p=>rw[h1]at h;exact absurd h.symm n
  | none=>rw[h1]at h;exact h
theorem HW {a n:Nat} (k:Nat) (h:Nat.ble a n=true):k + (n - a) + a=k + n:=by rw[Nat.add_assoc,Nat.sub_add_cancel (Nat.le_of_ble_eq_true h)]
section
variable {P:FP}{k n:Nat}
theorem EF {ws:List PV}{g:List MO}{c:FC}:d3 P k c (run P.T P.m (k + n) P.nx ws g) (G3 P n ws g c):=fun o c' e =>
 ob e fun w hw e=>ob e fun j hj e=>aD e fun h1 e=>ob e fun p hp e=>ob e fun a ha e=>ob e fun b hb e=>ob e fun t ht e=>aD e fun h2 e=>aD e fun h3 e=>aD e fun h4 e=>aD e fun h5 e=>dK (Option.some.inj e) fun e1 e2=>⟨e2 ▸ ⟨fun _ x=>.tail _ x,fun _ x=>x,fun _ x=>x⟩,fun hA=>by
  have q:=(hA.n (b.2,t.1.1,t.1.2) (e2 ▸ .head _)) a.2 h4 (k + (n - P.nn))
  rw[HW k h5]at q
  rw[eA hw,pE hj,Nat.eq_of_beq_eq_true h1,kD hp,n7 ha,n7 hb,Nat.eq_of_beq_eq_true h2,Nat.eq_of_beq_eq_true h3,← e1,Nat.eq_of_beq_eq_true h2,Nat.eq_of_beq_eq_true h3]
  exact q⟩
theorem CY {rec:Hd} (hr:C8 P k (run P.T P.m (k + n)) rec):C8 P k (run P.T P.m (k + n)) (J2 P rec n):=by
 intro f ws g c
 refine Aw (P:=d3 P k c _) (fun h=>?_) fun _=>Aw (P:=d3 P k c _) (fun _=>?_) fun _=>qM (P:=d3 P k c _) (fun x _=>?_) fun _=>hr f ws g c
 ·rw[Nat.eq_of_beq_eq_true (Bool.and_eq_true_iff.1 h).1];exact EF
 ·exact fun o c' e=>ob e fun p hp e=>aD e fun h1 e=>aD e fun h2 e=>dK (Option.some.inj e) fun e1 e2=>⟨e2 ▸ ⟨fun _ x=>x,fun _ x=>.tail _ x,fun _ x=>x⟩,fun hA=>by
   have q:=(hA.u (f,ws,p.1.2.2) (e2 ▸ .head _)) g h1 (k + (n - P.pn))
   rw[HW k h2]at q
   rw[← e1];exact q⟩
 ·obtain⟨a,r⟩:=x
  cases a with
  | inl=>exact fun o c' e=>have q:=hr f ws g _ o c' e;⟨⟨q.1.n,q.1.u,q.1.l⟩,q.2⟩
  | val o₁=>exact fun o c' e=>dK (Option.some.inj e) fun e1 e2=>⟨e2 ▸ ⟨fun _ x=>x,fun _ x=>x,fun _ x=>.tail _ x⟩,fun hA=>e1 ▸ (hA.l (.call n f ws g o₁) (e2 ▸ .head _):P.Holds k (.call n f ws g o₁))⟩
theorem xB (P:FP) (k n:Nat):C8 P k (run P.T P.m (k + n)) (B8 P n):=by
 induction n with
 | zero=>exact fun _ _ _ _ _ _=>nk3
 | succ n ih=>exact fun f ws g c o c' e=>have q:=Cj (CY ih) _ c o c' e;⟨q.1,fun hA=>Fv (q.2 hA) fun z=>Jq _ (z ▸ e)⟩
end
noncomputable def FC.fin (c:FC):List (LF × FV × LF) × List PU × List Lg:=(c.nl.reverse,c.ul.reverse,c.cl.reverse)
noncomputable def dE (P:FP) (n f:Nat) (ws:List PV) (g:List MO) (q:List (FV × LF)) (pu:List PU) (cuts:List (Nat × List An)) (ps:List PA):Option (O (PV × List MO) × List (LF × FV × LF) × List PU × List Lg):=(B8 P n f ws g ⟨q,cuts,ps,pu,[],[],[]⟩).bind fun r=>some (r.1,r.2.fin)
noncomputable def Nu {α:Type} (P:FP) (n:Nat) (x:Pg α) (pu:List PU) (cuts:List (Nat × List An)) (ps:List PA):Option (O α × List PU × List Lg):=(HZ P (J2 P (B8 P n) n) x ⟨[],cuts,ps,pu,[],[],[]⟩).bind fun r=>gd (bV r.2.nl) (some (r.1,r.2.fin.2))
theorem AL {P:FP}{k:Nat}{c:FC}{r:List (LF × FV × LF) × List PU × List Lg} (h:c.fin=r) (h1:∀ e ∈ r.1,P.NX e) (h2:∀ e ∈ r.2.1,P.PR e) (h3:∀ l ∈ r.2.2,P.Holds k l):P.All k c :=
 ⟨fun e he=>h1 e (h ▸ List.mem_reverse.2 he),fun e he=>h2 e (h ▸ List.mem_reverse.2 he),fun l hl=>h3 l (h ▸ List.mem_reverse.2 hl)⟩
theorem dW {α:Type}{P:FP}{n:Nat}{x:Pg α}{pu:List PU}{cuts:List (Nat × List An)}{ps:List PA}{o:O α}{ul:List PU}{cl:List Lg}
  (h:Nu P n x pu cuts ps=some (o,ul,cl)) (k:Nat) (h2:∀ e ∈ ul,P.PR e) (h3:∀ l ∈ cl,P.Holds k l):aN (run P.T P.m (k + n)) x=o :=
 ob h fun r hr h=>aD h fun hn h=>dK (Option.some.inj h) fun e1 e2=>e1 ▸ (Cj (CY (xB P k n)) x _ r.1 r.2 hr).2 (AL (r:=([],ul,cl)) (by show(r.2.nl.reverse,r.2.fin.2)=_;rw[bN hn,e2];rfl) iG h2 h3)
theorem aI {P:FP}{n f:Nat}{ws:List PV}{g:List MO}{q:List (FV × LF)}{pu:List PU}{cuts:List (Nat × List An)}{ps:List PA}{o:O (PV × List MO)}{nl:List (LF × FV × LF)}{ul:List PU}{cl:List Lg}
  (h:dE P n f ws g q pu cuts ps=some (o,nl,ul,cl)) (k:Nat) (h1:∀ e ∈ nl,P.NX e) (h2:∀ e ∈ ul,P.PR e) (h3:∀ l ∈ cl,P.Holds k l):run P.T P.m (k + n) f ws g=o :=
 ob h fun r hr h=>dK (Option.some.inj h) fun e1 e2=>e1 ▸ (xB P k n f ws g _ r.1 r.2 hr).2 (AL e2 h1 h2 h3)
end Mine
end
section
namespace Mine
structure K8 where
 (k1 k2 k3 k4 k5 k6 k7 k8:Str)
 (x1 x2 x3 x4 x5 x6 x7 x8:FV)
noncomputable def K8.p (s:K8):LF:=[(s.k1,.ref 1),(s.k2,.f s.x2),(s.k3,.f s.x3),(s.k4,.f s.x4),(s.k5,.f s.x5),(s.k6,.f s.x6),(s.k7,.f s.x7),(s.k8,.f s.x8)]
noncomputable def K8.t (s:K8):LF:=[(s.k1,.f s.x1),(s.k2,.f s.x2),(s.k3,.f s.x3),(s.k4,.f s.x4),(s.k5,.f s.x5),(s.k6,.f s.x6),(s.k7,.f s.x7),(s.k8,.f s.x8)]
structure K3 where
 (k1 k2 k3:Str)
 (x1 x2 x3:FV)
noncomputable def K3.l (s:K3):LF:=[(s.k1,.f s.x1),(s.k2,.f s.x2),(s.k3,.f s.x3)]
structure KD where
 (a b c:Nat)
 s:K8
 k:Str
 l:K3
 t:K8
noncomputable def KD.g1 (d:KD):List MO:=[.inst d.a d.s.p,.inst d.b d.l.l]
noncomputable def KD.g2 (d:KD):List MO:=[.inst d.a [(d.k,.ref 1)],.inst d.b d.l.l]
noncomputable def KD.g3 (d:KD):List MO:=[.inst d.a d.s.p,.inst d.b d.l.l,.inst d.c d.t.t]
noncomputable def KD.g4 (d:KD):List MO:=[.inst d.a [(d.k,.ref 1)],.inst d.b d.l.l,.inst d.c d.t.t]
theorem IC {p:Str × PV} (h:Jy p=true):∃ k x,p=(k,.f x):=by
 obtain⟨x,hx,_⟩:=mH (p:=fun _=>true) h
 exact⟨p.1,x,by rw[← nG hx]⟩
theorem AG {p:Str × PV} (h:CR p=true):∃ k,p=(k,.ref 1):=by
 obtain⟨j,hj,h⟩:=mH h
 exact⟨p.1,by rw[← Nat.eq_of_beq_eq_true h,← pE hj]⟩
theorem fV {n:Nat}{l:LF} (h:mB (n + 1) l=true):∃ k x r,l=(k,.f x)::r∧mB n r=true:=by
 cases l with
 | nil=>exact nk6 h
 | cons p r =>
  obtain⟨h1,h2⟩:=Bool.and_eq_true_iff.1 (h:(Jy p&&mB n r)=true)
  obtain⟨k,x,rfl⟩:=IC h1
  exact⟨k,x,r,rfl,h2⟩
theorem Bx {l:LF} (h:mB 7 l=true):∃ k2 k3 k4 k5 k6 k7 k8 x2 x3 x4 x5 x6 x7 x8,l=[(k2,.f x2),(k3,.f x3),(k4,.f x4),(k5,.f x5),(k6,.f x6),(k7,.f x7),(k8,.f x8)]:=by
 obtain⟨k2,x2,r2,rfl,q2⟩:=fV h
 obtain⟨k3,x3,r3,rfl,q3⟩:=fV q2
 obtain⟨k4,x4,r4,rfl,q4⟩:=fV q3
 obtain⟨k5,x5,r5,rfl,q5⟩:=fV q4
 obtain⟨k6,x6,r6,rfl,q6⟩:=fV q5
 obtain⟨k7,x7,r7,rfl,q7⟩:=fV q6
 obtain⟨k8,x8,r8,rfl,q8⟩:=fV q7
 exact⟨k2,k3,k4,k5,k6,k7,k8,x2,x3,x4,x5,x6,x7,x8,by rw[bN (l:=r8) q8]⟩
theorem uL {fs:LF} (e:z0 fs=true):∃ s:K8,fs=s.p:=by
 cases fs with
 | nil=>exact nk6 e
 | cons p r =>
  obtain⟨h1,h2⟩:=Bool.and_eq_true_iff.1 (e:(CR p&&mB 7 r)=true)
  obtain⟨k1,rfl⟩:=AG h1
  obtain⟨k2,k3,k4,k5,k6,k7,k8,x2,x3,x4,x5,x6,x7,x8,rfl⟩:=Bx h2
  exact⟨⟨k1,k2,k3,k4,k5,k6,k7,k8,.none,x2,x3,x4,x5,x6,x7,x8⟩,rfl⟩
theorem wH {fs:LF} (e:FE fs=true):∃ k,fs=[(k,.ref 1)]:=by
 cases fs with
 | nil=>exact nk6 e
 | cons p r =>
  obtain⟨h1,h2⟩:=Bool.and_eq_true_iff.1 (e:(CR p&&mB 0 r)=true)
  obtain⟨k1,rfl⟩:=AG h1
  exact⟨k1,by rw[bN (l:=r) h2]⟩
theorem w5 {fs:LF} (e:F9 fs=true):∃ s:K3,fs=s.l:=by
 obtain⟨k1,x1,r1,rfl,q1⟩:=fV e
 obtain⟨k2,x2,r2,rfl,q2⟩:=fV q1
 obtain⟨k3,x3,r3,rfl,q3⟩:=fV q2
 exact⟨⟨k1,k2,k3,x1,x2,x3⟩,by rw[bN (l:=r3) q3];rfl⟩
theorem E8 {fs:LF} (e:J9 fs=true):∃ s:K8,fs=s.t:=by
 obtain⟨k1,x1,r1,rfl,q⟩:=fV e
 obtain⟨k2,k3,k4,k5,k6,k7,k8,x2,x3,x4,x5,x6,x7,x8,rfl⟩:=Bx q
 exact⟨⟨k1,k2,k3,k4,k5,k6,k7,k8,x1,x2,x3,x4,x5,x6,x7,x8⟩,rfl⟩
theorem pC {m:MO}{p:LF→Bool} (h:mF m p=true):∃ C fs,m=.inst C fs∧p fs=true:=by
 obtain⟨q,hq,h⟩:=mH (o:=pA m) (p:=fun q=>p q.2) h
 exact⟨q.1,q.2,n7 hq,h⟩
noncomputable def z8:K8:=⟨⟨#[]⟩,⟨#[]⟩,⟨#[]⟩,⟨#[]⟩,⟨#[]⟩,⟨#[]⟩,⟨#[]⟩,⟨#[]⟩,.none,.none,.none,.none,.none,.none,.none,.none⟩
theorem E2 {g:List MO} (e:F6 g=true) {M:List MO→Prop} (m1:∀ d:KD,M d.g1) (m2:∀ d:KD,M d.g2) (m3:∀ d:KD,M d.g3) (m4:∀ d:KD,M d.g4):M g:=by
 revert e
 refine qM (P:=fun b=>b=true→M g) (fun p hp e=>?_) fun _=>qM (P:=fun b=>b=true→M g) (fun p hp e=>?_) fun _=>nk6
 ·obtain⟨h1,h2⟩:=Bool.and_eq_true_iff.1 e
  obtain⟨C,fs,e1,h1⟩:=pC h1
  obtain⟨D,l,e2,h2⟩:=pC h2
  obtain⟨l,rfl⟩:=w5 h2
  rw[kD hp,e1,e2]
  rcases Bool.or_eq_true_iff.1 h1 with h | h
  ·obtain⟨s,rfl⟩:=uL h;exact m1 ⟨C,D,0,s,⟨#[]⟩,l,z8⟩
  ·obtain⟨k,rfl⟩:=wH h;exact m2 ⟨C,D,0,z8,k,l,z8⟩
 ·obtain⟨h1,h2⟩:=Bool.and_eq_true_iff.1 e
  obtain⟨h2,h3⟩:=Bool.and_eq_true_iff.1 h2
  obtain⟨C,fs,e1,h1⟩:=pC h1
  obtain⟨D,l,e2,h2⟩:=pC h2
  obtain⟨B,t,e3,h3⟩:=pC h3
  obtain⟨l,rfl⟩:=w5 h2
  obtain⟨t,rfl⟩:=E8 h3
  rw[vE hp,e1,e2,e3]
  rcases Bool.or_eq_true_iff.1 h1 with h | h
  ·obtain⟨s,rfl⟩:=uL h;exact m3 ⟨C,D,B,s,⟨#[]⟩,l,t⟩
  ·obtain⟨k,rfl⟩:=wH h;exact m4 ⟨C,D,B,z8,k,l,t⟩
noncomputable def P0:FP:=⟨TT,5000,[],[],[],721,1469,843,25,[535,680],6⟩
theorem dU (pz:List Nat) (f:Nat) (ws:List PV) (v:PV) (ps:List PA) (cl:List Lg)
  (h1:∀ d:KD,dE { P0 with pz:=pz,pu:=[] } 6 f ws d.g1 [] [] [] ps=some (.ok (v,d.g1),[],[],cl))
  (h2:∀ d:KD,dE { P0 with pz:=pz,pu:=[] } 6 f ws d.g2 [] [] [] ps=some (.ok (v,d.g2),[],[],cl))
  (h3:∀ d:KD,dE { P0 with pz:=pz,pu:=[] } 6 f ws d.g3 [] [] [] ps=some (.ok (v,d.g3),[],[],cl))
  (h4:∀ d:KD,dE { P0 with pz:=pz,pu:=[] } 6 f ws d.g4 [] [] [] ps=some (.ok (v,d.g4),[],[],cl))
  (hc:∀ k,∀ l ∈ cl,P0.Holds k l):P0.PR (f,ws,v):=by
 intro g hg k
 refine E2 (M:=fun g=>run TT 5000 (k + 6) f ws g=.ok (v,g)) hg (fun d=>?_) (fun d=>?_) (fun d=>?_) fun d=>?_
 ·exact aI (h1 d) k iG iG (hc k)
 ·exact aI (h2 d) k iG iG (hc k)
 ·exact aI (h3 d) k iG iG (hc k)
 ·exact aI (h4 d) k iG iG (hc k)
noncomputable def At (t:List Nat) (a:Int) (rem:List Nat):Prop:=∃ pre:List Nat,t=pre++rem∧a=Int.ofNat pre.length∧fits t.length=true
theorem At.step {t:List Nat}{a:Int}{c:Nat}{r:List Nat} (h:At t a (c::r)):At t (a + 1) r:=by
 obtain⟨pre,h1,h2,h3⟩:=h
 refine⟨pre++[c],by simp[h1],?_,h3⟩
 rw[h2];simp
theorem At.fits {t:List Nat}{a:Int}{r:List Nat} (h:At t a r):fits t.length=true:=h.choose_spec.2.2
theorem Ih (pre:List Nat) (c:Nat) (r:List Nat):nth (pre++c::r) pre.length=some c:=by
 induction pre with
 | nil=>rfl
 | cons x p ih=>exact ih
theorem CK {a b:Nat} (h:a ≤ b) (hb:Mine.fits b=true):Mine.fits a=true:=Nat.ble_eq_true_of_le (Nat.le_trans h (Nat.le_of_ble_eq_true hb))
theorem At.nth {t:List Nat}{a:Int}{c:Nat}{r:List Nat} (h:At t a (c::r)):∀ st,bJ (.f (.str t)) (.f (.int a)) st=some (.f (.str [c])):=by
 obtain⟨pre,h1,h2,h3⟩:=h
 have hl:pre.length < t.length:=by rw[h1,List.length_append];exact Nat.lt_add_of_pos_right (Nat.succ_pos _)
 have hb:Nat.blt pre.length t.length=true:=Nat.ble_eq_true_of_le hl
 intro st
 rw[h2]
 show(gd (Nat.blt pre.length t.length) (gd (Mine.fits pre.length) (some pre.length))).bind _=_
 rw[hb,CK (Nat.le_of_lt hl) h3]
 show(Mine.nth t pre.length).bind _=_
 rw[h1,Ih];rfl
noncomputable def Fm (t:List Nat):St→Option PV:=fun st=>oV TT .len [.f (.str t)] st
theorem AA {t:List Nat} (h:Mine.fits t.length=true):∀ st,Fm t st=some (.f (.int t.length)):=by
 intro st
 show gd (Mine.fits t.length) _=_
 rw[h];rfl
theorem IM {t:List Nat}{a:Int}{c:Nat}{r:List Nat} (h:At t a (c::r)):P0.PR (535,[.f (.str t),.f (.int a)],.f (.int c)):=by
 refine dU [535] _ _ _ [.v (.f (.int t.length)),.b true,.v (.f (.str [c]))] [.pv (Fm t) (.f (.int t.length)),.pb (cO .Lt (.f (.int a)) (.f (.int t.length))) true,.pv (bJ (.f (.str t)) (.f (.int a))) (.f (.str [c]))] ?_ ?_ ?_ ?_ ?_
 ·intro d;kernel_rfl
 ·intro d;kernel_rfl
 ·intro d;kernel_rfl
 ·intro d;kernel_rfl
 ·intro k l hl
  simp only[List.mem_cons,List.not_mem_nil,or_false]at hl
  rcases hl with rfl | rfl | rfl
  ·exact AA h.fits
  ·obtain⟨pre,h1,h2,h3⟩:=h
   have:a < (t.length:Int):=by rw[h2,h1];simp;omega
   show some (decide (a < (t.length:Int)))=_
   rw[decide_eq_true this]
  ·exact h.nth
theorem z7 {t:List Nat}{a:Int} (h:At t a []):P0.PR (535,[.f (.str t),.f (.int a)],.f (.int (-1))):=by
 refine dU [535] _ _ _ [.v (.f (.int t.length)),.b false] [.pv (Fm t) (.f (.int t.length)),.pb (cO .Lt (.f (.int a)) (.f (.int t.length))) false] ?_ ?_ ?_ ?_ ?_
 ·intro d;kernel_rfl
 ·intro d;kernel_rfl
 ·intro d;kernel_rfl
 ·intro d;kernel_rfl
 ·intro k l hl
  simp only[List.mem_cons,List.not_mem_nil,or_false]at hl
  rcases hl with rfl | rfl
  ·exact AA h.fits
  ·obtain⟨pre,h1,h2,h3⟩:=h
   have:¬ a < (t.length:Int):=by rw[h2,h1];simp
   show some (decide (a < (t.length:Int)))=_
   rw[decide_eq_false this]
end Mine
end
section
namespace Mine
noncomputable def PT:FV:=oe (lk (Str.ofString "PUNCT_TABLE") TT.glob) (fun x=>x) .none
noncomputable def o9 (t:List Nat) (a b:Int):St→Option PV:=fun _=>xQ t (some a) (some b)
theorem rQ (n k:Nat):clipAt n (Int.ofNat k)=min k n:=by
 unfold clipAt
 rw[if_neg (show ¬ Int.ofNat k < 0 from Int.not_lt.mpr (Int.natCast_nonneg k))]
 show(max 0 (min (k:Int) (n:Int))).toNat=_
 omega
theorem At.sl {t:List Nat}{a:Int}{r:List Nat} (h:At t a r) (i:Nat):∀ st,o9 t a (a + Int.ofNat i) st=some (.f (.str (r.take i))):=by
 intro st
 have hf:=h.fits
 obtain⟨pre,h1,h2,h3⟩:=h
 show gd (Mine.fits t.length) _=_
 rw[hf]
 show some (PV.f (.str _))=_
 congr 3
 unfold cut
 simp only[Option.elim]
 have e1:clipAt t.length a=pre.length:=by
  subst h2
  rw[rQ,h1,List.length_append]
  exact Nat.min_eq_left (Nat.le_add_right _ _)
 have e2:clipAt t.length (a + Int.ofNat i)=min (pre.length + i) t.length:=by
  subst h2
  exact rQ _ _
 rw[e1,e2,h1,List.drop_left,List.length_append,Nat.add_min_add_left,Nat.add_sub_cancel_left,List.take_eq_take_iff,Nat.min_assoc,Nat.min_self]
noncomputable def fF (p:List Nat):Option Bool:=cO .In (.f (.str p)) (.f PT)
theorem RO {t:List Nat}{a:Int}{r p:List Nat} (h:At t a r) (h4:fF (r.take 4)=some true):P0.PR (680,[.f (.str t),.f (.int a)],.f (.str (r.take 4))):=by
 refine dU [680] _ _ _ [.auto,.v (.f (.str (r.take 4))),.b true] [.pv (o9 t a (a + Int.ofNat 4)) (.f (.str (r.take 4))),.pb (fF (r.take 4)) true] ?_ ?_ ?_ ?_ ?_
 ·intro d;kernel_rfl
 ·intro d;kernel_rfl
 ·intro d;kernel_rfl
 ·intro d;kernel_rfl
 ·intro k l hl
  simp only[List.mem_cons,List.not_mem_nil,or_false]at hl
  rcases hl with rfl | rfl
  ·exact h.sl 4
  ·exact h4
theorem HT {t:List Nat}{a:Int}{r:List Nat} (h:At t a r) (h4:fF (r.take 4)=some false) (h3:fF (r.take 3)=some false) (h2:fF (r.take 2)=some true):P0.PR (680,[.f (.str t),.f (.int a)],.f (.str (r.take 2))):=by
 refine dU [680] _ _ _ [.auto,.v (.f (.str (r.take 4))),.b false,.auto,.v (.f (.str (r.take 3))),.b false,.auto,.v (.f (.str (r.take 2))),.b true] [.pv (o9 t a (a + Int.ofNat 4)) (.f (.str (r.take 4))),.pb (fF (r.take 4)) false,.pv (o9 t a (a + Int.ofNat 3)) (.f (.str (r.take 3))),.pb (fF (r.take 3)) false,.pv (o9 t a (a + Int.ofNat 2)) (.f (.str (r.take 2))),.pb (fF (r.take 2)) true] ?_ ?_ ?_ ?_ ?_
 ·intro d;kernel_rfl
 ·intro d;kernel_rfl
 ·intro d;kernel_rfl
 ·intro d;kernel_rfl
 ·intro k l hl
  simp only[List.mem_cons,List.not_mem_nil,or_false]at hl
  rcases hl with rfl | rfl | rfl | rfl | rfl | rfl
  ·exact h.sl 4
  ·exact h4
  ·exact h.sl 3
  ·exact h3
  ·exact h.sl 2
  ·exact h2
theorem zK {t:List Nat}{a:Int}{r:List Nat} (h:At t a r) (h4:fF (r.take 4)=some false) (h3:fF (r.take 3)=some false) (h2:fF (r.take 2)=some false) (h1:fF (r.take 1)=some true):P0.PR (680,[.f (.str t),.f (.int a)],.f (.str (r.take 1))):=by
 refine dU [680] _ _ _ [.auto,.v (.f (.str (r.take 4))),.b false,.auto,.v (.f (.str (r.take 3))),.b false,.auto,.v (.f (.str (r.take 2))),.b false,.auto,.v (.f (.str (r.take 1))),.b true] [.pv (o9 t a (a + Int.ofNat 4)) (.f (.str (r.take 4))),.pb (fF (r.take 4)) false,.pv (o9 t a (a + Int.ofNat 3)) (.f (.str (r.take 3))),.pb (fF (r.take 3)) false,.pv (o9 t a (a + Int.ofNat 2)) (.f (.str (r.take 2))),.pb (fF (r.take 2)) false,.pv (o9 t a (a + Int.ofNat 1)) (.f (.str (r.take 1))),.pb (fF (r.take 1)) true] ?_ ?_ ?_ ?_ ?_
 ·intro d;kernel_rfl
 ·intro d;kernel_rfl
 ·intro d;kernel_rfl
 ·intro d;kernel_rfl
 ·intro k l hl
  simp only[List.mem_cons,List.not_mem_nil,or_false]at hl
  rcases hl with rfl | rfl | rfl | rfl | rfl | rfl | rfl | rfl
  ·exact h.sl 4
  ·exact h4
  ·exact h.sl 3
  ·exact h3
  ·exact h.sl 2
  ·exact h2
  ·exact h.sl 1
  ·exact h1
noncomputable def fO (r:List Nat) (p:List Nat):Prop:=∀ t a,At t a r→P0.PR (680,[.f (.str t),.f (.int a)],.f (.str p))
theorem pR {c:Nat} (h1:fF [c]=some true) (h2:∀ x,fF [c,x]=some false) (h3:∀ x y,fF [c,x,y]=some false) (h4:∀ x y z,fF [c,x,y,z]=some false):∀ r,fO (c::r) [c]
 | []=>fun t a h=>RO (p:=[]) h h1
 | [x]=>fun t a h=>zK h (h2 x) (h2 x) (h2 x) h1
 | [x,y]=>fun t a h=>zK h (h3 x y) (h3 x y) (h2 x) h1
 | x::y::z::r=>fun t a h=>zK h (h4 x y z) (h3 x y) (h2 x) h1
theorem y8 {c x:Nat} (h1:fF [c]=some true) (h2:fF [c,x]=some false) (h3:∀ y,fF [c,x,y]=some false) (h4:∀ y z,fF [c,x,y,z]=some false):∀ r,fO (c::x::r) [c]
 | []=>fun t a h=>zK h h2 h2 h2 h1
 | [y]=>fun t a h=>zK h (h3 y) (h3 y) h2 h1
 | y::z::r=>fun t a h=>zK h (h4 y z) (h3 y) h2 h1
theorem Aq:∀ r,fO (40::r) [40]:=pR (by kernel_rfl) (fun x=>by kernel_rfl) (fun x y=>by kernel_rfl) (fun x y z=>by kernel_rfl)
theorem ML:∀ r,fO (41::r) [41]:=pR (by kernel_rfl) (fun x=>by kernel_rfl) (fun x y=>by kernel_rfl) (fun x y z=>by kernel_rfl)
theorem Mo:∀ r,fO (91::r) [91]:=pR (by kernel_rfl) (fun x=>by kernel_rfl) (fun x y=>by kernel_rfl) (fun x y z=>by kernel_rfl)
theorem N4:∀ r,fO (93::r) [93]:=pR (by kernel_rfl) (fun x=>by kernel_rfl) (fun x y=>by kernel_rfl) (fun x y z=>by kernel_rfl)
theorem GD:∀ r,fO (123::r) [123]:=pR (by kernel_rfl) (fun x=>by kernel_rfl) (fun x y=>by kernel_rfl) (fun x y z=>by kernel_rfl)
theorem MZ:∀ r,fO (125::r) [125]:=pR (by kernel_rfl) (fun x=>by kernel_rfl) (fun x y=>by kernel_rfl) (fun x y z=>by kernel_rfl)
theorem Kw:∀ r,fO (46::r) [46]:=pR (by kernel_rfl) (fun x=>by kernel_rfl) (fun x y=>by kernel_rfl) (fun x y z=>by kernel_rfl)
theorem Jn:∀ r,fO (44::r) [44]:=pR (by kernel_rfl) (fun x=>by kernel_rfl) (fun x y=>by kernel_rfl) (fun x y z=>by kernel_rfl)
theorem AJ:∀ r,fO (59::r) [59]:=pR (by kernel_rfl) (fun x=>by kernel_rfl) (fun x y=>by kernel_rfl) (fun x y z=>by kernel_rfl)
theorem Ku:∀ r,fO (63::r) [63]:=pR (by kernel_rfl) (fun x=>by kernel_rfl) (fun x y=>by kernel_rfl) (fun x y z=>by kernel_rfl)
theorem Ko:∀ r,fO (58::r) [58]:=pR (by kernel_rfl) (fun x=>by kernel_rfl) (fun x y=>by kernel_rfl) (fun x y z=>by kernel_rfl)
theorem yO:∀ r,fO (33::33::r) [33]:=y8 (by kernel_rfl) (by kernel_rfl) (fun y=>by kernel_rfl) (fun y z=>by kernel_rfl)
theorem AF:∀ r,fO (33::48::r) [33]:=y8 (by kernel_rfl) (by kernel_rfl) (fun y=>by kernel_rfl) (fun y z=>by kernel_rfl)
theorem AQ:∀ r,fO (33::102::r) [33]:=y8 (by kernel_rfl) (by kernel_rfl) (fun y=>by kernel_rfl) (fun y z=>by kernel_rfl)
theorem AP:∀ r,fO (33::110::r) [33]:=y8 (by kernel_rfl) (by kernel_rfl) (fun y=>by kernel_rfl) (fun y z=>by kernel_rfl)
theorem Hz:∀ r,fO (43::32::r) [43]:=y8 (by kernel_rfl) (by kernel_rfl) (fun y=>by kernel_rfl) (fun y z=>by kernel_rfl)
theorem NQ:∀ r,fO (61::32::r) [61]:=y8 (by kernel_rfl) (by kernel_rfl) (fun y=>by kernel_rfl) (fun y z=>by kernel_rfl)
theorem Ng:∀ r,fO (124::124::32::r) [124,124]
 | []=>fun t a h=>HT h (by kernel_rfl) (by kernel_rfl) (by kernel_rfl)
 | x::r=>fun t a h=>HT h (by kernel_rfl) (by kernel_rfl) (by kernel_rfl)
theorem MV:∀ r,fO (43::43::44::r) [43,43]
 | []=>fun t a h=>HT h (by kernel_rfl) (by kernel_rfl) (by kernel_rfl)
 | x::r=>fun t a h=>HT h (by kernel_rfl) (by kernel_rfl) (by kernel_rfl)
end Mine
end
section
namespace Mine
noncomputable def jU (t p:List Nat) (a:Int):St→Option PV:=fun _=>t7 (.f (.str t)) [.f (.str p),.f (.int a)]
theorem Bc {t:List Nat}{a:Int}{r:List Nat} (h:At t a r) (x:Nat) (hr:r.head? ≠ some 47):∀ st,jU t [47,x] a st=some (.f (.bool false)):=by
 intro st
 show some (PV.f (.bool (decide (fromIndex t.length a + 2 ≤ t.length)&&Builtin.Str.subAt ⟨t.toArray⟩ ⟨[47,x].toArray⟩ (fromIndex t.length a))))=_
 congr 3
 obtain⟨pre,h1,h2,h3⟩:=h
 have e1:fromIndex t.length a=pre.length:=by
  subst h2;unfold fromIndex;simp only[Int.ofNat_eq_natCast];split<;>omega
 rw[e1]
 cases r with
 | nil =>
  have:¬ (pre.length + 2 ≤ t.length):=by rw[h1];simp
  rw[decide_eq_false this];rfl
 | cons c r =>
  have:Builtin.Str.subAt ⟨t.toArray⟩ ⟨[47,x].toArray⟩ pre.length=false:=by
   unfold Builtin.Str.subAt
   refine Bool.eq_false_iff.2 fun hh=>?_
   have:=congrArg Array.toList (eq_of_beq hh)
   simp only[Array.toList_extract,List.extract_eq_take_drop]at this
   rw[h1]at this
   simp only[List.drop_left,Str.length]at this
   simp at this
   exact hr (by rw[this.1];rfl)
  rw[this,Bool.and_false]
noncomputable def lf (t:List Nat) (a:Int):LF:=[(Str.ofString "text",.f (.str t)),(Str.ofString "at",.f (.int a)),(Str.ofString "line",.f (.int 1))]
noncomputable def aK (kind:List Nat) (v:FV) (plain:Bool) (s e:Int):FV:=.obj 662 [(Str.ofString "kind",.str kind),(Str.ofString "value",v),(Str.ofString "line",.int 1),(Str.ofString "is_behind_line",.bool false),(Str.ofString "start",.int s),(Str.ofString "end",.int e),(Str.ofString "is_octal",.bool false),(Str.ofString "is_plain",.bool plain)]
structure TD where
 tok:Int→Int→FV
 b:Nat
 n:Nat
noncomputable def Kl (t:List Nat) (a:Int) (tok:Int→Int→FV) (s e:Int):LF × FV × LF:=(lf t a,tok s e,lf t e)
noncomputable def bB (r:List Nat) (d:TD):Prop:=∀ t a,At t a r→P0.NX (Kl t a d.tok (a + (d.b:Nat)) (a + (d.n:Nat)))
theorem At.drop {t:List Nat}{a:Int}:∀ (n:Nat) {r:List Nat},At t a r→n ≤ r.length→At t (a + (n:Nat)) (r.drop n)
 | 0,r,h,_=>by simpa using h
 | n + 1,[],h,hn=>by simp at hn
 | n + 1,c::r,h,hn=>by
  have:=At.drop n h.step (by simpa using hn)
  rw[show a + ((n + 1:Nat):Int)=a + 1 + (n:Nat) by omega]
  exact this
theorem jY {r r':List Nat}{n c:Nat} (h:r.drop n=c::r'):n ≤ r.length:=by
 rcases Nat.lt_or_ge r.length n with h' | h'
 ·rw[List.drop_eq_nil_of_le (Nat.le_of_lt h')]at h;cases h
 ·exact h'
theorem aR {t:List Nat}{a:Int}{r:List Nat} (h:At t a r) (n:Nat) {e:Int}{c:Nat}{r':List Nat} (hr:r.drop n=c::r') (he:e=a + (n:Nat)):P0.PR (535,[.f (.str t),.f (.int e)],.f (.int c)):=by
 subst he
 have:=h.drop n (jY hr)
 rw[hr]at this
 exact IM this
theorem Cv {t:List Nat}{a:Int}{r p:List Nat} (h:At t a r) (n:Nat) {e:Int}{c:Nat}{r':List Nat} (hp:fO (c::r') p) (hr:r.drop n=c::r') (he:e=a + (n:Nat)):P0.PR (680,[.f (.str t),.f (.int e)],.f (.str p)):=by
 subst he
 have:=h.drop n (jY hr)
 rw[hr]at this
 exact hp _ _ this
theorem st' {t:List Nat}{a:Int}{r:List Nat} (h:At t a r) (n:Nat) {e:Int} (x:Nat) {c:Nat}{r':List Nat} (hr:r.drop n=c::r') (hc:c ≠ 47) (he:e=a + (n:Nat)):∀ st,jU t [47,x] e st=some (.f (.bool false)):=by
 subst he
 have:=h.drop n (jY hr)
 rw[hr]at this
 exact Bc this x (by simpa using hc)
theorem eO {t:List Nat}{a:Int}{r:List Nat} (h:At t a r) (n:Nat) {e:Int}{c:Nat}{r':List Nat} (hr:r.drop n=c::r') (he:e=a + (n:Nat)):∀ st,bJ (.f (.str t)) (.f (.int e)) st=some (.f (.str [c])):=by
 subst he
 have:=h.drop n (jY hr)
 rw[hr]at this
 exact this.nth
theorem D4 {t:List Nat}{a:Int}{r:List Nat} (h:At t a r) (n i:Nat) {e e':Int}{p:List Nat} (he:e=a + (n:Nat)) (he':e'=a + (n:Nat) + Int.ofNat i) (hn:n ≤ r.length∧(r.drop n).take i=p):∀ st,o9 t e e' st=some (.f (.str p)):=by
 subst he;subst he'
 have:=(h.drop n hn.1).sl i
 rw[hn.2]at this
 exact this
theorem My (e:Int):cO .Gt (.f (.int e)) (.f (.int e))=some false:=congrArg some (decide_eq_false (Int.lt_irrefl e))
theorem mc {α:Type}{p:α→Prop}{x:α}{l:List α} (h:p x) (t:∀ e ∈ l,p e):∀ e ∈ x::l,p e:=by
 intro e he
 cases he with
 | head=>exact h
 | tail _ h'=>exact t _ h'
theorem mn {α:Type}{p:α→Prop}:∀ e ∈ ([]:List α),p e:=fun _ h=>nomatch h
noncomputable def Pn:FP:={ P0 with pz:=[742,826,770,763] }
theorem uK {r:List Nat}{d:TD} (H:∀ t a,At t a r→∃ s e,s=a + (d.b:Nat)∧e=a + (d.n:Nat)∧P0.NX (Kl t a d.tok s e)):bB r d:=by
 intro t a h
 obtain⟨s,e,h1,h2,h3⟩:=H t a h
 rw[← h1,← h2];exact h3
theorem zG {t:List Nat}{a s e:Int}{tok:Int→Int→FV}{ul:List PU}{cl:List Lg} (ps:List PA) (h:∀ x:K8,dE Pn 25 721 [.ref 1] [.inst 1469 x.p,.inst 843 (lf t a)] [] ul [] ps=some (.ok (.f (tok s e),[.inst 1469 x.p,.inst 843 (lf t e)]),[],ul,cl))
  (h1:∀ e ∈ ul,P0.PR e) (h2:∀ k,∀ l ∈ cl,P0.Holds k l):P0.NX (Kl t a tok s e):=by
 intro fs hs k
 obtain⟨x,rfl⟩:=uL hs
 exact aI (h x) k iG h1 (h2 k)
noncomputable def pl (a:Int):Nat→Int
 | 0=>a
 | n + 1=>pl a n + 1
theorem b6 (a:Int):∀ n,pl a n=a + (n:Nat)
 | 0=>by simp[pl]
 | n + 1=>by rw[pl,b6 a n];omega
abbrev U (t:List Nat) (e c:Int):PU:=(535,[.f (.str t),.f (.int e)],.f (.int c))
abbrev V (t:List Nat) (e:Int) (p:List Nat):PU:=(680,[.f (.str t),.f (.int e)],.f (.str p))
abbrev w0:PA:=.v (.f (.bool false))
abbrev au:PA:=.auto
abbrev wc (c:Nat):PA:=.v (.f (.str [c]))
abbrev J (t:List Nat) (e:Int) (c:Nat):Lg:=.pv (bJ (.f (.str t)) (.f (.int e))) (.f (.str [c]))
abbrev Y (e:Int):Lg:=.pb (cO .Gt (.f (.int e)) (.f (.int e))) false
noncomputable def Z2 (t:List Nat) (p:Int):List Lg:=[.pv (jU t [47,47] p) (.f (.bool false)),.pv (jU t [47,42] p) (.f (.bool false))]
noncomputable def gF:Nat→List Nat
 | 0=>[]
 | _ + 1=>[32]
noncomputable def u0 (t:List Nat) (a:Int) (b:Nat) (c:Nat):List PU:=match b with
 | 0=>[U t a c,U t a c]
 | _ + 1=>[U t a 32,U t (pl a 1) c,U t (pl a 1) c]
noncomputable def p0 (b:Nat):List PA:=match b with
 | 0=>[w0,w0,au]
 | _ + 1=>[au,w0,w0,au]
noncomputable def uN (t:List Nat) (a:Int):Nat→List Nat→List PU
 | _,[]=>[]
 | i,c::r=>U t (pl a i) c::uN t a (i + 1) r
noncomputable def cN (a:Int):Nat→List Nat→List Lg
 | _,[]=>[]
 | i,_::r=>Y (pl a (i + 1))::cN a (i + 1) r
noncomputable def nP:List Nat→List PA
 | []=>[au,au]
 | _::r=>au::au::au::.b false::au::au::au::nP r
noncomputable def uT (t:List Nat) (a:Int):Nat→List Nat→List PU
 | _,[]=>[]
 | i,c::r=>U t (pl a i) c::U t (pl a i) c::uT t a (i + 1) r
noncomputable def cT (t:List Nat) (a:Int):Nat→List Nat→List Lg
 | _,[]=>[]
 | i,c::r=>J t (pl a i) c::cT t a (i + 1) r
noncomputable def tP:List Nat→List PA
 | []=>[au,au,au]
 | c::r=>au::au::au::wc c::au::au::tP r
theorem Ee {r w R:List Nat}{c i:Nat} (h:r.drop i=c::(w++R)):r.drop (i + 1)=w++R:=by
 have:r.drop (i + 1)=(r.drop i).drop 1:=by rw[List.drop_drop]
 rw[this,h];rfl
section
variable {t:List Nat}{a:Int}{r:List Nat} (h:At t a r)
include h
theorem HG (R:List Nat):∀ (w:List Nat) (i:Nat),r.drop i=w++R→∀ e ∈ uN t a i w,P0.PR e
 | [],_,_=>mn
 | _::w,i,e=>mc (aR h i e (b6 a i)) (HG R w (i + 1) (Ee e))
theorem Bn (R:List Nat):∀ (w:List Nat) (i:Nat),r.drop i=w++R→∀ e ∈ uT t a i w,P0.PR e
 | [],_,_=>mn
 | _::w,i,e=>mc (aR h i e (b6 a i)) (mc (aR h i e (b6 a i)) (Bn R w (i + 1) (Ee e)))
theorem Ba (k:Nat) (R:List Nat):∀ (w:List Nat) (i:Nat),r.drop i=w++R→∀ e ∈ cT t a i w,P0.Holds k e
 | [],_,_=>mn
 | _::w,i,e=>mc (eO h i e (b6 a i)) (Ba k R w (i + 1) (Ee e))
end
theorem HX (k:Nat) (a:Int):∀ (w:List Nat) (i:Nat),∀ e ∈ cN a i w,P0.Holds k e
 | [],_=>mn
 | _::w,i=>mc (My _) (HX k a w (i + 1))
theorem aa {α:Type}{p:α→Prop}{l l':List α} (h:∀ x ∈ l,p x) (h':∀ x ∈ l',p x):∀ x ∈ l++l',p x:=fun x hx=>(List.mem_append.1 hx).elim (h x) (h' x)
theorem As {t:List Nat}{a:Int}{r:List Nat}{b c:Nat} (hb:b ≤ 1) (h:At t a (gF b++(c::r))):∀ e ∈ u0 t a b c,P0.PR e:=by
 match b,hb with
 | 0,_=>exact mc (aR h 0 rfl (by omega)) (mc (aR h 0 rfl (by omega)) mn)
 | 1,_=>exact mc (aR h 0 rfl (by omega)) (mc (aR h 1 rfl (b6 a 1)) (mc (aR h 1 rfl (b6 a 1)) mn))
theorem Ay {t:List Nat}{a:Int}{r:List Nat}{b c:Nat} (hb:b ≤ 1) (hc:c ≠ 47) (h:At t a (gF b++(c::r))) (k:Nat):∀ e ∈ Z2 t (pl a b),P0.Holds k e:=by
 match b,hb with
 | 0,_=>exact mc (st' h 0 47 rfl hc (b6 a 0)) (mc (st' h 0 42 rfl hc (b6 a 0)) mn)
 | 1,_=>exact mc (st' h 1 47 rfl hc (b6 a 1)) (mc (st' h 1 42 rfl hc (b6 a 1)) mn)
theorem kW {b:Nat} (hb:b ≤ 1) (R:List Nat):(gF b++R).drop b=R:=by
 match b,hb with
 | 0,_=>rfl
 | 1,_=>rfl
abbrev LX (t:List Nat) (a:Int) (g:List MO) (g':List MO) (tok:FV) (ul:List PU) (cl:List Lg) (ps:List PA):Prop:=dE Pn 25 721 [.ref 1] g [] ul [] ps=some (.ok (.f tok,g'),[],ul,cl)
noncomputable def GX (x:K8) (t:List Nat) (a:Int):List MO:=[.inst 1469 x.p,.inst 843 (lf t a)]
theorem OT {r:List Nat}{d:TD} (ul:List Nat→Int→List PU) (cl:List Nat→Int→List Lg) (ps:List PA) (h:∀ x t a,LX t a (GX x t a) (GX x t (pl a d.n)) (d.tok (pl a d.b) (pl a d.n)) (ul t a) (cl t a) ps)
  (h1:∀ t a,At t a r→∀ e ∈ ul t a,P0.PR e) (h2:∀ t a,At t a r→∀ k,∀ l ∈ cl t a,P0.Holds k l):bB r d:=uK fun t a hA=>⟨pl a d.b,pl a d.n,b6 a _,b6 a _,zG ps (fun x=>h x t a) (h1 t a hA) (h2 t a hA)⟩
end Mine
end
section
namespace Mine
abbrev aW:List Nat:=[112,117,110,99,116]
abbrev kM:List Nat:=[110,97,109,101]
abbrev aL:List Nat:=[107,101,121,119,111,114,100]
abbrev cA:List Nat:=[110,117,109,98,101,114]
abbrev gO:List Nat:=[116,101,120,116]
abbrev MY:List Nat:=[101,110,100]
abbrev GN (b c0:Nat) (w:List Nat) (c:Nat) (kd:List Nat) (g:List Nat→Int→List MO):Prop:=∀ t a,LX t a (g t a) (g t (pl a (b + (w.length + 1)))) (aK kd (.str (c0::w)) true (pl a b) (pl a (b + (w.length + 1)))) (u0 t a b c0++uN t a b ((c0::w)++[c])) (Z2 t (pl a b)++cN a b (c0::w)) (p0 b++nP (c0::w))
section
variable {b c0:Nat}{w:List Nat}{c:Nat}{kd:List Nat}
theorem nu (hb:b ≤ 1) (t:List Nat) (a:Int) (r:List Nat) (h:At t a (gF b++(c0::(w++(c::r))))):∀ e ∈ u0 t a b c0++uN t a b ((c0::w)++[c]),P0.PR e :=
 aa (As hb h) (HG h r _ b (by rw[kW hb];simp))
theorem nc (hb:b ≤ 1) (hc:c0 ≠ 47) (t:List Nat) (a:Int) (r:List Nat) (h:At t a (gF b++(c0::r))) (k:Nat):∀ e ∈ Z2 t (pl a b)++cN a b (c0::w),P0.Holds k e :=
 aa (Ay hb hc h k) (HX k a _ b)
theorem jJ (hb:b ≤ 1) (hc:c0 ≠ 47) (h:∀ x,GN b c0 w c kd (GX x)) (r:List Nat):bB (gF b++(c0::(w++(c::r)))) ⟨aK kd (.str (c0::w)) true,b,b + (w.length + 1)⟩ :=
 OT _ _ _ (fun x t a=>h x t a) (fun t a hA=>nu hb t a r hA) (fun t a hA=>nc hb hc t a _ hA)
end
abbrev GP (b:Nat) (c0:Nat) (us:List Nat→Int→List PU) (v:FV) (kd:List Nat) (cs:List Nat→Int→List Lg) (ps:List PA) (n:Nat) (g:List Nat→Int→List MO):Prop:=∀ t a,LX t a (g t a) (g t (pl a (b + n))) (aK kd v true (pl a b) (pl a (b + n))) (u0 t a b c0++us t a) (Z2 t (pl a b)++cs t a) (p0 b++ps)
theorem Dd {b c0:Nat}{us:List Nat→Int→List PU}{v:FV}{kd:List Nat}{cs:List Nat→Int→List Lg}{ps:List PA}{n:Nat}{r:List Nat} (hb:b ≤ 1) (hc:c0 ≠ 47) (h:∀ x,GP b c0 us v kd cs ps n (GX x))
  (h1:∀ t a,At t a (gF b++(c0::r))→∀ e ∈ us t a,P0.PR e) (h2:∀ t a,At t a (gF b++(c0::r))→∀ k,∀ e ∈ cs t a,P0.Holds k e):bB (gF b++(c0::r)) ⟨aK kd v true,b,b + n⟩ :=
 OT _ _ _ (fun x t a=>h x t a) (fun t a hA=>aa (As hb hA) (h1 t a hA)) (fun t a hA k=>aa (Ay hb hc hA k) (h2 t a hA k))
theorem fY {b:Nat} (hb:b ≤ 1) {c0:Nat} (hc:c0 ≠ 47) {r:List Nat} (hp:fO (c0::r) [c0]) (h:∀ x,GP b c0 (fun t a=>[V t (pl a b) [c0]]) (.str [c0]) aW (fun _ _=>[]) [] 1 (GX x)):bB (gF b++(c0::r)) ⟨aK aW (.str [c0]) true,b,b + 1⟩ :=
 Dd hb hc h (fun t a hA=>mc (Cv hA b hp (kW hb _) (b6 a b)) mn) (fun _ _ _ _=>mn)
theorem rD {b:Nat} (hb:b ≤ 1) (x:Nat) (R:List Nat):(gF b++(x::R)).drop (b + 1)=R:=by
 match b,hb with
 | 0,_=>rfl
 | 1,_=>rfl
theorem Fn {c:Nat}{r:List Nat} (h:∀ x,GP 0 46 (fun t a=>[U t (pl a 1) c,V t a [46]]) (.str [46]) aW (fun _ _=>[]) [] 1 (GX x)):bB (46::c::r) ⟨aK aW (.str [46]) true,0,1⟩ :=
 Dd (b:=0) (by decide) (by decide) h (fun t a hA=>mc (aR hA 1 rfl (b6 a 1)) (mc (Cv hA 0 (Kw _) rfl (b6 a 0)) mn)) (fun _ _ _ _=>mn)
theorem rF {b:Nat} (hb:b ≤ 1) {c:Nat}{r:List Nat} (h:∀ x,GP b 48 (fun t a=>let p:=pl a b;let q:=pl a (b + 1);[U t p 48,U t q c,U t p 48,U t q c,U t q c,U t q c]) (.int 0) cA (fun _ _=>[]) [] 1 (GX x)):bB (gF b++(48::c::r)) ⟨aK cA (.int 0) true,b,b + 1⟩ :=
 Dd hb (by decide) h (fun t a hA=>by
  have z:=aR hA b (kW hb _) (b6 a b)
  have o:=aR hA (b + 1) (rD hb _ _) (b6 a (b + 1))
  exact mc z (mc o (mc z (mc o (mc o (mc o mn)))))) (fun _ _ _ _=>mn)
theorem Oo (a:Int) (b:Nat):pl a (b + 1)=a + (b:Nat) + Int.ofNat 1:=by
 show pl a b + 1=a + ((b:Nat):Int) + ((1:Nat):Int)
 rw[b6];omega
theorem Kh {b:Nat} (hb:b ≤ 1) (x:Nat) (R:List Nat):b ≤ (gF b++(x::R)).length∧((gF b++(x::R)).drop b).take 1=[x]:=by
 match b,hb with
 | 0,_=>exact⟨Nat.zero_le _,rfl⟩
 | 1,_=>exact⟨Nat.le_add_left _ _,rfl⟩
theorem K7 {b:Nat} (hb:b ≤ 1) {c:Nat}{r:List Nat} (h:∀ x,GP b 49 (fun t a=>let p:=pl a b;let q:=pl a (b + 1);[U t p 49,U t q c,U t p 49,U t p 49,U t q c,U t q c,U t q c,U t q c]) (.int 4607182418800017408) cA (fun t a=>[.pv (o9 t (pl a b) (pl a (b + 1))) (.f (.str [49]))]) [au,.v (.f (.str [49]))] 1 (GX x)):bB (gF b++(49::c::r)) ⟨aK cA (.int 4607182418800017408) true,b,b + 1⟩ :=
 Dd hb (by decide) h (fun t a hA=>by
  have z:=aR hA b (kW hb _) (b6 a b)
  have o:=aR hA (b + 1) (rD hb _ _) (b6 a (b + 1))
  exact mc z (mc o (mc z (mc z (mc o (mc o (mc o (mc o mn)))))))) (fun t a hA k=>mc (D4 hA b 1 (b6 a b) (Oo a b) (Kh hb _ _)) mn)
theorem Ll {b:Nat} (hb:b ≤ 1) (x:Nat) (w R:List Nat):(gF b++(x::(w++R))).drop (b + 1 + w.length)=R:=by
 rw[← List.drop_drop,rD hb,List.drop_left]
theorem HU {b:Nat} (hb:b ≤ 1) {w:List Nat}{r:List Nat} (h:∀ x,GP b 34 (fun t a=>uT t a (b + 1) w++[U t (pl a (b + 1 + w.length)) 34]) (.str w) gO (fun t a=>cT t a (b + 1) w) (au::tP w) (w.length + 2) (GX x)):bB (gF b++(34::(w++(34::r)))) ⟨aK gO (.str w) true,b,b + (w.length + 2)⟩ :=
 Dd hb (by decide) h (fun t a hA=>aa (Bn hA (34::r) w (b + 1) (rD hb _ _)) (mc (aR hA (b + 1 + w.length) (Ll hb _ _ _) (b6 a _)) mn)) (fun t a hA k=>Ba hA k (34::r) w (b + 1) (rD hb _ _))
noncomputable def bX:TD:=⟨aK aW (.str [40]) true,0,1⟩
theorem bD (r:List Nat):bB (40::r) bX:=fY (b:=0) (by decide) (by decide) (Aq _) (fun x t a=>by kernel_rfl)
noncomputable def cK:TD:=⟨aK aW (.str [40]) true,1,2⟩
theorem bL (r:List Nat):bB (32::40::r) cK:=fY (b:=1) (by decide) (by decide) (Aq _) (fun x t a=>by kernel_rfl)
noncomputable def aU:TD:=⟨aK aW (.str [41]) true,0,1⟩
theorem aM (r:List Nat):bB (41::r) aU:=fY (b:=0) (by decide) (by decide) (ML _) (fun x t a=>by kernel_rfl)
noncomputable def qI:TD:=⟨aK aW (.str [91]) true,0,1⟩
theorem pG (r:List Nat):bB (91::r) qI:=fY (b:=0) (by decide) (by decide) (Mo _) (fun x t a=>by kernel_rfl)
noncomputable def sD:TD:=⟨aK aW (.str [93]) true,0,1⟩
theorem oW (r:List Nat):bB (93::r) sD:=fY (b:=0) (by decide) (by decide) (N4 _) (fun x t a=>by kernel_rfl)
noncomputable def jZ:TD:=⟨aK aW (.str [123]) true,0,1⟩
theorem jL (r:List Nat):bB (123::r) jZ:=fY (b:=0) (by decide) (by decide) (GD _) (fun x t a=>by kernel_rfl)
noncomputable def eP:TD:=⟨aK aW (.str [123]) true,1,2⟩
theorem cS (r:List Nat):bB (32::123::r) eP:=fY (b:=1) (by decide) (by decide) (GD _) (fun x t a=>by kernel_rfl)
noncomputable def dO:TD:=⟨aK aW (.str [125]) true,0,1⟩
theorem bP (r:List Nat):bB (125::r) dO:=fY (b:=0) (by decide) (by decide) (MZ _) (fun x t a=>by kernel_rfl)
noncomputable def s8:TD:=⟨aK aW (.str [44]) true,0,1⟩
theorem tW (r:List Nat):bB (44::r) s8:=fY (b:=0) (by decide) (by decide) (Jn _) (fun x t a=>by kernel_rfl)
noncomputable def bR:TD:=⟨aK aW (.str [59]) true,0,1⟩
theorem aT (r:List Nat):bB (59::r) bR:=fY (b:=0) (by decide) (by decide) (AJ _) (fun x t a=>by kernel_rfl)
noncomputable def Ip:TD:=⟨aK aW (.str [59]) true,1,2⟩
theorem PP (r:List Nat):bB (32::59::r) Ip:=fY (b:=1) (by decide) (by decide) (AJ _) (fun x t a=>by kernel_rfl)
noncomputable def Cw:TD:=⟨aK aW (.str [63]) true,1,2⟩
theorem JB (r:List Nat):bB (32::63::r) Cw:=fY (b:=1) (by decide) (by decide) (Ku _) (fun x t a=>by kernel_rfl)
noncomputable def w4:TD:=⟨aK aW (.str [58]) true,1,2⟩
theorem Hg (r:List Nat):bB (32::58::r) w4:=fY (b:=1) (by decide) (by decide) (Ko _) (fun x t a=>by kernel_rfl)
noncomputable def eJ:TD:=⟨aK aW (.str [46]) true,0,1⟩
theorem cL (r:List Nat):bB (46::97::r) eJ:=Fn (fun x t a=>by kernel_rfl)
theorem lY (r:List Nat):bB (46::98::r) eJ:=Fn (fun x t a=>by kernel_rfl)
theorem Co (r:List Nat):bB (46::99::r) eJ:=Fn (fun x t a=>by kernel_rfl)
noncomputable def t3:TD:=⟨aK aW (.str [43]) true,1,2⟩
theorem mK (r:List Nat):bB (32::43::32::r) t3:=fY (b:=1) (by decide) (by decide) (Hz _) (fun x t a=>by kernel_rfl)
noncomputable def Gc:TD:=⟨aK aW (.str [43,43]) true,0,2⟩
theorem Af (r:List Nat):bB (43::43::44::r) Gc:=uK fun t a h=>⟨a,a + 2,by show _=a + ((0:Nat):Int);omega,by show _=a + ((2:Nat):Int);omega,
 zG [w0,w0,au] (ul:=[U t (a) (43),U t (a) (43),V t a [43,43]]) (cl:=[.pv (jU t [47,47] a) (.f (.bool false)),.pv (jU t [47,42] a) (.f (.bool false))]) (fun x=>by kernel_rfl)
  (mc (aR h 0 rfl (by omega)) (mc (aR h 0 rfl (by omega)) (mc (Cv h 0 (MV r) rfl (by omega)) (mn))))
  (fun k=>mc (st' h 0 47 rfl (by decide) (by omega)) (mc (st' h 0 42 rfl (by decide) (by omega)) (mn)))⟩
noncomputable def GM:TD:=⟨aK aW (.str [61]) true,1,2⟩
theorem CB (r:List Nat):bB (32::61::32::r) GM:=fY (b:=1) (by decide) (by decide) (NQ _) (fun x t a=>by kernel_rfl)
noncomputable def HE:TD:=⟨aK aW (.str [124,124]) true,1,3⟩
theorem DZ (r:List Nat):bB (32::124::124::32::r) HE:=uK fun t a h=>⟨(a + 1),(a + 1) + 2,by show _=a + ((1:Nat):Int);omega,by show _=a + ((3:Nat):Int);omega,
 zG [au,w0,w0,au] (ul:=[U t a 32,U t ((a + 1)) (124),U t ((a + 1)) (124),V t (a + 1) [124,124]]) (cl:=[.pv (jU t [47,47] (a + 1)) (.f (.bool false)),.pv (jU t [47,42] (a + 1)) (.f (.bool false))]) (fun x=>by kernel_rfl)
  (mc (aR h 0 rfl (by omega)) (mc (aR h 1 rfl (by omega)) (mc (aR h 1 rfl (by omega)) (mc (Cv h 1 (Ng r) rfl (by omega)) (mn)))))
  (fun k=>mc (st' h 1 47 rfl (by decide) (by omega)) (mc (st' h 1 42 rfl (by decide) (by omega)) (mn)))⟩
noncomputable def qJ:TD:=⟨aK aW (.str [33]) true,0,1⟩
theorem CT (r:List Nat):bB (33::33::r) qJ:=fY (b:=0) (by decide) (by decide) (yO _) (fun x t a=>by kernel_rfl)
theorem Fi (r:List Nat):bB (33::48::r) qJ:=fY (b:=0) (by decide) (by decide) (AF _) (fun x t a=>by kernel_rfl)
theorem gX (r:List Nat):bB (33::102::r) qJ:=fY (b:=0) (by decide) (by decide) (AQ _) (fun x t a=>by kernel_rfl)
theorem kR (r:List Nat):bB (33::110::r) qJ:=fY (b:=0) (by decide) (by decide) (AP _) (fun x t a=>by kernel_rfl)
noncomputable def sJ:TD:=⟨aK aW (.str [33]) true,1,2⟩
theorem Dq (r:List Nat):bB (32::33::33::r) sJ:=fY (b:=1) (by decide) (by decide) (yO _) (fun x t a=>by kernel_rfl)
theorem Ft (r:List Nat):bB (32::33::48::r) sJ:=fY (b:=1) (by decide) (by decide) (AF _) (fun x t a=>by kernel_rfl)
theorem gT (r:List Nat):bB (32::33::102::r) sJ:=fY (b:=1) (by decide) (by decide) (AQ _) (fun x t a=>by kernel_rfl)
theorem kN (r:List Nat):bB (32::33::110::r) sJ:=fY (b:=1) (by decide) (by decide) (AP _) (fun x t a=>by kernel_rfl)
noncomputable def f9:TD:=⟨aK cA (.int 0) true,0,1⟩
theorem DE (r:List Nat):bB (48::32::r) f9:=rF (b:=0) (by decide) (c:=32) (fun x t a=>by kernel_rfl)
theorem Cu (r:List Nat):bB (48::41::r) f9:=rF (b:=0) (by decide) (c:=41) (fun x t a=>by kernel_rfl)
theorem yZ (r:List Nat):bB (48::59::r) f9:=rF (b:=0) (by decide) (c:=59) (fun x t a=>by kernel_rfl)
theorem oX (r:List Nat):bB (48::93::r) f9:=rF (b:=0) (by decide) (c:=93) (fun x t a=>by kernel_rfl)
noncomputable def vU:TD:=⟨aK cA (.int 0) true,1,2⟩
theorem DW (r:List Nat):bB (32::48::32::r) vU:=rF (b:=1) (by decide) (c:=32) (fun x t a=>by kernel_rfl)
theorem DB (r:List Nat):bB (32::48::41::r) vU:=rF (b:=1) (by decide) (c:=41) (fun x t a=>by kernel_rfl)
theorem qZ (r:List Nat):bB (32::48::59::r) vU:=rF (b:=1) (by decide) (c:=59) (fun x t a=>by kernel_rfl)
noncomputable def wB:TD:=⟨aK cA (.int 4607182418800017408) true,0,1⟩
theorem jF (r:List Nat):bB (49::41::r) wB:=K7 (b:=0) (by decide) (c:=41) (fun x t a=>by kernel_rfl)
noncomputable def Ga:TD:=⟨aK cA (.int 4607182418800017408) true,1,2⟩
theorem qP (r:List Nat):bB (32::49::59::r) Ga:=K7 (b:=1) (by decide) (c:=59) (fun x t a=>by kernel_rfl)
noncomputable def gV:TD:=⟨aK kM (.str [97]) true,0,1⟩
theorem FN (r:List Nat):bB (97::32::r) gV:=jJ (b:=0) (c0:=97) (w:=[]) (c:=32) (by decide) (by decide) (fun x t a=>by kernel_rfl) r
theorem lB (r:List Nat):bB (97::40::r) gV:=jJ (b:=0) (c0:=97) (w:=[]) (c:=40) (by decide) (by decide) (fun x t a=>by kernel_rfl) r
theorem oE (r:List Nat):bB (97::41::r) gV:=jJ (b:=0) (c0:=97) (w:=[]) (c:=41) (by decide) (by decide) (fun x t a=>by kernel_rfl) r
theorem BN (r:List Nat):bB (97::43::r) gV:=jJ (b:=0) (c0:=97) (w:=[]) (c:=43) (by decide) (by decide) (fun x t a=>by kernel_rfl) r
theorem tG (r:List Nat):bB (97::59::r) gV:=jJ (b:=0) (c0:=97) (w:=[]) (c:=59) (by decide) (by decide) (fun x t a=>by kernel_rfl) r
noncomputable def PS:TD:=⟨aK kM (.str [97]) true,1,2⟩
theorem Bd (r:List Nat):bB (32::97::59::r) PS:=jJ (b:=1) (c0:=97) (w:=[]) (c:=59) (by decide) (by decide) (fun x t a=>by kernel_rfl) r
noncomputable def B5:TD:=⟨aK kM (.str [98]) true,0,1⟩
theorem wV (r:List Nat):bB (98::40::r) B5:=jJ (b:=0) (c0:=98) (w:=[]) (c:=40) (by decide) (by decide) (fun x t a=>by kernel_rfl) r
theorem xO (r:List Nat):bB (98::41::r) B5:=jJ (b:=0) (c0:=98) (w:=[]) (c:=41) (by decide) (by decide) (fun x t a=>by kernel_rfl) r
noncomputable def AK:TD:=⟨aK kM (.str [99,97,108,108]) true,0,4⟩
theorem y4 (r:List Nat):bB (99::97::108::108::40::r) AK:=jJ (b:=0) (c0:=99) (w:=[97,108,108]) (c:=40) (by decide) (by decide) (fun x t a=>by kernel_rfl) r
noncomputable def oG:TD:=⟨aK kM (.str [102]) true,0,1⟩
theorem eM (r:List Nat):bB (102::40::r) oG:=jJ (b:=0) (c0:=102) (w:=[]) (c:=40) (by decide) (by decide) (fun x t a=>by kernel_rfl) r
noncomputable def LP:TD:=⟨aK kM (.str [102]) true,1,2⟩
theorem FQ (r:List Nat):bB (32::102::40::r) LP:=jJ (b:=1) (c0:=102) (w:=[]) (c:=40) (by decide) (by decide) (fun x t a=>by kernel_rfl) r
noncomputable def e7:TD:=⟨aK aL (.str [102,117,110,99,116,105,111,110]) true,0,8⟩
theorem bH (r:List Nat):bB (102::117::110::99::116::105::111::110::32::r) e7:=jJ (b:=0) (c0:=102) (w:=[117,110,99,116,105,111,110]) (c:=32) (by decide) (by decide) (fun x t a=>by kernel_rfl) r
noncomputable def yY:TD:=⟨aK aL (.str [102,117,110,99,116,105,111,110]) true,1,9⟩
theorem cR (r:List Nat):bB (32::102::117::110::99::116::105::111::110::32::r) yY:=jJ (b:=1) (c0:=102) (w:=[117,110,99,116,105,111,110]) (c:=32) (by decide) (by decide) (fun x t a=>by kernel_rfl) r
noncomputable def Fy:TD:=⟨aK kM (.str [103]) true,1,2⟩
theorem yH (r:List Nat):bB (32::103::40::r) Fy:=jJ (b:=1) (c0:=103) (w:=[]) (c:=40) (by decide) (by decide) (fun x t a=>by kernel_rfl) r
noncomputable def wY:TD:=⟨aK aL (.str [110,101,119]) true,0,3⟩
theorem eY (r:List Nat):bB (110::101::119::32::r) wY:=jJ (b:=0) (c0:=110) (w:=[101,119]) (c:=32) (by decide) (by decide) (fun x t a=>by kernel_rfl) r
noncomputable def Cb:TD:=⟨aK aL (.str [110,101,119]) true,1,4⟩
theorem eW (r:List Nat):bB (32::110::101::119::32::r) Cb:=jJ (b:=1) (c0:=110) (w:=[101,119]) (c:=32) (by decide) (by decide) (fun x t a=>by kernel_rfl) r
noncomputable def zS:TD:=⟨aK aL (.str [116,104,105,115]) true,0,4⟩
theorem wS (r:List Nat):bB (116::104::105::115::44::r) zS:=jJ (b:=0) (c0:=116) (w:=[104,105,115]) (c:=44) (by decide) (by decide) (fun x t a=>by kernel_rfl) r
noncomputable def BS:TD:=⟨aK gO (.str [97]) true,0,3⟩
theorem Qa (r:List Nat):bB (34::97::34::r) BS:=HU (b:=0) (by decide) (w:=[97]) (fun x t a=>by kernel_rfl)
noncomputable def Nh:TD:=⟨aK gO (.str [97]) true,1,4⟩
theorem LU (r:List Nat):bB (32::34::97::34::r) Nh:=HU (b:=1) (by decide) (w:=[97]) (fun x t a=>by kernel_rfl)
noncomputable def lW:TD:=⟨aK gO (.str [117,115,101,32,115,116,114,105,99,116]) true,0,12⟩
theorem kQ (r:List Nat):bB (34::117::115::101::32::115::116::114::105::99::116::34::r) lW:=HU (b:=0) (by decide) (w:=[117,115,101,32,115,116,114,105,99,116]) (fun x t a=>by kernel_rfl)
noncomputable def BA:TD:=⟨aK gO (.str [117,115,101,32,115,116,114,105,99,116]) true,1,13⟩
theorem pD (r:List Nat):bB (32::34::117::115::101::32::115::116::114::105::99::116::34::r) BA:=HU (b:=1) (by decide) (w:=[117,115,101,32,115,116,114,105,99,116]) (fun x t a=>by kernel_rfl)
noncomputable def n8:TD:=⟨aK gO (.str [117,115,101,32,115,116,114,105,99,116]) false,0,15⟩
theorem s9 (r:List Nat):bB (34::117::115::101::92::120::50::48::115::116::114::105::99::116::34::r) n8:=uK fun t a h=>⟨a,a + 1 + 1 + 1 + 1 + 1 + 1 + 2 + 1 + 1 + 1 + 1 + 1 + 1 + 1,by show _=a + ((0:Nat):Int);omega,by show _=a + ((15:Nat):Int);omega,
 zG [w0,w0,au,au,au,au,au,wc 117,au,au,au,au,au,wc 115,au,au,au,au,au,wc 101,au,au,au,au,au,au,au,au,au,wc 115,au,au,au,au,au,wc 116,au,au,au,au,au,wc 114,au,au,au,au,au,wc 105,au,au,au,au,au,wc 99,au,au,au,au,au,wc 116,au,au,au,au,au] (ul:=[U t (a) (34),U t (a) (34),U t (a + 1) (117),U t (a + 1) (117),U t (a + 1 + 1) (115),U t (a + 1 + 1) (115),U t (a + 1 + 1 + 1) (101),U t (a + 1 + 1 + 1) (101),U t (a + 1 + 1 + 1 + 1) (92),U t (a + 1 + 1 + 1 + 1) (92),U t (a + 1 + 1 + 1 + 1 + 1) (120),U t (a + 1 + 1 + 1 + 1 + 1 + 1 + 0) (50),U t (a + 1 + 1 + 1 + 1 + 1 + 1 + 1) (48),U t (a + 1 + 1 + 1 + 1 + 1) (120),U t (a + 1 + 1 + 1 + 1 + 1 + 1 + 2) (115),U t (a + 1 + 1 + 1 + 1 + 1 + 1 + 2) (115),U t (a + 1 + 1 + 1 + 1 + 1 + 1 + 2 + 1) (116),U t (a + 1 + 1 + 1 + 1 + 1 + 1 + 2 + 1) (116),U t (a + 1 + 1 + 1 + 1 + 1 + 1 + 2 + 1 + 1) (114),U t (a + 1 + 1 + 1 + 1 + 1 + 1 + 2 + 1 + 1) (114),U t (a + 1 + 1 + 1 + 1 + 1 + 1 + 2 + 1 + 1 + 1) (105),U t (a + 1 + 1 + 1 + 1 + 1 + 1 + 2 + 1 + 1 + 1) (105),U t (a + 1 + 1 + 1 + 1 + 1 + 1 + 2 + 1 + 1 + 1 + 1) (99),U t (a + 1 + 1 + 1 + 1 + 1 + 1 + 2 + 1 + 1 + 1 + 1) (99),U t (a + 1 + 1 + 1 + 1 + 1 + 1 + 2 + 1 + 1 + 1 + 1 + 1) (116),U t (a + 1 + 1 + 1 + 1 + 1 + 1 + 2 + 1 + 1 + 1 + 1 + 1) (116),U t (a + 1 + 1 + 1 + 1 + 1 + 1 + 2 + 1 + 1 + 1 + 1 + 1 + 1) (34)]) (cl:=[.pv (jU t [47,47] a) (.f (.bool false)),.pv (jU t [47,42] a) (.f (.bool false)),J t (a + 1) 117,J t (a + 1 + 1) 115,J t (a + 1 + 1 + 1) 101,J t (a + 1 + 1 + 1 + 1 + 1 + 1 + 2) 115,J t (a + 1 + 1 + 1 + 1 + 1 + 1 + 2 + 1) 116,J t (a + 1 + 1 + 1 + 1 + 1 + 1 + 2 + 1 + 1) 114,J t (a + 1 + 1 + 1 + 1 + 1 + 1 + 2 + 1 + 1 + 1) 105,J t (a + 1 + 1 + 1 + 1 + 1 + 1 + 2 + 1 + 1 + 1 + 1) 99,J t (a + 1 + 1 + 1 + 1 + 1 + 1 + 2 + 1 + 1 + 1 + 1 + 1) 116]) (fun x=>by kernel_rfl)
  (mc (aR h 0 rfl (by omega)) (mc (aR h 0 rfl (by omega)) (mc (aR h 1 rfl (by omega)) (mc (aR h 1 rfl (by omega)) (mc (aR h 2 rfl (by omega)) (mc (aR h 2 rfl (by omega)) (mc (aR h 3 rfl (by omega)) (mc (aR h 3 rfl (by omega)) (mc (aR h 4 rfl (by omega)) (mc (aR h 4 rfl (by omega)) (mc (aR h 5 rfl (by omega)) (mc (aR h 6 rfl (by omega)) (mc (aR h 7 rfl (by omega)) (mc (aR h 5 rfl (by omega)) (mc (aR h 8 rfl (by omega)) (mc (aR h 8 rfl (by omega)) (mc (aR h 9 rfl (by omega)) (mc (aR h 9 rfl (by omega)) (mc (aR h 10 rfl (by omega)) (mc (aR h 10 rfl (by omega)) (mc (aR h 11 rfl (by omega)) (mc (aR h 11 rfl (by omega)) (mc (aR h 12 rfl (by omega)) (mc (aR h 12 rfl (by omega)) (mc (aR h 13 rfl (by omega)) (mc (aR h 13 rfl (by omega)) (mc (aR h 14 rfl (by omega)) (mn))))))))))))))))))))))))))))
  (fun k=>mc (st' h 0 47 rfl (by decide) (by omega)) (mc (st' h 0 42 rfl (by decide) (by omega)) (mc (eO h 1 rfl (by omega)) (mc (eO h 2 rfl (by omega)) (mc (eO h 3 rfl (by omega)) (mc (eO h 8 rfl (by omega)) (mc (eO h 9 rfl (by omega)) (mc (eO h 10 rfl (by omega)) (mc (eO h 11 rfl (by omega)) (mc (eO h 12 rfl (by omega)) (mc (eO h 13 rfl (by omega)) (mn))))))))))))⟩
noncomputable def GA:TD:=⟨aK gO (.str [117,115,101,32,115,116,114,105,99,116]) false,1,16⟩
theorem xU (r:List Nat):bB (32::34::117::115::101::92::120::50::48::115::116::114::105::99::116::34::r) GA:=uK fun t a h=>⟨(a + 1),(a + 1) + 1 + 1 + 1 + 1 + 1 + 1 + 2 + 1 + 1 + 1 + 1 + 1 + 1 + 1,by show _=a + ((1:Nat):Int);omega,by show _=a + ((16:Nat):Int);omega,
 zG [au,w0,w0,au,au,au,au,au,wc 117,au,au,au,au,au,wc 115,au,au,au,au,au,wc 101,au,au,au,au,au,au,au,au,au,wc 115,au,au,au,au,au,wc 116,au,au,au,au,au,wc 114,au,au,au,au,au,wc 105,au,au,au,au,au,wc 99,au,au,au,au,au,wc 116,au,au,au,au,au] (ul:=[U t a 32,U t ((a + 1)) (34),U t ((a + 1)) (34),U t ((a + 1) + 1) (117),U t ((a + 1) + 1) (117),U t ((a + 1) + 1 + 1) (115),U t ((a + 1) + 1 + 1) (115),U t ((a + 1) + 1 + 1 + 1) (101),U t ((a + 1) + 1 + 1 + 1) (101),U t ((a + 1) + 1 + 1 + 1 + 1) (92),U t ((a + 1) + 1 + 1 + 1 + 1) (92),U t ((a + 1) + 1 + 1 + 1 + 1 + 1) (120),U t ((a + 1) + 1 + 1 + 1 + 1 + 1 + 1 + 0) (50),U t ((a + 1) + 1 + 1 + 1 + 1 + 1 + 1 + 1) (48),U t ((a + 1) + 1 + 1 + 1 + 1 + 1) (120),U t ((a + 1) + 1 + 1 + 1 + 1 + 1 + 1 + 2) (115),U t ((a + 1) + 1 + 1 + 1 + 1 + 1 + 1 + 2) (115),U t ((a + 1) + 1 + 1 + 1 + 1 + 1 + 1 + 2 + 1) (116),U t ((a + 1) + 1 + 1 + 1 + 1 + 1 + 1 + 2 + 1) (116),U t ((a + 1) + 1 + 1 + 1 + 1 + 1 + 1 + 2 + 1 + 1) (114),U t ((a + 1) + 1 + 1 + 1 + 1 + 1 + 1 + 2 + 1 + 1) (114),U t ((a + 1) + 1 + 1 + 1 + 1 + 1 + 1 + 2 + 1 + 1 + 1) (105),U t ((a + 1) + 1 + 1 + 1 + 1 + 1 + 1 + 2 + 1 + 1 + 1) (105),U t ((a + 1) + 1 + 1 + 1 + 1 + 1 + 1 + 2 + 1 + 1 + 1 + 1) (99),U t ((a + 1) + 1 + 1 + 1 + 1 + 1 + 1 + 2 + 1 + 1 + 1 + 1) (99),U t ((a + 1) + 1 + 1 + 1 + 1 + 1 + 1 + 2 + 1 + 1 + 1 + 1 + 1) (116),U t ((a + 1) + 1 + 1 + 1 + 1 + 1 + 1 + 2 + 1 + 1 + 1 + 1 + 1) (116),U t ((a + 1) + 1 + 1 + 1 + 1 + 1 + 1 + 2 + 1 + 1 + 1 + 1 + 1 + 1) (34)]) (cl:=[.pv (jU t [47,47] (a + 1)) (.f (.bool false)),.pv (jU t [47,42] (a + 1)) (.f (.bool false)),J t ((a + 1) + 1) 117,J t ((a + 1) + 1 + 1) 115,J t ((a + 1) + 1 + 1 + 1) 101,J t ((a + 1) + 1 + 1 + 1 + 1 + 1 + 1 + 2) 115,J t ((a + 1) + 1 + 1 + 1 + 1 + 1 + 1 + 2 + 1) 116,J t ((a + 1) + 1 + 1 + 1 + 1 + 1 + 1 + 2 + 1 + 1) 114,J t ((a + 1) + 1 + 1 + 1 + 1 + 1 + 1 + 2 + 1 + 1 + 1) 105,J t ((a + 1) + 1 + 1 + 1 + 1 + 1 + 1 + 2 + 1 + 1 + 1 + 1) 99,J t ((a + 1) + 1 + 1 + 1 + 1 + 1 + 1 + 2 + 1 + 1 + 1 + 1 + 1) 116]) (fun x=>by kernel_rfl)
  (mc (aR h 0 rfl (by omega)) (mc (aR h 1 rfl (by omega)) (mc (aR h 1 rfl (by omega)) (mc (aR h 2 rfl (by omega)) (mc (aR h 2 rfl (by omega)) (mc (aR h 3 rfl (by omega)) (mc (aR h 3 rfl (by omega)) (mc (aR h 4 rfl (by omega)) (mc (aR h 4 rfl (by omega)) (mc (aR h 5 rfl (by omega)) (mc (aR h 5 rfl (by omega)) (mc (aR h 6 rfl (by omega)) (mc (aR h 7 rfl (by omega)) (mc (aR h 8 rfl (by omega)) (mc (aR h 6 rfl (by omega)) (mc (aR h 9 rfl (by omega)) (mc (aR h 9 rfl (by omega)) (mc (aR h 10 rfl (by omega)) (mc (aR h 10 rfl (by omega)) (mc (aR h 11 rfl (by omega)) (mc (aR h 11 rfl (by omega)) (mc (aR h 12 rfl (by omega)) (mc (aR h 12 rfl (by omega)) (mc (aR h 13 rfl (by omega)) (mc (aR h 13 rfl (by omega)) (mc (aR h 14 rfl (by omega)) (mc (aR h 14 rfl (by omega)) (mc (aR h 15 rfl (by omega)) (mn)))))))))))))))))))))))))))))
  (fun k=>mc (st' h 1 47 rfl (by decide) (by omega)) (mc (st' h 1 42 rfl (by decide) (by omega)) (mc (eO h 2 rfl (by omega)) (mc (eO h 3 rfl (by omega)) (mc (eO h 4 rfl (by omega)) (mc (eO h 9 rfl (by omega)) (mc (eO h 10 rfl (by omega)) (mc (eO h 11 rfl (by omega)) (mc (eO h 12 rfl (by omega)) (mc (eO h 13 rfl (by omega)) (mc (eO h 14 rfl (by omega)) (mn))))))))))))⟩
noncomputable def a9:TD:=⟨aK MY (.str []) true,0,0⟩
theorem f7:bB ([]) a9:=uK fun t a h=>⟨a,a,by show _=a + ((0:Nat):Int);omega,by show _=a + ((0:Nat):Int);omega,
 zG [w0,w0,au] (ul:=[U t (a) (-1),U t (a) (-1)]) (cl:=[.pv (jU t [47,47] a) (.f (.bool false)),.pv (jU t [47,42] a) (.f (.bool false))]) (fun x=>by kernel_rfl)
  (mc (z7 h) (mc (z7 h) (mn)))
  (fun k=>mc (Bc h 47 (by decide)) (mc (Bc h 42 (by decide)) (mn)))⟩
end Mine
end
section
namespace Mine
noncomputable def j0:FV:=.obj 945 [(Str.ofString "labels",.lst []),(Str.ofString "loops",.int 0),(Str.ofString "switches",.int 0)]
noncomputable def pf (tok later:FV) (s:Bool) (d x:Int):LF:=[(Str.ofString "lexer",.ref 1),(Str.ofString "token",.f tok),(Str.ofString "later",.f later),(Str.ofString "is_strict",.f (.bool s)),(Str.ofString "depth",.f (.int d)),(Str.ofString "nested",.f (.int x)),(Str.ofString "jumps",.f j0),(Str.ofString "pending",.f (.lst []))]
noncomputable def gP (tok later:FV) (s:Bool) (d x:Int) (t:List Nat) (a:Int):List MO:=[.inst 1469 (pf tok later s d x),.inst 843 (lf t a)]
noncomputable def nd (kind:List Nat) (ps:List FV):FV:=.obj 31 [(Str.ofString "kind",.str kind),(Str.ofString "line",.int 1),(Str.ofString "parts",.lst ps),(Str.ofString "scope",.none)]
noncomputable def cC (d:TD) (a:Int):FV:=d.tok (a + (d.b:Nat)) (a + (d.n:Nat))
noncomputable def bI (a:Int):List TD→Int
 | []=>a
 | d::ds=>bI (a + (d.n:Nat)) ds
noncomputable def fB (t:List Nat) (a:Int):List TD→List (LF × FV × LF)
 | []=>[]
 | d::ds=>(lf t a,cC d a,lf t (a + (d.n:Nat)))::fB t (a + (d.n:Nat)) ds
noncomputable def qW (t:List Nat) (a:Int):List TD→List (FV × LF)
 | []=>[]
 | d::ds=>(cC d a,lf t (a + (d.n:Nat)))::qW t (a + (d.n:Nat)) ds
noncomputable def lv (x:Int):Nat→Int
 | 0=>x
 | n + 1=>lv x n + 1
noncomputable def A6 (x:Int):Nat→List Bool→List PA
 | _,[]=>[]
 | j,true::r=>.auto::.b false::A6 x (j + 1) r
 | j,false::r=>.v (.f (.int (lv x (j - 1))))::A6 x (j - 1) r
noncomputable def J7 (y:Int):St→Option PV:=fun _=>((Ar .Sub (.int y) (.int 1))).bind fun z=>some (.f z)
noncomputable def mP (y:Int):Option Bool:=(cO .Gt (.f (.int y)) (.f (.int 40)))
noncomputable def yW (x:Int):Nat→List Bool→List Lg
 | _,[]=>[]
 | j,true::r=>.pb (mP (lv x (j + 1))) false::yW x (j + 1) r
 | j,false::r=>.pv (J7 (lv x j)) (.f (.int (lv x (j - 1))))::yW x (j - 1) r
noncomputable def xH (M:Nat):Nat→List Bool→Bool
 | _,[]=>true
 | j,true::r=>Nat.blt j M&&xH M (j + 1) r
 | j,false::r=>Nat.blt 0 j&&xH M (j - 1) r
theorem BZ (x:Int):∀ n,lv x n=x + (n:Nat)
 | 0=>by simp[lv]
 | n + 1=>by rw[lv,BZ x n];omega
theorem xE {y:Int} (h:y ≤ 40):mP y=some false:=by
 show(some (decide ((40:Int) < y)))=_
 rw[decide_eq_false (by omega)]
theorem zX {y:Int} (h:40 < y):mP y=some true:=by
 show(some (decide ((40:Int) < y)))=_
 rw[decide_eq_true h]
theorem Dg {y z:Int} (h:y=z + 1):∀ st,J7 y st=some (.f (.int z)):=by
 intro st
 show some (PV.f (.int (y - 1)))=_
 rw[show y - 1=z by omega]
theorem qE (P:FP) (k:Nat) (x:Int) (M:Nat) (h:x + (M:Nat) ≤ 40):∀ j l,xH M j l=true→∀ e ∈ yW x j l,P.Holds k e
 | _,[],_=>mn
 | j,true::r,e=>by
  obtain⟨e1,e2⟩:=Bool.and_eq_true_iff.1 e
  have:j < M:=Nat.le_of_ble_eq_true e1
  exact mc (xE (by rw[BZ];omega)) (qE P k x M h (j + 1) r e2)
 | 0,false::r,e=>by cases e
 | j + 1,false::r,e=>by
  obtain⟨e1,e2⟩:=Bool.and_eq_true_iff.1 e
  exact mc (Dg rfl) (qE P k x M h j r e2)
noncomputable def Pp:FP:={ P0 with pz:=[1040,1047],pu:=[899,857,864,878] }
noncomputable def iA (f n:Nat) (bZ:FV) (ds:List TD) (X:FV) (s:Bool) (x:Int):Prop:=∀ t a E,(∀ e ∈ fB t a (ds++[E]),P0.NX e)→∀ k,run TT 5000 (k + n) f [.ref 0] (gP bZ .none s 0 x t a)=.ok (.f X,gP (cC E (bI a ds)) .none s 0 x t (bI a (ds++[E])))
noncomputable def b9 (f n:Nat) (bZ:FV) (ds:List TD) (E:TD) (X:FV) (s:Bool) (x:Int):Prop:=∀ t a,(∀ e ∈ fB t a (ds++[E]),P0.NX e)→∀ k,run TT 5000 (k + n) f [.ref 0] (gP bZ .none s 0 x t a)=.ok (.f X,gP (cC E (bI a ds)) .none s 0 x t (bI a (ds++[E])))
noncomputable def bK (f n:Nat) (bZ:FV) (ds:List TD) (s:Bool) (x:Int):Prop:=∀ t a,(∀ e ∈ fB t a ds,P0.NX e)→∀ k,run TT 5000 (k + n) f [.ref 0] (gP bZ .none s 0 x t a)=.raise
theorem eS {f:Nat}{bZ:FV}{ds:List TD}{X:FV}{s:Bool}{x:Int} (M:Nat) (hM:x + (M:Nat) ≤ 40) (io:List Bool) (ul:List PU) (h1:xH M 0 io=true) (hu:∀ e ∈ ul,P0.PR e)
  (h:∀ t a E,dE Pp 70 f [.ref 0] (gP bZ .none s 0 x t a) (qW t a (ds++[E])) ul [] (A6 x 0 io)=some (.ok (.f X,gP (cC E (bI a ds)) .none s 0 x t (bI a (ds++[E]))),fB t a (ds++[E]),ul,yW x 0 io)):iA f 70 bZ ds X s x :=
 fun t a E hq k=>aI (h t a E) k hq hu (qE Pp k x M hM 0 io h1)
theorem lA {f:Nat}{bZ:FV}{ds:List TD}{s:Bool}{x:Int} (M:Nat) (hM:x + ((M + 1:Nat):Nat)=41) (io:List Bool) (ul:List PU) (h1:xH M 0 io=true) (hu:∀ e ∈ ul,P0.PR e)
  (h:∀ t a,dE Pp 70 f [.ref 0] (gP bZ .none s 0 x t a) (qW t a ds) ul [] (A6 x 0 io++[.auto,.b true])=some (.raise,fB t a ds,ul,yW x 0 io++[.pb (mP (lv x (M + 1))) true])):bK f 70 bZ ds s x :=
 fun t a hq k=>aI (h t a) k hq hu (fun e he=>by
  rcases List.mem_append.1 he with he | he
  ·exact qE Pp k x M (by omega) 0 io h1 e he
  ·cases he with
   | head=>exact zX (by rw[BZ];omega)
   | tail _ h=>cases h)
theorem bF (s:Bool):P0.PR (899,[.f (.bool false),.f (.bool s)],.f .none):=by
 cases s<;>exact dU [] _ _ _ [] [] (fun d=>by kernel_rfl) (fun d=>by kernel_rfl) (fun d=>by kernel_rfl) (fun d=>by kernel_rfl) (fun k=>mn)
theorem hG (s:Bool):P0.PR (857,[.f (.str [102]),.f (.bool s)],.f .none):=by
 cases s<;>exact dU [] _ _ _ [] [] (fun d=>by kernel_rfl) (fun d=>by kernel_rfl) (fun d=>by kernel_rfl) (fun d=>by kernel_rfl) (fun k=>mn)
theorem D0 (s:Bool):P0.PR (857,[.f (.str [97]),.f (.bool s)],.f .none):=by
 cases s<;>exact dU [] _ _ _ [] [] (fun d=>by kernel_rfl) (fun d=>by kernel_rfl) (fun d=>by kernel_rfl) (fun d=>by kernel_rfl) (fun k=>mn)
theorem uY (s:Bool):P0.PR (864,[.f (.str [102]),.f (.bool s)],.f .none):=by
 cases s<;>exact dU [] _ _ _ [] [] (fun d=>by kernel_rfl) (fun d=>by kernel_rfl) (fun d=>by kernel_rfl) (fun d=>by kernel_rfl) (fun k=>mn)
theorem uZ (s:Bool):P0.PR (864,[.f (.str [103]),.f (.bool s)],.f .none):=by
 cases s<;>exact dU [] _ _ _ [] [] (fun d=>by kernel_rfl) (fun d=>by kernel_rfl) (fun d=>by kernel_rfl) (fun d=>by kernel_rfl) (fun k=>mn)
theorem dG (s:Bool):P0.PR (878,[.f .none,.f (.lst []),.f (.bool s)],.f .none):=by
 cases s<;>exact dU [] _ _ _ [] [] (fun d=>by kernel_rfl) (fun d=>by kernel_rfl) (fun d=>by kernel_rfl) (fun d=>by kernel_rfl) (fun k=>mn)
theorem xF (s:Bool):P0.PR (878,[.f (.str [102]),.f (.lst []),.f (.bool s)],.f .none):=by
 cases s<;>exact dU [] _ _ _ [] [] (fun d=>by kernel_rfl) (fun d=>by kernel_rfl) (fun d=>by kernel_rfl) (fun d=>by kernel_rfl) (fun k=>mn)
theorem F8 (s:Bool):P0.PR (878,[.f (.str [103]),.f (.lst []),.f (.bool s)],.f .none):=by
 cases s<;>exact dU [] _ _ _ [] [] (fun d=>by kernel_rfl) (fun d=>by kernel_rfl) (fun d=>by kernel_rfl) (fun d=>by kernel_rfl) (fun k=>mn)
end Mine
end
section
namespace Mine
noncomputable def X0 (s:Bool):FV:=nd [78,117,109] [.int 0]
noncomputable def OF:List TD:=[]
theorem Qu (s:Bool) (s0 e0 x:Int) (hx:x + ((0:Nat):Int) ≤ 40):iA 1207 70 (aK cA (.int 0) true s0 e0) OF (X0 s) s x :=
 eS 0 hx [] [(899,[.f (.bool false),.f (.bool s)],.f .none)] rfl (mc (bF s) (mn)) fun t a E=>by kernel_rfl
noncomputable def X1 (s:Bool):FV:=nd [70,117,110,99,116,105,111,110] [.none,.lst [],.lst [nd [69,120,112,114] [nd [83,116,114] [.str [117,115,101,32,115,116,114,105,99,116]]]],.bool s,.str [101,120,112,114]]
noncomputable def GQ:List TD:=[cK,aU,eP,n8,bR,dO]
theorem Rj (s:Bool) (s0 e0 x:Int) (hx:x + ((3:Nat):Int) ≤ 40):iA 1207 70 (aK aL (.str [102,117,110,99,116,105,111,110]) true s0 e0) GQ (X1 s) s x :=
 eS 3 hx [true,true,true,false,false,false] [(899,[.f (.bool false),.f (.bool s)],.f .none),(878,[.f .none,.f (.lst []),.f (.bool s)],.f .none)] rfl (mc (bF s) (mc (dG s) (mn))) fun t a E=>by kernel_rfl
noncomputable def O9:List TD:=[cK,aU,eP,n8]
theorem RB (s:Bool) (s0 e0 x:Int) (hx:x + ((3:Nat):Int)=41):bK 1207 70 (aK aL (.str [102,117,110,99,116,105,111,110]) true s0 e0) O9 s x :=
 lA 2 hx [true,true] [] rfl (mn) fun t a=>by kernel_rfl
noncomputable def X2 (s:Bool):FV:=nd [70,117,110,99,116,105,111,110] [.none,.lst [],.lst [nd [69,120,112,114] [nd [83,116,114] [.str [117,115,101,32,115,116,114,105,99,116]]],nd [69,120,112,114] [nd [83,116,114] [.str [117,115,101,32,115,116,114,105,99,116]]]],.bool s,.str [101,120,112,114]]
noncomputable def HM:List TD:=[cK,aU,eP,bX,lW,aU,bR,BA,bR,dO]
theorem Rw (s:Bool) (s0 e0 x:Int) (hx:x + ((4:Nat):Int) ≤ 40):iA 1207 70 (aK aL (.str [102,117,110,99,116,105,111,110]) true s0 e0) HM (X2 s) s x :=
 eS 4 hx [true,true,true,true,false,false,false,true,true,false,false,false] [(899,[.f (.bool false),.f (.bool s)],.f .none),(899,[.f (.bool false),.f (.bool s)],.f .none),(878,[.f .none,.f (.lst []),.f (.bool s)],.f .none)] rfl (mc (bF s) (mc (bF s) (mc (dG s) (mn)))) fun t a E=>by kernel_rfl
noncomputable def O0:List TD:=[cK,aU,eP,bX,lW]
theorem Ri (s:Bool) (s0 e0 x:Int) (hx:x + ((4:Nat):Int)=41):bK 1207 70 (aK aL (.str [102,117,110,99,116,105,111,110]) true s0 e0) O0 s x :=
 lA 3 hx [true,true,true] [] rfl (mn) fun t a=>by kernel_rfl
noncomputable def X3 (s:Bool):FV:=nd [70,117,110,99,116,105,111,110] [.str [103],.lst [],.lst [nd [69,120,112,114] [nd [66,105,110,97,114,121] [.str [43],nd [79,98,106,101,99,116] [.lst []],nd [78,117,109] [.int 4607182418800017408]]]],.bool s,.str [101,120,112,114]]
noncomputable def GR:List TD:=[Fy,bX,aU,eP,bX,jZ,dO,aU,t3,Ga,bR,dO]
theorem Q7 (s:Bool) (s0 e0 x:Int) (hx:x + ((4:Nat):Int) ≤ 40):iA 1207 70 (aK aL (.str [102,117,110,99,116,105,111,110]) true s0 e0) GR (X3 s) s x :=
 eS 4 hx [true,true,true,true,false,false,false,false] [(864,[.f (.str [103]),.f (.bool s)],.f .none),(899,[.f (.bool false),.f (.bool s)],.f .none),(878,[.f (.str [103]),.f (.lst []),.f (.bool s)],.f .none)] rfl (mc (uZ s) (mc (bF s) (mc (F8 s) (mn)))) fun t a E=>by kernel_rfl
noncomputable def OC:List TD:=[Fy,bX,aU,eP,bX,jZ]
theorem QO (s:Bool) (s0 e0 x:Int) (hx:x + ((4:Nat):Int)=41):bK 1207 70 (aK aL (.str [102,117,110,99,116,105,111,110]) true s0 e0) OC s x :=
 lA 3 hx [true,true,true] [(864,[.f (.str [103]),.f (.bool s)],.f .none)] rfl (mc (uZ s) (mn)) fun t a=>by kernel_rfl
noncomputable def X4 (s:Bool):FV:=nd [78,101,119] [nd [77,101,109,98,101,114] [nd [67,97,108,108] [nd [78,97,109,101] [.str [102]],.lst []],.str [97]],.lst [nd [78,117,109] [.int 4607182418800017408]]]
noncomputable def Gf:List TD:=[cK,oG,bX,aU,eJ,gV,aU,bX,wB,aU]
theorem Qh (s:Bool) (s0 e0 x:Int) (hx:x + ((2:Nat):Int) ≤ 40):iA 1193 70 (aK aL (.str [110,101,119]) true s0 e0) Gf (X4 s) s x :=
 eS 2 hx [true,true,false,false,true,false] [(857,[.f (.str [102]),.f (.bool s)],.f .none),(899,[.f (.bool false),.f (.bool s)],.f .none)] rfl (mc (hG s) (mc (bF s) (mn))) fun t a E=>by kernel_rfl
noncomputable def Oa:List TD:=[cK,oG]
theorem Qy (s:Bool) (s0 e0 x:Int) (hx:x + ((2:Nat):Int)=41):bK 1193 70 (aK aL (.str [110,101,119]) true s0 e0) Oa s x :=
 lA 1 hx [true] [] rfl (mn) fun t a=>by kernel_rfl
noncomputable def X5 (s:Bool):FV:=nd [78,101,119] [nd [77,101,109,98,101,114] [nd [78,101,119] [nd [77,101,109,98,101,114] [nd [67,97,108,108] [nd [78,97,109,101] [.str [102]],.lst []],.str [97]],.lst []],.str [98]],.lst []]
noncomputable def G8:List TD:=[cK,wY,cK,oG,bX,aU,eJ,gV,aU,bX,aU,eJ,B5,aU,bX,aU]
theorem QX (s:Bool) (s0 e0 x:Int) (hx:x + ((4:Nat):Int) ≤ 40):iA 1193 70 (aK aL (.str [110,101,119]) true s0 e0) G8 (X5 s) s x :=
 eS 4 hx [true,true,true,true,false,false,false,false] [(857,[.f (.str [102]),.f (.bool s)],.f .none)] rfl (mc (hG s) (mn)) fun t a E=>by kernel_rfl
noncomputable def OE:List TD:=[cK,wY,cK,oG]
theorem QV (s:Bool) (s0 e0 x:Int) (hx:x + ((4:Nat):Int)=41):bK 1193 70 (aK aL (.str [110,101,119]) true s0 e0) OE s x :=
 lA 3 hx [true,true,true] [] rfl (mn) fun t a=>by kernel_rfl
noncomputable def X6 (s:Bool):FV:=nd [70,117,110,99,116,105,111,110] [.none,.lst [],.lst [nd [69,120,112,114] [nd [77,101,109,98,101,114] [nd [70,117,110,99,116,105,111,110] [.none,.lst [],.lst [],.bool s,.str [101,120,112,114]],.str [97]]]],.bool s,.str [101,120,112,114]]
noncomputable def G0:List TD:=[cK,aU,eP,bX,e7,cK,aU,eP,dO,aU,eJ,gV,bR,dO]
theorem Qr (s:Bool) (s0 e0 x:Int) (hx:x + ((5:Nat):Int) ≤ 40):iA 1207 70 (aK aL (.str [102,117,110,99,116,105,111,110]) true s0 e0) G0 (X6 s) s x :=
 eS 5 hx [true,true,true,true,true,false,false,false,false,false] [(878,[.f .none,.f (.lst []),.f (.bool s)],.f .none),(878,[.f .none,.f (.lst []),.f (.bool s)],.f .none)] rfl (mc (dG s) (mc (dG s) (mn))) fun t a E=>by kernel_rfl
noncomputable def Om:List TD:=[cK,aU,eP,bX,e7,cK]
theorem RD (s:Bool) (s0 e0 x:Int) (hx:x + ((5:Nat):Int)=41):bK 1207 70 (aK aL (.str [102,117,110,99,116,105,111,110]) true s0 e0) Om s x :=
 lA 4 hx [true,true,true,true] [] rfl (mn) fun t a=>by kernel_rfl
noncomputable def X7 (s:Bool):FV:=nd [78,101,119] [nd [73,110,100,101,120] [nd [67,97,108,108] [nd [78,97,109,101] [.str [102]],.lst []],nd [65,114,114,97,121] [.lst [nd [78,117,109] [.int 0]]]],.lst []]
noncomputable def G2:List TD:=[cK,oG,bX,aU,aU,qI,qI,f9,sD,sD,bX,aU]
theorem RE (s:Bool) (s0 e0 x:Int) (hx:x + ((3:Nat):Int) ≤ 40):iA 1193 70 (aK aL (.str [110,101,119]) true s0 e0) G2 (X7 s) s x :=
 eS 3 hx [true,true,false,true,true,false,false,false] [(857,[.f (.str [102]),.f (.bool s)],.f .none),(899,[.f (.bool false),.f (.bool s)],.f .none)] rfl (mc (hG s) (mc (bF s) (mn))) fun t a E=>by kernel_rfl
noncomputable def O7:List TD:=[cK,oG,bX,aU,aU,qI,qI,f9]
theorem RT (s:Bool) (s0 e0 x:Int) (hx:x + ((3:Nat):Int)=41):bK 1193 70 (aK aL (.str [110,101,119]) true s0 e0) O7 s x :=
 lA 2 hx [true,true,false,true] [(857,[.f (.str [102]),.f (.bool s)],.f .none)] rfl (mc (hG s) (mn)) fun t a=>by kernel_rfl
noncomputable def X8 (s:Bool):FV:=nd [70,117,110,99,116,105,111,110] [.none,.lst [],.lst [nd [69,120,112,114] [nd [83,116,114] [.str [117,115,101,32,115,116,114,105,99,116]]]],.bool true,.str [101,120,112,114]]
noncomputable def Gp:List TD:=[cK,aU,eP,lW,bR,dO]
theorem QL (s:Bool) (s0 e0 x:Int) (hx:x + ((3:Nat):Int) ≤ 40):iA 1207 70 (aK aL (.str [102,117,110,99,116,105,111,110]) true s0 e0) Gp (X8 s) s x :=
 eS 3 hx [true,true,true,false,false,false] [(899,[.f (.bool false),.f (.bool s)],.f .none),(899,[.f (.bool false),.f (.bool true)],.f .none),(878,[.f .none,.f (.lst []),.f (.bool true)],.f .none)] rfl (mc (bF s) (mc (bF true) (mc (dG true) (mn)))) fun t a E=>by kernel_rfl
noncomputable def X9 (s:Bool):FV:=nd [70,117,110,99,116,105,111,110] [.none,.lst [],.lst [nd [69,120,112,114] [nd [83,116,114] [.str [117,115,101,32,115,116,114,105,99,116]]],nd [69,120,112,114] [nd [83,116,114] [.str [117,115,101,32,115,116,114,105,99,116]]]],.bool s,.str [101,120,112,114]]
noncomputable def GH:List TD:=[cK,aU,eP,n8,bR,GA,bR,dO]
theorem Q5 (s:Bool) (s0 e0 x:Int) (hx:x + ((3:Nat):Int) ≤ 40):iA 1207 70 (aK aL (.str [102,117,110,99,116,105,111,110]) true s0 e0) GH (X9 s) s x :=
 eS 3 hx [true,true,true,false,false,true,true,false,false,false] [(899,[.f (.bool false),.f (.bool s)],.f .none),(899,[.f (.bool false),.f (.bool s)],.f .none),(878,[.f .none,.f (.lst []),.f (.bool s)],.f .none)] rfl (mc (bF s) (mc (bF s) (mc (dG s) (mn)))) fun t a E=>by kernel_rfl
noncomputable def OK (s:Bool):FV:=nd [70,117,110,99,116,105,111,110] [.none,.lst [],.lst [nd [69,120,112,114] [nd [83,116,114] [.str [117,115,101,32,115,116,114,105,99,116]]],nd [69,120,112,114] [nd [83,116,114] [.str [117,115,101,32,115,116,114,105,99,116]]]],.bool true,.str [101,120,112,114]]
noncomputable def Av:List TD:=[cK,aU,eP,lW,bR,BA,bR,dO]
theorem Pk (s:Bool) (s0 e0 x:Int) (hx:x + ((3:Nat):Int) ≤ 40):iA 1207 70 (aK aL (.str [102,117,110,99,116,105,111,110]) true s0 e0) Av (OK s) s x :=
 eS 3 hx [true,true,true,false,false,true,true,false,false,false] [(899,[.f (.bool false),.f (.bool s)],.f .none),(899,[.f (.bool false),.f (.bool true)],.f .none),(899,[.f (.bool false),.f (.bool true)],.f .none),(899,[.f (.bool false),.f (.bool true)],.f .none),(878,[.f .none,.f (.lst []),.f (.bool true)],.f .none)] rfl (mc (bF s) (mc (bF true) (mc (bF true) (mc (bF true) (mc (dG true) (mn)))))) fun t a E=>by kernel_rfl
noncomputable def O6 (s:Bool):FV:=nd [78,101,119] [nd [77,101,109,98,101,114] [nd [67,97,108,108] [nd [78,97,109,101] [.str [102]],.lst []],.str [97]],.lst [nd [78,117,109] [.int 4607182418800017408]]]
noncomputable def BW:List TD:=[cK,oG,bX,aU,aU,eJ,gV,bX,wB,aU]
theorem PZ (s:Bool) (s0 e0 x:Int) (hx:x + ((2:Nat):Int) ≤ 40):iA 1193 70 (aK aL (.str [110,101,119]) true s0 e0) BW (O6 s) s x :=
 eS 2 hx [true,true,false,false,true,false] [(857,[.f (.str [102]),.f (.bool s)],.f .none),(899,[.f (.bool false),.f (.bool s)],.f .none)] rfl (mc (hG s) (mc (bF s) (mn))) fun t a E=>by kernel_rfl
noncomputable def ON (s:Bool):FV:=nd [78,101,119] [nd [77,101,109,98,101,114] [nd [78,101,119] [nd [77,101,109,98,101,114] [nd [67,97,108,108] [nd [78,97,109,101] [.str [102]],.lst []],.str [97]],.lst []],.str [98]],.lst []]
noncomputable def Bf:List TD:=[Cb,cK,oG,bX,aU,aU,eJ,gV,bX,aU,eJ,B5,bX,aU]
theorem PI (s:Bool) (s0 e0 x:Int) (hx:x + ((3:Nat):Int) ≤ 40):iA 1193 70 (aK aL (.str [110,101,119]) true s0 e0) Bf (ON s) s x :=
 eS 3 hx [true,true,true,false,false,false] [(857,[.f (.str [102]),.f (.bool s)],.f .none)] rfl (mc (hG s) (mn)) fun t a E=>by kernel_rfl
end Mine
end
section
namespace Mine
inductive Et where
 | semi | rp | rb | col
noncomputable def Et.td:Et→TD
 | .semi=>bR
 | .rp=>aU
 | .rb=>sD
 | .col=>w4
theorem Lz (E:Et) {ds:List TD}{X:FV}{s:Bool}{x s0 e0:Int} (h:iA 1207 70 (aK cA (.int 0) true s0 e0) ds X s x):b9 1158 73 (aK cA (.int 0) true s0 e0) ds E.td X s x:=fun t a hq k =>
 aI (P:=Pp) (n:=73) (q:=[]) (pu:=[]) (nl:=[]) (ul:=[]) (cuts:=[(1207,[.val (.ok (.f X,gP (cC E.td (bI a ds)) .none s 0 x t (bI a (ds++[E.td]))))])]) (ps:=[])
  (cl:=[.call 70 1207 [.ref 0] (gP (aK cA (.int 0) true s0 e0) .none s 0 x t a) (.ok (.f X,gP (cC E.td (bI a ds)) .none s 0 x t (bI a (ds++[E.td]))))]) (by cases E<;>kernel_rfl) k mn mn (mc (h t a E.td hq k) mn)
theorem RM {ds:List TD}{s:Bool}{x s0 e0:Int} (h:bK 1207 70 (aK cA (.int 0) true s0 e0) ds s x):bK 1158 73 (aK cA (.int 0) true s0 e0) ds s x:=fun t a hq k =>
 aI (P:=Pp) (n:=73) (q:=[]) (pu:=[]) (cuts:=[(1207,[.val .raise])]) (ps:=[])
  (cl:=[.call 70 1207 [.ref 0] (gP (aK cA (.int 0) true s0 e0) .none s 0 x t a) .raise]) (by kernel_rfl) k mn mn (mc (h t a hq k) mn)
theorem nN (E:Et) {ds:List TD}{X:FV}{s:Bool}{x s0 e0:Int} (h:iA 1207 70 (aK aL (.str [102,117,110,99,116,105,111,110]) true s0 e0) ds X s x):b9 1158 73 (aK aL (.str [102,117,110,99,116,105,111,110]) true s0 e0) ds E.td X s x:=fun t a hq k =>
 aI (P:=Pp) (n:=73) (q:=[]) (pu:=[]) (nl:=[]) (ul:=[]) (cuts:=[(1207,[.val (.ok (.f X,gP (cC E.td (bI a ds)) .none s 0 x t (bI a (ds++[E.td]))))])]) (ps:=[])
  (cl:=[.call 70 1207 [.ref 0] (gP (aK aL (.str [102,117,110,99,116,105,111,110]) true s0 e0) .none s 0 x t a) (.ok (.f X,gP (cC E.td (bI a ds)) .none s 0 x t (bI a (ds++[E.td]))))]) (by cases E<;>kernel_rfl) k mn mn (mc (h t a E.td hq k) mn)
theorem tH {ds:List TD}{s:Bool}{x s0 e0:Int} (h:bK 1207 70 (aK aL (.str [102,117,110,99,116,105,111,110]) true s0 e0) ds s x):bK 1158 73 (aK aL (.str [102,117,110,99,116,105,111,110]) true s0 e0) ds s x:=fun t a hq k =>
 aI (P:=Pp) (n:=73) (q:=[]) (pu:=[]) (cuts:=[(1207,[.val .raise])]) (ps:=[])
  (cl:=[.call 70 1207 [.ref 0] (gP (aK aL (.str [102,117,110,99,116,105,111,110]) true s0 e0) .none s 0 x t a) .raise]) (by kernel_rfl) k mn mn (mc (h t a hq k) mn)
theorem sQ (E:Et) {ds:List TD}{X:FV}{s:Bool}{x s0 e0:Int} (h:iA 1193 70 (aK aL (.str [110,101,119]) true s0 e0) ds X s x):b9 1158 73 (aK aL (.str [110,101,119]) true s0 e0) ds E.td X s x:=fun t a hq k =>
 aI (P:=Pp) (n:=73) (q:=[]) (pu:=[]) (nl:=[]) (ul:=[]) (cuts:=[(1193,[.val (.ok (.f X,gP (cC E.td (bI a ds)) .none s 0 x t (bI a (ds++[E.td]))))])]) (ps:=[])
  (cl:=[.call 70 1193 [.ref 0] (gP (aK aL (.str [110,101,119]) true s0 e0) .none s 0 x t a) (.ok (.f X,gP (cC E.td (bI a ds)) .none s 0 x t (bI a (ds++[E.td]))))]) (by cases E<;>kernel_rfl) k mn mn (mc (h t a E.td hq k) mn)
theorem yU {ds:List TD}{s:Bool}{x s0 e0:Int} (h:bK 1193 70 (aK aL (.str [110,101,119]) true s0 e0) ds s x):bK 1158 73 (aK aL (.str [110,101,119]) true s0 e0) ds s x:=fun t a hq k =>
 aI (P:=Pp) (n:=73) (q:=[]) (pu:=[]) (cuts:=[(1193,[.val .raise])]) (ps:=[])
  (cl:=[.call 70 1193 [.ref 0] (gP (aK aL (.str [110,101,119]) true s0 e0) .none s 0 x t a) .raise]) (by kernel_rfl) k mn mn (mc (h t a hq k) mn)
abbrev KT (s0 e0:Int):FV:=aK aW (.str [33]) true s0 e0
noncomputable def tA (X:FV):FV:=nd [85,110,97,114,121] [.str [33],X]
theorem iZ (t:List Nat):∀ (a:Int) (d1 d2:List TD),fB t a (d1++d2)=fB t a d1++fB t (bI a d1) d2
 | _,[],_=>rfl
 | a,d::d1,d2=>by show _::fB t _ (d1++d2)=_;rw[iZ t _ d1 d2];rfl
theorem hO:∀ (a:Int) (d1 d2:List TD),bI a (d1++d2)=bI (bI a d1) d2
 | _,[],_=>rfl
 | a,d::d1,d2=>hO _ d1 d2
theorem IZ {j:Nat}{d1:TD}{ds:List TD}{E:TD}{X:FV}{s:Bool}{x:Int} (hx:x + 1 ≤ 40) (H:∀ s0 e0,b9 1158 (j + 60) (d1.tok s0 e0) ds E X s (x + 1)) (s0 e0:Int):b9 1158 (j + 62) (KT s0 e0) (d1::ds) E (tA X) s x:=fun t a hq k =>
 aI (P:=Pp) (n:=j + 62) (q:=qW t a [d1]) (pu:=[]) (cuts:=[(1158,[.val (.ok (.f X,gP (cC E (bI a (d1::ds))) .none s 0 (x + 1) t (bI a (d1::ds++[E]))))])]) (ps:=[.auto,.b false,.v (.f (.int x))])
  (nl:=fB t a [d1]) (cl:=[.pb (mP (x + 1)) false,.call (j + 60) 1158 [.ref 0] (gP (cC d1 a) .none s 0 (x + 1) t (a + (d1.n:Nat))) (.ok (.f X,gP (cC E (bI a (d1::ds))) .none s 0 (x + 1) t (bI a (d1::ds++[E])))),.pv (J7 (x + 1)) (.f (.int x))]) (by kernel_rfl) k
  (mc (hq _ (.head _)) mn) mn (mc (xE hx) (mc (H _ _ t _ (fun e he=>hq e (.tail _ he)) k) (mc (Dg rfl) mn)))
theorem tM {j:Nat}{d1:TD}{ds:List TD}{s:Bool}{x:Int} (hx:x + 1 ≤ 40) (H:∀ s0 e0,bK 1158 (j + 60) (d1.tok s0 e0) ds s (x + 1)) (s0 e0:Int):bK 1158 (j + 62) (KT s0 e0) (d1::ds) s x:=fun t a hq k =>
 aI (P:=Pp) (n:=j + 62) (q:=qW t a [d1]) (pu:=[]) (cuts:=[(1158,[.val .raise])]) (ps:=[.auto,.b false])
  (nl:=fB t a [d1]) (cl:=[.pb (mP (x + 1)) false,.call (j + 60) 1158 [.ref 0] (gP (cC d1 a) .none s 0 (x + 1) t (a + (d1.n:Nat))) .raise]) (by kernel_rfl) k
  (mc (hq _ (.head _)) mn) mn (mc (xE hx) (mc (H _ _ t _ (fun e he=>hq e (.tail _ he)) k) mn))
theorem JI {j:Nat}{s:Bool}{x:Int} (hx:x=40) (s0 e0:Int):bK 1158 (j + 62) (KT s0 e0) [f9] s x:=fun t a hq k =>
 aI (P:=Pp) (n:=j + 62) (q:=qW t a [f9]) (pu:=[]) (cuts:=[]) (ps:=[.auto,.b true])
  (nl:=fB t a [f9]) (cl:=[.pb (mP (x + 1)) true]) (by kernel_rfl) k
  hq mn (mc (zX (by omega)) mn)
noncomputable def gJ (d0:TD) (ds:List TD):Nat→TD × List TD
 | 0=>(d0,ds)
 | k + 1=>(qJ,(gJ d0 ds k).1::(gJ d0 ds k).2)
noncomputable def fQ (X:FV):Nat→FV
 | 0=>X
 | k + 1=>tA (fQ X k)
theorem yI {d0:TD}{ds:List TD}{E:TD}{X:FV}{s:Bool}:∀ (c:Nat) (x:Int),x + (c:Nat) ≤ 40→(∀ s0 e0,b9 1158 73 (d0.tok s0 e0) ds E X s (x + (c:Nat)))→∀ s0 e0,b9 1158 (73 + 2 * c) ((gJ d0 ds c).1.tok s0 e0) (gJ d0 ds c).2 E (fQ X c) s x
 | 0,x,_,h,s0,e0=>by have:=h s0 e0;rw[show x + ((0:Nat):Int)=x by omega]at this;exact this
 | c + 1,x,hx,h,s0,e0=>by
  have:=yI (d0:=d0) (ds:=ds) (E:=E) (X:=X) (s:=s) c (x + 1) (by omega) (fun s0 e0=>by rw[show x + 1 + (c:Nat)=x + ((c + 1:Nat):Int) by omega];exact h s0 e0)
  have e:73 + 2 * c=(13 + 2 * c) + 60:=by omega
  rw[e]at this
  have r:=IZ (by omega) this s0 e0
  rw[show 73 + 2 * (c + 1)=13 + 2 * c + 62 by omega]
  exact r
theorem wC {d0:TD}{ds:List TD}{s:Bool}:∀ (c:Nat) (x:Int),x + (c:Nat) ≤ 40→(∀ s0 e0,bK 1158 73 (d0.tok s0 e0) ds s (x + (c:Nat)))→∀ s0 e0,bK 1158 (73 + 2 * c) ((gJ d0 ds c).1.tok s0 e0) (gJ d0 ds c).2 s x
 | 0,x,_,h,s0,e0=>by have:=h s0 e0;rw[show x + ((0:Nat):Int)=x by omega]at this;exact this
 | c + 1,x,hx,h,s0,e0=>by
  have:=wC (d0:=d0) (ds:=ds) (s:=s) c (x + 1) (by omega) (fun s0 e0=>by rw[show x + 1 + (c:Nat)=x + ((c + 1:Nat):Int) by omega];exact h s0 e0)
  have e:73 + 2 * c=(13 + 2 * c) + 60:=by omega
  rw[e]at this
  have r:=tM (by omega) this s0 e0
  rw[show 73 + 2 * (c + 1)=13 + 2 * c + 62 by omega]
  exact r
theorem rY {s:Bool}:∀ (c:Nat) (x:Int),x + ((c + 1:Nat):Int)=41→∀ s0 e0,bK 1158 (75 + 2 * c) ((gJ f9 [] (c + 1)).1.tok s0 e0) (gJ f9 [] (c + 1)).2 s x
 | 0,x,hx,s0,e0=>JI (j:=13) (by omega) s0 e0
 | c + 1,x,hx,s0,e0=>by
  have:=rY (s:=s) c (x + 1) (by omega)
  have e:75 + 2 * c=(15 + 2 * c) + 60:=by omega
  rw[e]at this
  have r:=tM (by omega) this s0 e0
  rw[show 75 + 2 * (c + 1)=15 + 2 * c + 62 by omega]
  exact r
end Mine
end
section
namespace Mine
noncomputable def Pl:FP:={ P0 with pz:=[],pu:=[899,857,864,878] }
theorem b9.weak {f n:Nat}{bZ:FV}{ds:List TD}{E:TD}{X:FV}{s:Bool}{x:Int} (h:b9 f n bZ ds E X s x) (i:Nat):b9 f (n + i) bZ ds E X s x:=fun t a hq k=>by
 rw[show k + (n + i)=(k + i) + n by omega];exact h t a hq (k + i)
theorem bK.weak {f n:Nat}{bZ:FV}{ds:List TD}{s:Bool}{x:Int} (h:bK f n bZ ds s x) (i:Nat):bK f (n + i) bZ ds s x:=fun t a hq k=>by
 rw[show k + (n + i)=(k + i) + n by omega];exact h t a hq (k + i)
theorem Hu {n:Nat}{bZ:FV}{pre:List TD}{tc:TD}{ds:List TD}{E:TD}{post:List TD}{M:FV}{s:Bool}
  (h:∀ t a,(∀ e ∈ fB t a (pre++[tc])++fB t (bI (bI a (pre++[tc])) (ds++[E])) (post++[a9]),P0.NX e)→(∀ e ∈ fB t (bI a (pre++[tc])) (ds++[E]),P0.NX e)→∀ k,
   run TT 5000 (k + n) 1259 [.ref 0] (gP bZ .none s 0 0 t a)=.ok (.f M,gP (cC a9 (bI (bI (bI a (pre++[tc])) (ds++[E])) post)) .none s 0 0 t (bI (bI (bI a (pre++[tc])) (ds++[E])) (post++[a9])))) :
  b9 1259 n bZ ((pre++[tc])++((ds++[E])++post)) a9 M s 0:=fun t a hq k=>by
 have e:((pre++[tc])++((ds++[E])++post))++[a9]=(pre++[tc])++((ds++[E])++(post++[a9])):=by simp
 rw[e]at hq ⊢
 rw[iZ t a (pre++[tc]),iZ t _ (ds++[E])]at hq
 have:=h t a (fun x hx=>hq x (by
  rcases List.mem_append.1 hx with hx | hx
  ·exact List.mem_append.2 (.inl hx)
  ·exact List.mem_append.2 (.inr (List.mem_append.2 (.inr hx))))) (fun x hx=>hq x (List.mem_append.2 (.inr (List.mem_append.2 (.inl hx))))) k
 rw[this,hO a (pre++[tc]) ((ds++[E])++post),hO _ (ds++[E]) post,hO a (pre++[tc]) ((ds++[E])++(post++[a9])),hO _ (ds++[E]) (post++[a9])]
theorem EX {n:Nat}{bZ:FV}{pre:List TD}{tc:TD}{ds:List TD}{s:Bool}
  (h:∀ t a,(∀ e ∈ fB t a (pre++[tc]),P0.NX e)→(∀ e ∈ fB t (bI a (pre++[tc])) ds,P0.NX e)→∀ k,
   run TT 5000 (k + n) 1259 [.ref 0] (gP bZ .none s 0 0 t a)=.raise) :
  bK 1259 n bZ ((pre++[tc])++ds) s 0:=fun t a hq k=>by
 rw[iZ t a (pre++[tc])]at hq
 exact h t a (fun x hx=>hq x (List.mem_append.2 (.inl hx))) (fun x hx=>hq x (List.mem_append.2 (.inr hx))) k
abbrev A1 (a:Int) (pre:List TD) (tc:TD):Int:=bI a (pre++[tc])
abbrev A2 (a:Int) (pre:List TD) (tc:TD) (ds:List TD) (E:TD):Int:=bI (A1 a pre tc) (ds++[E])
abbrev dL (s0 e0:Int):FV:=aK aW (.str [40]) true s0 e0
abbrev Fx:Nat→List An
 | 0=>[]
 | n + 1=>.inl::Fx n
abbrev Rb (pre:List TD) (tc:TD) (ds:List TD) (E:TD) (post:List TD) (M X:FV) (s:Bool) (j:Nat) (B:Int) (lev k:Nat) (ul:List PU) (s0 e0:Int):Prop:=∀ t a,
 dE Pl (j + 113) 1259 [.ref 0] (gP (dL s0 e0) .none s 0 0 t a) (qW t a (pre++[tc])++qW t (A2 a pre tc ds E) (post++[a9])) ul [(1158,Fx k++[.val (.ok (.f X,gP (cC E (bI (A1 a pre tc) ds)) .none s 0 B t (A2 a pre tc ds E)))])] []
 = some (.ok (.f M,gP (cC a9 (bI (A2 a pre tc ds E) post)) .none s 0 0 t (bI (A2 a pre tc ds E) (post++[a9]))),fB t a (pre++[tc])++fB t (A2 a pre tc ds E) (post++[a9]),ul,[.call (j + 73 + lev) 1158 [.ref 0] (gP (cC tc (bI a pre)) .none s 0 B t (A1 a pre tc)) (.ok (.f X,gP (cC E (bI (A1 a pre tc) ds)) .none s 0 B t (A2 a pre tc ds E)))])
theorem kZ {pre:List TD}{tc:TD}{ds:List TD}{E:TD}{post:List TD}{M X:FV}{s:Bool}{j:Nat}{B:Int}{lev k:Nat}{ul:List PU}{s0 e0:Int} (h:Rb pre tc ds E post M X s j B lev k ul s0 e0) (hu:∀ e ∈ ul,P0.PR e) (H:∀ s0 e0,b9 1158 (j + 73) (tc.tok s0 e0) ds E X s B):b9 1259 (j + 113) (dL s0 e0) ((pre++[tc])++((ds++[E])++post)) a9 M s 0:=Hu fun t a h1 h2 k =>
 aI (h t a) k h1 hu (mc (((H _ _).weak lev) t _ h2 k) mn)
abbrev QZ (pre:List TD) (tc:TD) (s:Bool) (j:Nat) (B:Int) (lev k:Nat) (ul:List PU) (s0 e0:Int):Prop:=∀ t a,
 dE Pl (j + 113) 1259 [.ref 0] (gP (dL s0 e0) .none s 0 0 t a) (qW t a (pre++[tc])) ul [(1158,Fx k++[.val .raise])] []=some (.raise,fB t a (pre++[tc]),ul,[.call (j + 73 + lev) 1158 [.ref 0] (gP (cC tc (bI a pre)) .none s 0 B t (A1 a pre tc)) .raise])
theorem kY {pre:List TD}{tc:TD}{ds:List TD}{s:Bool}{j:Nat}{B:Int}{lev k:Nat}{ul:List PU}{s0 e0:Int} (h:QZ pre tc s j B lev k ul s0 e0) (hu:∀ e ∈ ul,P0.PR e) (H:∀ s0 e0,bK 1158 (j + 73) (tc.tok s0 e0) ds s B):bK 1259 (j + 113) (dL s0 e0) ((pre++[tc])++ds) s 0:=EX fun t a h1 h2 k =>
 aI (h t a) k h1 hu (mc (((H _ _).weak lev) t _ h2 k) mn)
noncomputable def M0 (s:Bool) (X:FV):FV:=nd [69,120,112,114] [nd [66,105,110,97,114,121] [.str [43],nd [79,98,106,101,99,116] [.lst []],X]]
noncomputable def Fc:List TD:=[jZ,dO,aU,t3]
noncomputable def Gu:List TD:=[]
abbrev Og:TD:=bR
theorem RI (s:Bool) (j:Nat) (tc:TD) (ds:List TD) (X:FV) (H:∀ s0 e0,b9 1158 (j + 73) (tc.tok s0 e0) ds Og X s 2) (s0 e0:Int):b9 1259 (j + 113) (dL s0 e0) ((Fc++[tc])++((ds++[Og])++Gu)) a9 (M0 s X) s 0:=kZ (lev:=31) (k:=2) (ul:=[]) (fun t a=>by kernel_rfl) (mn) H
theorem Q0 (s:Bool) (j:Nat) (tc:TD) (ds:List TD) (H:∀ s0 e0,bK 1158 (j + 73) (tc.tok s0 e0) ds s 2) (s0 e0:Int):bK 1259 (j + 113) (dL s0 e0) ((Fc++[tc])++ds) s 0:=kY (lev:=31) (k:=2) (ul:=[]) (fun t a=>by kernel_rfl) (mn) H
noncomputable def M1 (s:Bool) (X:FV):FV:=nd [69,120,112,114] [nd [65,115,115,105,103,110] [.str [61],nd [77,101,109,98,101,114] [nd [79,98,106,101,99,116] [.lst []],.str [97]],X]]
noncomputable def F5:List TD:=[jZ,dO,aU,eJ,gV,GM]
noncomputable def GL:List TD:=[]
abbrev OP:TD:=bR
theorem RG (s:Bool) (j:Nat) (tc:TD) (ds:List TD) (X:FV) (H:∀ s0 e0,b9 1158 (j + 73) (tc.tok s0 e0) ds OP X s 3) (s0 e0:Int):b9 1259 (j + 113) (dL s0 e0) ((F5++[tc])++((ds++[OP])++GL)) a9 (M1 s X) s 0:=kZ (lev:=31) (k:=2) (ul:=[]) (fun t a=>by kernel_rfl) (mn) H
theorem RH (s:Bool) (j:Nat) (tc:TD) (ds:List TD) (H:∀ s0 e0,bK 1158 (j + 73) (tc.tok s0 e0) ds s 3) (s0 e0:Int):bK 1259 (j + 113) (dL s0 e0) ((F5++[tc])++ds) s 0:=kY (lev:=31) (k:=2) (ul:=[]) (fun t a=>by kernel_rfl) (mn) H
noncomputable def M2 (s:Bool) (X:FV):FV:=nd [69,120,112,114] [nd [67,97,108,108] [nd [77,101,109,98,101,114] [nd [70,117,110,99,116,105,111,110] [.none,.lst [],.lst [],.bool s,.str [101,120,112,114]],.str [99,97,108,108]],.lst [nd [84,104,105,115] [],X]]]
noncomputable def n0:List TD:=[e7,cK,aU,eP,dO,aU,eJ,AK,bX,zS,s8]
noncomputable def sS:List TD:=[bR]
abbrev u8:TD:=aU
theorem Nm (s:Bool) (j:Nat) (b n:Nat) (ds:List TD) (X:FV) (H:∀ s0 e0,b9 1158 (j + 73) ((⟨aK [112,117,110,99,116] (.str [33]) true,b,n⟩:TD).tok s0 e0) ds u8 X s 3) (s0 e0:Int):b9 1259 (j + 113) (dL s0 e0) ((n0++[(⟨aK [112,117,110,99,116] (.str [33]) true,b,n⟩:TD)])++((ds++[u8])++sS)) a9 (M2 s X) s 0:=kZ (lev:=25) (k:=3) (ul:=[(878,[.f .none,.f (.lst []),.f (.bool s)],.f .none)]) (fun t a=>by kernel_rfl) (mc (dG s) (mn)) H
theorem MD (s:Bool) (j:Nat) (b n:Nat) (ds:List TD) (H:∀ s0 e0,bK 1158 (j + 73) ((⟨aK [112,117,110,99,116] (.str [33]) true,b,n⟩:TD).tok s0 e0) ds s 3) (s0 e0:Int):bK 1259 (j + 113) (dL s0 e0) ((n0++[(⟨aK [112,117,110,99,116] (.str [33]) true,b,n⟩:TD)])++ds) s 0:=kY (lev:=25) (k:=3) (ul:=[(878,[.f .none,.f (.lst []),.f (.bool s)],.f .none)]) (fun t a=>by kernel_rfl) (mc (dG s) (mn)) H
theorem Nw (s:Bool) (j:Nat) (b n:Nat) (ds:List TD) (X:FV) (H:∀ s0 e0,b9 1158 (j + 73) ((⟨aK [110,117,109,98,101,114] (.int 0) true,b,n⟩:TD).tok s0 e0) ds u8 X s 3) (s0 e0:Int):b9 1259 (j + 113) (dL s0 e0) ((n0++[(⟨aK [110,117,109,98,101,114] (.int 0) true,b,n⟩:TD)])++((ds++[u8])++sS)) a9 (M2 s X) s 0:=kZ (lev:=25) (k:=3) (ul:=[(878,[.f .none,.f (.lst []),.f (.bool s)],.f .none)]) (fun t a=>by kernel_rfl) (mc (dG s) (mn)) H
theorem OA (s:Bool) (j:Nat) (b n:Nat) (ds:List TD) (H:∀ s0 e0,bK 1158 (j + 73) ((⟨aK [110,117,109,98,101,114] (.int 0) true,b,n⟩:TD).tok s0 e0) ds s 3) (s0 e0:Int):bK 1259 (j + 113) (dL s0 e0) ((n0++[(⟨aK [110,117,109,98,101,114] (.int 0) true,b,n⟩:TD)])++ds) s 0:=kY (lev:=25) (k:=3) (ul:=[(878,[.f .none,.f (.lst []),.f (.bool s)],.f .none)]) (fun t a=>by kernel_rfl) (mc (dG s) (mn)) H
theorem NJ (s:Bool) (j:Nat) (b n:Nat) (ds:List TD) (X:FV) (H:∀ s0 e0,b9 1158 (j + 73) ((⟨aK [107,101,121,119,111,114,100] (.str [102,117,110,99,116,105,111,110]) true,b,n⟩:TD).tok s0 e0) ds u8 X s 3) (s0 e0:Int):b9 1259 (j + 113) (dL s0 e0) ((n0++[(⟨aK [107,101,121,119,111,114,100] (.str [102,117,110,99,116,105,111,110]) true,b,n⟩:TD)])++((ds++[u8])++sS)) a9 (M2 s X) s 0:=kZ (lev:=25) (k:=3) (ul:=[(878,[.f .none,.f (.lst []),.f (.bool s)],.f .none)]) (fun t a=>by kernel_rfl) (mc (dG s) (mn)) H
theorem MB (s:Bool) (j:Nat) (b n:Nat) (ds:List TD) (H:∀ s0 e0,bK 1158 (j + 73) ((⟨aK [107,101,121,119,111,114,100] (.str [102,117,110,99,116,105,111,110]) true,b,n⟩:TD).tok s0 e0) ds s 3) (s0 e0:Int):bK 1259 (j + 113) (dL s0 e0) ((n0++[(⟨aK [107,101,121,119,111,114,100] (.str [102,117,110,99,116,105,111,110]) true,b,n⟩:TD)])++ds) s 0:=kY (lev:=25) (k:=3) (ul:=[(878,[.f .none,.f (.lst []),.f (.bool s)],.f .none)]) (fun t a=>by kernel_rfl) (mc (dG s) (mn)) H
theorem NL (s:Bool) (j:Nat) (b n:Nat) (ds:List TD) (X:FV) (H:∀ s0 e0,b9 1158 (j + 73) ((⟨aK [107,101,121,119,111,114,100] (.str [110,101,119]) true,b,n⟩:TD).tok s0 e0) ds u8 X s 3) (s0 e0:Int):b9 1259 (j + 113) (dL s0 e0) ((n0++[(⟨aK [107,101,121,119,111,114,100] (.str [110,101,119]) true,b,n⟩:TD)])++((ds++[u8])++sS)) a9 (M2 s X) s 0:=kZ (lev:=25) (k:=3) (ul:=[(878,[.f .none,.f (.lst []),.f (.bool s)],.f .none)]) (fun t a=>by kernel_rfl) (mc (dG s) (mn)) H
theorem N9 (s:Bool) (j:Nat) (b n:Nat) (ds:List TD) (H:∀ s0 e0,bK 1158 (j + 73) ((⟨aK [107,101,121,119,111,114,100] (.str [110,101,119]) true,b,n⟩:TD).tok s0 e0) ds s 3) (s0 e0:Int):bK 1259 (j + 113) (dL s0 e0) ((n0++[(⟨aK [107,101,121,119,111,114,100] (.str [110,101,119]) true,b,n⟩:TD)])++ds) s 0:=kY (lev:=25) (k:=3) (ul:=[(878,[.f .none,.f (.lst []),.f (.bool s)],.f .none)]) (fun t a=>by kernel_rfl) (mc (dG s) (mn)) H
noncomputable def M3 (s:Bool) (X:FV):FV:=nd [69,120,112,114] [nd [73,110,100,101,120] [nd [79,98,106,101,99,116] [.lst []],X]]
noncomputable def FY:List TD:=[jZ,dO,aU,qI]
noncomputable def GU:List TD:=[bR]
abbrev OV:TD:=sD
theorem RJ (s:Bool) (j:Nat) (tc:TD) (ds:List TD) (X:FV) (H:∀ s0 e0,b9 1158 (j + 73) (tc.tok s0 e0) ds OV X s 3) (s0 e0:Int):b9 1259 (j + 113) (dL s0 e0) ((FY++[tc])++((ds++[OV])++GU)) a9 (M3 s X) s 0:=kZ (lev:=24) (k:=2) (ul:=[]) (fun t a=>by kernel_rfl) (mn) H
theorem Qk (s:Bool) (j:Nat) (tc:TD) (ds:List TD) (H:∀ s0 e0,bK 1158 (j + 73) (tc.tok s0 e0) ds s 3) (s0 e0:Int):bK 1259 (j + 113) (dL s0 e0) ((FY++[tc])++ds) s 0:=kY (lev:=24) (k:=2) (ul:=[]) (fun t a=>by kernel_rfl) (mn) H
noncomputable def M4 (s:Bool) (X:FV):FV:=nd [69,120,112,114] [nd [67,111,109,109,97] [.lst [nd [79,98,106,101,99,116] [.lst []],X]]]
noncomputable def FG:List TD:=[jZ,dO,aU,s8]
noncomputable def Gq:List TD:=[]
abbrev OI:TD:=bR
theorem Rh (s:Bool) (j:Nat) (tc:TD) (ds:List TD) (X:FV) (H:∀ s0 e0,b9 1158 (j + 73) (tc.tok s0 e0) ds OI X s 2) (s0 e0:Int):b9 1259 (j + 113) (dL s0 e0) ((FG++[tc])++((ds++[OI])++Gq)) a9 (M4 s X) s 0:=kZ (lev:=32) (k:=2) (ul:=[]) (fun t a=>by kernel_rfl) (mn) H
theorem RZ (s:Bool) (j:Nat) (tc:TD) (ds:List TD) (H:∀ s0 e0,bK 1158 (j + 73) (tc.tok s0 e0) ds s 2) (s0 e0:Int):bK 1259 (j + 113) (dL s0 e0) ((FG++[tc])++ds) s 0:=kY (lev:=32) (k:=2) (ul:=[]) (fun t a=>by kernel_rfl) (mn) H
noncomputable def M5 (s:Bool) (X:FV):FV:=nd [69,120,112,114] [nd [67,111,110,100] [nd [70,117,110,99,116,105,111,110] [.none,.lst [],.lst [],.bool s,.str [101,120,112,114]],X,nd [78,117,109] [.int 0]]]
noncomputable def Fq:List TD:=[e7,cK,aU,eP,dO,aU,Cw]
noncomputable def GJ:List TD:=[vU,bR]
abbrev OH:TD:=w4
theorem Rs (s:Bool) (j:Nat) (tc:TD) (ds:List TD) (X:FV) (H:∀ s0 e0,b9 1158 (j + 73) (tc.tok s0 e0) ds OH X s 3) (s0 e0:Int):b9 1259 (j + 113) (dL s0 e0) ((Fq++[tc])++((ds++[OH])++GJ)) a9 (M5 s X) s 0:=kZ (lev:=30) (k:=2) (ul:=[(878,[.f .none,.f (.lst []),.f (.bool s)],.f .none),(899,[.f (.bool false),.f (.bool s)],.f .none)]) (fun t a=>by kernel_rfl) (mc (dG s) (mc (bF s) (mn))) H
theorem QT (s:Bool) (j:Nat) (tc:TD) (ds:List TD) (H:∀ s0 e0,bK 1158 (j + 73) (tc.tok s0 e0) ds s 3) (s0 e0:Int):bK 1259 (j + 113) (dL s0 e0) ((Fq++[tc])++ds) s 0:=kY (lev:=30) (k:=2) (ul:=[(878,[.f .none,.f (.lst []),.f (.bool s)],.f .none)]) (fun t a=>by kernel_rfl) (mc (dG s) (mn)) H
noncomputable def M6 (s:Bool) (X:FV):FV:=nd [69,120,112,114] [nd [67,97,108,108] [nd [67,97,108,108] [nd [77,101,109,98,101,114] [nd [79,98,106,101,99,116] [.lst []],.str [97]],.lst [nd [78,117,109] [.int 4607182418800017408]]],.lst [X]]]
noncomputable def nW:List TD:=[jZ,dO,aU,eJ,gV,bX,wB,aU,bX]
noncomputable def tB:List TD:=[bR]
abbrev vC:TD:=aU
theorem Nb (s:Bool) (j:Nat) (b n:Nat) (ds:List TD) (X:FV) (H:∀ s0 e0,b9 1158 (j + 73) ((⟨aK [112,117,110,99,116] (.str [33]) true,b,n⟩:TD).tok s0 e0) ds vC X s 3) (s0 e0:Int):b9 1259 (j + 113) (dL s0 e0) ((nW++[(⟨aK [112,117,110,99,116] (.str [33]) true,b,n⟩:TD)])++((ds++[vC])++tB)) a9 (M6 s X) s 0:=kZ (lev:=25) (k:=3) (ul:=[(899,[.f (.bool false),.f (.bool s)],.f .none)]) (fun t a=>by kernel_rfl) (mc (bF s) (mn)) H
theorem Mg (s:Bool) (j:Nat) (b n:Nat) (ds:List TD) (H:∀ s0 e0,bK 1158 (j + 73) ((⟨aK [112,117,110,99,116] (.str [33]) true,b,n⟩:TD).tok s0 e0) ds s 3) (s0 e0:Int):bK 1259 (j + 113) (dL s0 e0) ((nW++[(⟨aK [112,117,110,99,116] (.str [33]) true,b,n⟩:TD)])++ds) s 0:=kY (lev:=25) (k:=3) (ul:=[(899,[.f (.bool false),.f (.bool s)],.f .none)]) (fun t a=>by kernel_rfl) (mc (bF s) (mn)) H
theorem N8 (s:Bool) (j:Nat) (b n:Nat) (ds:List TD) (X:FV) (H:∀ s0 e0,b9 1158 (j + 73) ((⟨aK [110,117,109,98,101,114] (.int 0) true,b,n⟩:TD).tok s0 e0) ds vC X s 3) (s0 e0:Int):b9 1259 (j + 113) (dL s0 e0) ((nW++[(⟨aK [110,117,109,98,101,114] (.int 0) true,b,n⟩:TD)])++((ds++[vC])++tB)) a9 (M6 s X) s 0:=kZ (lev:=25) (k:=3) (ul:=[(899,[.f (.bool false),.f (.bool s)],.f .none)]) (fun t a=>by kernel_rfl) (mc (bF s) (mn)) H
theorem NT (s:Bool) (j:Nat) (b n:Nat) (ds:List TD) (H:∀ s0 e0,bK 1158 (j + 73) ((⟨aK [110,117,109,98,101,114] (.int 0) true,b,n⟩:TD).tok s0 e0) ds s 3) (s0 e0:Int):bK 1259 (j + 113) (dL s0 e0) ((nW++[(⟨aK [110,117,109,98,101,114] (.int 0) true,b,n⟩:TD)])++ds) s 0:=kY (lev:=25) (k:=3) (ul:=[(899,[.f (.bool false),.f (.bool s)],.f .none)]) (fun t a=>by kernel_rfl) (mc (bF s) (mn)) H
theorem Mn (s:Bool) (j:Nat) (b n:Nat) (ds:List TD) (X:FV) (H:∀ s0 e0,b9 1158 (j + 73) ((⟨aK [107,101,121,119,111,114,100] (.str [102,117,110,99,116,105,111,110]) true,b,n⟩:TD).tok s0 e0) ds vC X s 3) (s0 e0:Int):b9 1259 (j + 113) (dL s0 e0) ((nW++[(⟨aK [107,101,121,119,111,114,100] (.str [102,117,110,99,116,105,111,110]) true,b,n⟩:TD)])++((ds++[vC])++tB)) a9 (M6 s X) s 0:=kZ (lev:=25) (k:=3) (ul:=[(899,[.f (.bool false),.f (.bool s)],.f .none)]) (fun t a=>by kernel_rfl) (mc (bF s) (mn)) H
theorem NE (s:Bool) (j:Nat) (b n:Nat) (ds:List TD) (H:∀ s0 e0,bK 1158 (j + 73) ((⟨aK [107,101,121,119,111,114,100] (.str [102,117,110,99,116,105,111,110]) true,b,n⟩:TD).tok s0 e0) ds s 3) (s0 e0:Int):bK 1259 (j + 113) (dL s0 e0) ((nW++[(⟨aK [107,101,121,119,111,114,100] (.str [102,117,110,99,116,105,111,110]) true,b,n⟩:TD)])++ds) s 0:=kY (lev:=25) (k:=3) (ul:=[(899,[.f (.bool false),.f (.bool s)],.f .none)]) (fun t a=>by kernel_rfl) (mc (bF s) (mn)) H
theorem Me (s:Bool) (j:Nat) (b n:Nat) (ds:List TD) (X:FV) (H:∀ s0 e0,b9 1158 (j + 73) ((⟨aK [107,101,121,119,111,114,100] (.str [110,101,119]) true,b,n⟩:TD).tok s0 e0) ds vC X s 3) (s0 e0:Int):b9 1259 (j + 113) (dL s0 e0) ((nW++[(⟨aK [107,101,121,119,111,114,100] (.str [110,101,119]) true,b,n⟩:TD)])++((ds++[vC])++tB)) a9 (M6 s X) s 0:=kZ (lev:=25) (k:=3) (ul:=[(899,[.f (.bool false),.f (.bool s)],.f .none)]) (fun t a=>by kernel_rfl) (mc (bF s) (mn)) H
theorem N7 (s:Bool) (j:Nat) (b n:Nat) (ds:List TD) (H:∀ s0 e0,bK 1158 (j + 73) ((⟨aK [107,101,121,119,111,114,100] (.str [110,101,119]) true,b,n⟩:TD).tok s0 e0) ds s 3) (s0 e0:Int):bK 1259 (j + 113) (dL s0 e0) ((nW++[(⟨aK [107,101,121,119,111,114,100] (.str [110,101,119]) true,b,n⟩:TD)])++ds) s 0:=kY (lev:=25) (k:=3) (ul:=[(899,[.f (.bool false),.f (.bool s)],.f .none)]) (fun t a=>by kernel_rfl) (mc (bF s) (mn)) H
noncomputable def M7 (s:Bool) (X:FV):FV:=nd [69,120,112,114] [nd [76,111,103,105,99,97,108] [.str [124,124],nd [67,97,108,108] [nd [70,117,110,99,116,105,111,110] [.str [102],.lst [],.lst [],.bool s,.str [101,120,112,114]],.lst []],X]]
noncomputable def Ec:List TD:=[e7,LP,bX,aU,eP,dO,aU,bX,aU,HE]
noncomputable def Go:List TD:=[]
abbrev OZ:TD:=bR
theorem Ru (s:Bool) (j:Nat) (tc:TD) (ds:List TD) (X:FV) (H:∀ s0 e0,b9 1158 (j + 73) (tc.tok s0 e0) ds OZ X s 2) (s0 e0:Int):b9 1259 (j + 113) (dL s0 e0) ((Ec++[tc])++((ds++[OZ])++Go)) a9 (M7 s X) s 0:=kZ (lev:=31) (k:=2) (ul:=[(864,[.f (.str [102]),.f (.bool s)],.f .none),(878,[.f (.str [102]),.f (.lst []),.f (.bool s)],.f .none)]) (fun t a=>by kernel_rfl) (mc (uY s) (mc (xF s) (mn))) H
theorem R4 (s:Bool) (j:Nat) (tc:TD) (ds:List TD) (H:∀ s0 e0,bK 1158 (j + 73) (tc.tok s0 e0) ds s 2) (s0 e0:Int):bK 1259 (j + 113) (dL s0 e0) ((Ec++[tc])++ds) s 0:=kY (lev:=31) (k:=2) (ul:=[(864,[.f (.str [102]),.f (.bool s)],.f .none),(878,[.f (.str [102]),.f (.lst []),.f (.bool s)],.f .none)]) (fun t a=>by kernel_rfl) (mc (uY s) (mc (xF s) (mn))) H
noncomputable def M8 (s:Bool) (X:FV):FV:=nd [69,120,112,114] [nd [67,111,109,109,97] [.lst [nd [85,112,100,97,116,101] [.str [43,43],.bool false,nd [77,101,109,98,101,114] [nd [79,98,106,101,99,116] [.lst []],.str [97]]],X]]]
noncomputable def FJ:List TD:=[jZ,dO,aU,eJ,gV,Gc,s8]
noncomputable def HJ:List TD:=[]
abbrev Oi:TD:=bR
theorem Qv (s:Bool) (j:Nat) (tc:TD) (ds:List TD) (X:FV) (H:∀ s0 e0,b9 1158 (j + 73) (tc.tok s0 e0) ds Oi X s 2) (s0 e0:Int):b9 1259 (j + 113) (dL s0 e0) ((FJ++[tc])++((ds++[Oi])++HJ)) a9 (M8 s X) s 0:=kZ (lev:=32) (k:=2) (ul:=[]) (fun t a=>by kernel_rfl) (mn) H
theorem Rp (s:Bool) (j:Nat) (tc:TD) (ds:List TD) (H:∀ s0 e0,bK 1158 (j + 73) (tc.tok s0 e0) ds s 2) (s0 e0:Int):bK 1259 (j + 113) (dL s0 e0) ((FJ++[tc])++ds) s 0:=kY (lev:=32) (k:=2) (ul:=[]) (fun t a=>by kernel_rfl) (mn) H
end Mine
end
section
namespace Mine
inductive aF where
 | e | u | a | n | p
noncomputable def P3:List Nat:=[117,115,101,32,115,116,114,105,99,116]
noncomputable def aF.tok:aF→Int→Int→FV
 | .e=>n8.tok
 | .u=>lW.tok
 | .a=>BS.tok
 | .n=>gV.tok
 | .p=>bX.tok
noncomputable def aF.len:aF→Nat
 | .e=>15
 | .u=>12
 | .a=>3
 | .n=>1
 | .p=>1
noncomputable def aF.fst (r:aF) (b:Nat):TD:=⟨r.tok,b,b + r.len⟩
noncomputable def aF.ds:aF→List TD
 | .p=>[lW,aU,bR]
 | _=>[bR]
noncomputable def u1 (X:FV):FV:=nd [69,120,112,114] [X]
noncomputable def aF.tree:aF→FV
 | .a=>u1 (nd [83,116,114] [.str [97]])
 | .n=>u1 (nd [78,97,109,101] [.str [97]])
 | _=>u1 (nd [83,116,114] [.str P3])
noncomputable def aF.isT:aF→Bool
 | .n=>false
 | .p=>false
 | _=>true
noncomputable def aF.isU:aF→Bool
 | .u=>true
 | _=>false
theorem jI {f:Nat}{bZ:FV}{ds:List TD}{X:FV}{s:Bool}{x:Int} (ul:List PU) (hu:∀ e ∈ ul,P0.PR e)
  (h:∀ t a E,dE Pl 70 f [.ref 0] (gP bZ .none s 0 x t a) (qW t a (ds++[E])) ul [] []=some (.ok (.f X,gP (cC E (bI a ds)) .none s 0 x t (bI a (ds++[E]))),fB t a (ds++[E]),ul,[])):iA f 70 bZ ds X s x :=
 fun t a E hq k=>aI (h t a E) k hq hu mn
theorem Kp (s:Bool) (s0 e0:Int):∀ r:aF,r.isT=true→iA 1266 70 (r.tok s0 e0) r.ds r.tree s 0
 | .e,_=>jI [(899,[.f (.bool false),.f (.bool s)],.f .none)] (mc (bF s) mn) fun t a E=>by kernel_rfl
 | .u,_=>jI [(899,[.f (.bool false),.f (.bool s)],.f .none)] (mc (bF s) mn) fun t a E=>by kernel_rfl
 | .a,_=>jI [(899,[.f (.bool false),.f (.bool s)],.f .none)] (mc (bF s) mn) fun t a E=>by kernel_rfl
theorem Jt (s:Bool) (s0 e0:Int):∀ r:aF,iA 1259 70 (r.tok s0 e0) r.ds r.tree s 0
 | .e=>jI [(899,[.f (.bool false),.f (.bool s)],.f .none)] (mc (bF s) mn) fun t a E=>by kernel_rfl
 | .u=>jI [(899,[.f (.bool false),.f (.bool s)],.f .none)] (mc (bF s) mn) fun t a E=>by kernel_rfl
 | .a=>jI [(899,[.f (.bool false),.f (.bool s)],.f .none)] (mc (bF s) mn) fun t a E=>by kernel_rfl
 | .n=>jI [(857,[.f (.str [97]),.f (.bool s)],.f .none)] (mc (D0 s) mn) fun t a E=>by kernel_rfl
 | .p=>jI [(899,[.f (.bool false),.f (.bool s)],.f .none)] (mc (bF s) mn) fun t a E=>by kernel_rfl
noncomputable def d6:List aF→TD
 | []=>cK
 | r::_=>r.fst 1
noncomputable def bC (t:List Nat):List aF→Bool→Bool→FV→Int→List (Nat × List MO × O (PV × List MO))
 | [],_,_,_,_=>[]
 | r::rs,h,s,tok,a=>(if h&&r.isT then 1266 else 1259,gP tok .none s 0 0 t a,.ok (.f r.tree,gP (cC (d6 rs) (bI a r.ds)) .none s 0 0 t (bI a (r.ds++[d6 rs]))))::bC t rs (h&&r.isT) (s||(h&&r.isT&&r.isU)) (cC (d6 rs) (bI a r.ds)) (bI a (r.ds++[d6 rs]))
noncomputable def bS:List aF→Bool→Bool→Bool
 | [],_,s=>s
 | r::rs,h,s=>bS rs (h&&r.isT) (s||(h&&r.isT&&r.isU))
noncomputable def bT:List aF→FV→Int→FV
 | [],tok,_=>tok
 | r::rs,_,a=>bT rs (cC (d6 rs) (bI a r.ds)) (bI a (r.ds++[d6 rs]))
noncomputable def bA:List aF→Int→Int
 | [],a=>a
 | r::rs,a=>bA rs (bI a (r.ds++[d6 rs]))
noncomputable def bU:List aF→Bool→List PU
 | [],_=>[]
 | r::rs,h=>match h&&r.isT&&r.isU with
  | true=>(899,[.f (.bool false),.f (.bool true)],.f .none)::bU rs (h&&r.isT)
  | false=>bU rs (h&&r.isT)
noncomputable def uE (f:Nat):List (Nat × List MO × O (PV × List MO))→List An
 | []=>[]
 | (a,_,o)::r=>match Nat.beq a f with
  | true=>.val o::uE f r
  | false=>uE f r
noncomputable def bZ (rs:List aF) (s0 e0:Int):FV:=match rs with
 | []=>bX.tok s0 e0
 | r::_=>r.tok s0 e0
noncomputable def Gz (n:Nat):List (Nat × List MO × O (PV × List MO))→List Lg
 | []=>[]
 | (a,g,o)::r=>.call n a [.ref 0] g o::Gz n r
noncomputable def FD (n:Nat) (g:List MO):List FV→List Lg
 | []=>[]
 | x::r=>.call n 47 [.f x,.f (.int 120)] g (.ok (.f (.bool false),g))::FD n g r
noncomputable def K0 (g:List MO):List FV→List An
 | []=>[]
 | _::r=>.val (.ok (.f (.bool false),g))::K0 g r
noncomputable def cF (rs:List aF) (M:FV):List FV:=rs.map aF.tree++[M]
section
variable (j:Nat) (t:List Nat) (s0 e0 a aE:Int) (M:FV)
noncomputable def G9 (rs:List aF):List MO:=gP (bZ rs s0 e0) .none false 0 0 t a
noncomputable def AI (rs:List aF):List MO:=gP (bT rs (bZ rs s0 e0) a) .none (bS rs true false) 0 0 t (bA rs a)
noncomputable def u2 (rs:List aF):List MO:=gP (cC a9 aE) .none (bS rs true false) 0 0 t (aE + ((0:Nat):Int))
noncomputable def Ge (rs:List aF):=dE Pl (j + 114) 1245 [.ref 0,.f (.bool true)] (G9 t s0 e0 a rs) [] (bU rs true)
  [(1266,uE 1266 (bC t rs true false (bZ rs s0 e0) a)),(1259,uE 1259 (bC t rs true false (bZ rs s0 e0) a)++[.val (.ok (.f M,u2 t aE rs))]),(47,K0 (u2 t aE rs) (cF rs M))] []
noncomputable def GB (rs:List aF):Option (O (PV × List MO) × List (LF × FV × LF) × List PU × List Lg):=some (.ok (.f (.lst (cF rs M)),u2 t aE rs),[],bU rs true,Gz (j + 113) (bC t rs true false (bZ rs s0 e0) a)++(.call (j + 113) 1259 [.ref 0] (AI t s0 e0 a rs) (.ok (.f M,u2 t aE rs))::FD (j + 113) (u2 t aE rs) (cF rs M)))
noncomputable def H4 (rs:List aF):=dE Pl (j + 114) 1245 [.ref 0,.f (.bool true)] (G9 t s0 e0 a rs) [] (bU rs true)
  [(1266,uE 1266 (bC t rs true false (bZ rs s0 e0) a)),(1259,uE 1259 (bC t rs true false (bZ rs s0 e0) a)++[.val .raise])] []
noncomputable def HQ (rs:List aF):Option (O (PV × List MO) × List (LF × FV × LF) × List PU × List Lg):=some (.raise,[],bU rs true,Gz (j + 113) (bC t rs true false (bZ rs s0 e0) a)++[.call (j + 113) 1259 [.ref 0] (AI t s0 e0 a rs) .raise])
noncomputable def L3 (rs:List aF):Prop:=Ge j t s0 e0 a aE M rs=GB j t s0 e0 a aE M rs
noncomputable def Jp (rs:List aF):Prop:=H4 j t s0 e0 a rs=HQ j t s0 e0 a rs
noncomputable def xW (R:List aF):Nat→List (List aF)
 | 0=>[[]]
 | n + 1=>[]::R.flatMap fun r=>(xW R n).map (r::·)
theorem yM {R:List aF} (n:Nat):∀ rs:List aF,(∀ r ∈ rs,r ∈ R)→rs.length ≤ n→rs ∈ xW R n:=by
 induction n with
 | zero=>intro rs q h;cases rs with | nil=>exact .head _ | cons=>cases h
 | succ n ih =>
  intro rs q h
  cases rs with
  | nil=>exact .head _
  | cons r rs=>exact .tail _ (List.mem_flatMap.mpr ⟨r,q r (.head _),List.mem_map.mpr ⟨rs,ih rs (fun x m=>q x (.tail _ m)) (Nat.le_of_succ_le_succ h),rfl⟩⟩)
noncomputable def fJ:List (List aF):=xW [.e,.u,.a,.n,.p] 3
theorem nM (rs:List aF) (h:rs.length ≤ 3):rs ∈ fJ:=yM 3 rs (fun r _=>by cases r<;>simp) h
theorem IU:(fJ.take 80).map (Ge j t s0 e0 a aE M)=(fJ.take 80).map (GB j t s0 e0 a aE M):=by kernel_rfl
theorem Hj:(fJ.drop 80).map (Ge j t s0 e0 a aE M)=(fJ.drop 80).map (GB j t s0 e0 a aE M):=by kernel_rfl
theorem I1:(fJ.take 80).map (H4 j t s0 e0 a)=(fJ.take 80).map (HQ j t s0 e0 a):=by kernel_rfl
theorem Ia:(fJ.drop 80).map (H4 j t s0 e0 a)=(fJ.drop 80).map (HQ j t s0 e0 a):=by kernel_rfl
theorem zH {α β:Type}{f g:α→β} (n:Nat) {l:List α} (h1:(l.take n).map f=(l.take n).map g) (h2:(l.drop n).map f=(l.drop n).map g):l.map f=l.map g:=by
 rw[← List.take_append_drop n l,List.map_append,List.map_append,h1,h2]
theorem Fw:fJ.map (Ge j t s0 e0 a aE M)=fJ.map (GB j t s0 e0 a aE M):=zH 80 (IU j t s0 e0 a aE M) (Hj j t s0 e0 a aE M)
theorem E9:fJ.map (H4 j t s0 e0 a)=fJ.map (HQ j t s0 e0 a):=zH 80 (I1 j t s0 e0 a) (Ia j t s0 e0 a)
theorem Iw (rs:List aF) (h:rs.length ≤ 3):L3 j t s0 e0 a aE M rs:=List.map_inj_left.mp (Fw j t s0 e0 a aE M) rs (nM rs h)
theorem IP (rs:List aF) (h:rs.length ≤ 3):Jp j t s0 e0 a rs:=List.map_inj_left.mp (E9 j t s0 e0 a) rs (nM rs h)
end
end Mine
end
section
namespace Mine
noncomputable def iJ (t:List Nat) (a:Int):List MO:=[.inst 1469 [(Str.ofString "lexer",.ref 1)],.inst 843 (lf t a)]
noncomputable def oL (r:List Nat) (d:TD):Prop:=∀ t a,At t a r→∀ k,run TT 5000 (k + 25) 721 [.ref 1] (iJ t a)=.ok (.f (cC d a),iJ t (a + (d.n:Nat)))
theorem Bg {r:List Nat}{d:TD} (H:∀ t a,At t a r→∃ s e,s=a + (d.b:Nat)∧e=a + (d.n:Nat)∧∀ k,run TT 5000 (k + 25) 721 [.ref 1] (iJ t a)=.ok (.f (d.tok s e),iJ t e)):oL r d:=by
 intro t a h
 obtain⟨s,e,h1,h2,h3⟩:=H t a h
 unfold cC
 rw[← h1,← h2];exact h3
theorem P8 {t:List Nat}{a s e:Int}{tok:Int→Int→FV}{ul:List PU}{cl:List Lg} (ps:List PA) (h:dE Pn 25 721 [.ref 1] (iJ t a) [] ul [] ps=some (.ok (.f (tok s e),iJ t e),[],ul,cl))
  (h1:∀ e ∈ ul,P0.PR e) (h2:∀ k,∀ l ∈ cl,P0.Holds k l):∀ k,run TT 5000 (k + 25) 721 [.ref 1] (iJ t a)=.ok (.f (tok s e),iJ t e):=fun k=>aI h k iG h1 (h2 k)
theorem P7 {b c0:Nat}{w:List Nat}{c:Nat}{kd:List Nat} (hb:b ≤ 1) (hc:c0 ≠ 47) (h:GN b c0 w c kd iJ) (r:List Nat):oL (gF b++(c0::(w++(c::r)))) ⟨aK kd (.str (c0::w)) true,b,b + (w.length + 1)⟩:=Bg fun t a hA=>⟨pl a b,pl a (b + (w.length + 1)),b6 a _,b6 a _,fun k=>aI (h t a) k iG (nu hb t a r hA) (nc hb hc t a _ hA k)⟩
theorem Lw {b c0:Nat}{us:List Nat→Int→List PU}{v:FV}{kd:List Nat}{cs:List Nat→Int→List Lg}{ps:List PA}{n:Nat}{r:List Nat} (hb:b ≤ 1) (hc:c0 ≠ 47) (h:GP b c0 us v kd cs ps n iJ)
  (h1:∀ t a,At t a (gF b++(c0::r))→∀ e ∈ us t a,P0.PR e) (h2:∀ t a,At t a (gF b++(c0::r))→∀ k,∀ e ∈ cs t a,P0.Holds k e):oL (gF b++(c0::r)) ⟨aK kd v true,b,b + n⟩:=Bg fun t a hA=>⟨pl a b,pl a (b + n),b6 a _,b6 a _,fun k=>aI (h t a) k iG (aa (As hb hA) (h1 t a hA)) (aa (Ay hb hc hA k) (h2 t a hA k))⟩
theorem Jh {b:Nat} (hb:b ≤ 1) {w:List Nat}{r:List Nat} (h:GP b 34 (fun t a=>uT t a (b + 1) w++[U t (pl a (b + 1 + w.length)) 34]) (.str w) gO (fun t a=>cT t a (b + 1) w) (au::tP w) (w.length + 2) iJ):oL (gF b++(34::(w++(34::r)))) ⟨aK gO (.str w) true,b,b + (w.length + 2)⟩ :=
 Lw hb (by decide) h (fun t a hA=>aa (Bn hA (34::r) w (b + 1) (rD hb _ _)) (mc (aR hA (b + 1 + w.length) (Ll hb _ _ _) (b6 a _)) mn)) (fun t a hA k=>Ba hA k (34::r) w (b + 1) (rD hb _ _))
theorem DT (r:List Nat):oL (40::r) bX:=Lw (b:=0) (c0:=40) (n:=1) (kd:=aW) (v:=.str [40]) (r:=r) (us:=fun t a=>[V t (pl a 0) [40]]) (cs:=fun _ _=>[]) (ps:=[]) (by decide) (by decide) (fun t a=>by kernel_rfl) (fun t a hA=>mc (Cv hA 0 (Aq _) (kW (b:=0) (by decide) _) (b6 a 0)) mn) (fun _ _ _ _=>mn)
theorem Az (r:List Nat):oL (97::59::r) gV:=P7 (b:=0) (c0:=97) (w:=[]) (c:=59) (by decide) (by decide) (fun t a=>by kernel_rfl) r
theorem Jm (r:List Nat):oL (34::97::34::r) BS:=Jh (b:=0) (by decide) (w:=[97]) (fun t a=>by kernel_rfl)
theorem Lf (r:List Nat):oL (34::117::115::101::32::115::116::114::105::99::116::34::r) lW:=Jh (b:=0) (by decide) (w:=[117,115,101,32,115,116,114,105,99,116]) (fun t a=>by kernel_rfl)
theorem JO (r:List Nat):oL (34::117::115::101::92::120::50::48::115::116::114::105::99::116::34::r) n8:=Bg fun t a h=>⟨a,a + 1 + 1 + 1 + 1 + 1 + 1 + 2 + 1 + 1 + 1 + 1 + 1 + 1 + 1,by show _=a + ((0:Nat):Int);omega,by show _=a + ((15:Nat):Int);omega,
 P8 (tok:=n8.tok) [w0,w0,au,au,au,au,au,wc 117,au,au,au,au,au,wc 115,au,au,au,au,au,wc 101,au,au,au,au,au,au,au,au,au,wc 115,au,au,au,au,au,wc 116,au,au,au,au,au,wc 114,au,au,au,au,au,wc 105,au,au,au,au,au,wc 99,au,au,au,au,au,wc 116,au,au,au,au,au] (ul:=[U t (a) (34),U t (a) (34),U t (a + 1) (117),U t (a + 1) (117),U t (a + 1 + 1) (115),U t (a + 1 + 1) (115),U t (a + 1 + 1 + 1) (101),U t (a + 1 + 1 + 1) (101),U t (a + 1 + 1 + 1 + 1) (92),U t (a + 1 + 1 + 1 + 1) (92),U t (a + 1 + 1 + 1 + 1 + 1) (120),U t (a + 1 + 1 + 1 + 1 + 1 + 1 + 0) (50),U t (a + 1 + 1 + 1 + 1 + 1 + 1 + 1) (48),U t (a + 1 + 1 + 1 + 1 + 1) (120),U t (a + 1 + 1 + 1 + 1 + 1 + 1 + 2) (115),U t (a + 1 + 1 + 1 + 1 + 1 + 1 + 2) (115),U t (a + 1 + 1 + 1 + 1 + 1 + 1 + 2 + 1) (116),U t (a + 1 + 1 + 1 + 1 + 1 + 1 + 2 + 1) (116),U t (a + 1 + 1 + 1 + 1 + 1 + 1 + 2 + 1 + 1) (114),U t (a + 1 + 1 + 1 + 1 + 1 + 1 + 2 + 1 + 1) (114),U t (a + 1 + 1 + 1 + 1 + 1 + 1 + 2 + 1 + 1 + 1) (105),U t (a + 1 + 1 + 1 + 1 + 1 + 1 + 2 + 1 + 1 + 1) (105),U t (a + 1 + 1 + 1 + 1 + 1 + 1 + 2 + 1 + 1 + 1 + 1) (99),U t (a + 1 + 1 + 1 + 1 + 1 + 1 + 2 + 1 + 1 + 1 + 1) (99),U t (a + 1 + 1 + 1 + 1 + 1 + 1 + 2 + 1 + 1 + 1 + 1 + 1) (116),U t (a + 1 + 1 + 1 + 1 + 1 + 1 + 2 + 1 + 1 + 1 + 1 + 1) (116),U t (a + 1 + 1 + 1 + 1 + 1 + 1 + 2 + 1 + 1 + 1 + 1 + 1 + 1) (34)]) (cl:=[.pv (jU t [47,47] a) (.f (.bool false)),.pv (jU t [47,42] a) (.f (.bool false)),J t (a + 1) 117,J t (a + 1 + 1) 115,J t (a + 1 + 1 + 1) 101,J t (a + 1 + 1 + 1 + 1 + 1 + 1 + 2) 115,J t (a + 1 + 1 + 1 + 1 + 1 + 1 + 2 + 1) 116,J t (a + 1 + 1 + 1 + 1 + 1 + 1 + 2 + 1 + 1) 114,J t (a + 1 + 1 + 1 + 1 + 1 + 1 + 2 + 1 + 1 + 1) 105,J t (a + 1 + 1 + 1 + 1 + 1 + 1 + 2 + 1 + 1 + 1 + 1) 99,J t (a + 1 + 1 + 1 + 1 + 1 + 1 + 2 + 1 + 1 + 1 + 1 + 1) 116]) (by kernel_rfl)
  (mc (aR h 0 rfl (by omega)) (mc (aR h 0 rfl (by omega)) (mc (aR h 1 rfl (by omega)) (mc (aR h 1 rfl (by omega)) (mc (aR h 2 rfl (by omega)) (mc (aR h 2 rfl (by omega)) (mc (aR h 3 rfl (by omega)) (mc (aR h 3 rfl (by omega)) (mc (aR h 4 rfl (by omega)) (mc (aR h 4 rfl (by omega)) (mc (aR h 5 rfl (by omega)) (mc (aR h 6 rfl (by omega)) (mc (aR h 7 rfl (by omega)) (mc (aR h 5 rfl (by omega)) (mc (aR h 8 rfl (by omega)) (mc (aR h 8 rfl (by omega)) (mc (aR h 9 rfl (by omega)) (mc (aR h 9 rfl (by omega)) (mc (aR h 10 rfl (by omega)) (mc (aR h 10 rfl (by omega)) (mc (aR h 11 rfl (by omega)) (mc (aR h 11 rfl (by omega)) (mc (aR h 12 rfl (by omega)) (mc (aR h 12 rfl (by omega)) (mc (aR h 13 rfl (by omega)) (mc (aR h 13 rfl (by omega)) (mc (aR h 14 rfl (by omega)) (mn))))))))))))))))))))))))))))
  (fun k=>mc (st' h 0 47 rfl (by decide) (by omega)) (mc (st' h 0 42 rfl (by decide) (by omega)) (mc (eO h 1 rfl (by omega)) (mc (eO h 2 rfl (by omega)) (mc (eO h 3 rfl (by omega)) (mc (eO h 8 rfl (by omega)) (mc (eO h 9 rfl (by omega)) (mc (eO h 10 rfl (by omega)) (mc (eO h 11 rfl (by omega)) (mc (eO h 12 rfl (by omega)) (mc (eO h 13 rfl (by omega)) (mn))))))))))))⟩
end Mine
end
section
namespace Mine
noncomputable def bG:List Nat→List TD→List Nat→Prop
 | r,[],r'=>r=r'
 | r,d::ds,r'=>∃ w r1,r=w++r1∧w.length=d.n∧bB r d∧bG r1 ds r'
theorem bG.app:∀ {ds:List TD}{r r1 r2:List Nat}{ds':List TD},bG r ds r1→bG r1 ds' r2→bG r (ds++ds') r2
 | [],r,r1,r2,ds',h,h'=>by cases h;exact h'
 | d::ds,r,r1,r2,ds',⟨w,q,e,n,x,h⟩,h'=>⟨w,q,e,n,x,h.app h'⟩
theorem bG.nx:∀ {ds:List TD}{r r':List Nat}{t:List Nat}{a:Int},bG r ds r'→At t a r→(∀ e ∈ fB t a ds,P0.NX e)∧At t (bI a ds) r'
 | [],r,r',t,a,h,h'=>by cases h;exact⟨mn,h'⟩
 | d::ds,r,r',t,a,⟨w,q,e,n,x,h⟩,h'=>by
  have hq:At t (a + (d.n:Nat)) q:=by
   have:=At.drop d.n h' (by rw[e,← n];simp)
   rw[e,← n,List.drop_left]at this
   rw[n]at this;exact this
  obtain⟨h1,h2⟩:=h.nx hq
  exact⟨mc (x t a h') h1,h2⟩
noncomputable def eG:List aF→List TD
 | []=>[]
 | r::rs=>(r.ds++[d6 rs])++eG rs
theorem tI:∀ (rs:List aF) (a:Int),bA rs a=bI a (eG rs)
 | [],a=>rfl
 | r::rs,a=>by
  show bA rs (bI a (r.ds++[d6 rs]))=bI a ((r.ds++[d6 rs])++eG rs)
  rw[tI rs,hO a (r.ds++[d6 rs])]
theorem tS (k j:Nat) (t:List Nat):∀ (rs:List aF) (h s:Bool) (s0 e0 a:Int) (tok:FV),(∀ r rs',rs=r::rs'→tok=r.tok s0 e0)→(∀ e ∈ fB t a (eG rs),P0.NX e)→∀ l ∈ Gz (j + 113) (bC t rs h s tok a),P0.Holds k l
 | [],_,_,_,_,_,_,_,_=>mn
 | r::rs,h,s,s0,e0,a,tok,ht,hq=>by
  have e:=ht r rs rfl
  rw[show eG (r::rs)=(r.ds++[d6 rs])++eG rs from rfl,iZ t a (r.ds++[d6 rs])]at hq
  have q1:=fun x hx=>hq x (List.mem_append.2 (.inl hx))
  have q2:=fun x hx=>hq x (List.mem_append.2 (.inr hx))
  refine mc ?_ (tS k j t rs _ _ (bI a r.ds + ((d6 rs).b:Nat)) (bI a r.ds + ((d6 rs).n:Nat)) _ _ (fun r' rs' e'=>?_) q2)
  ·show run TT 5000 (k + (j + 113)) (if h&&r.isT then 1266 else 1259) [.ref 0] (gP tok .none s 0 0 t a)=_
   subst e
   rw[show k + (j + 113)=(k + (j + 43)) + 70 by omega]
   cases hb:h&&r.isT with
   | true =>
    have hT:r.isT=true:=(Bool.and_eq_true_iff.1 hb).2
    exact Kp s s0 e0 r hT t a (d6 rs) q1 (k + (j + 43))
   | false=>exact Jt s s0 e0 r t a (d6 rs) q1 (k + (j + 43))
  ·subst e';rfl
theorem wL:∀ (rs:List aF) (tok:FV) (a:Int),(rs=[]→∃ s0 e0,tok=aK aW (.str [40]) true s0 e0)→∃ s0 e0,bT rs tok a=aK aW (.str [40]) true s0 e0
 | [],tok,a,h=>h rfl
 | r::rs,tok,a,_=>wL rs _ _ fun e=>by subst e;exact⟨_,_,rfl⟩
noncomputable def d8:List aF→TD
 | []=>bX
 | r::_=>r.fst 0
theorem wU (rs:List aF):cC (d8 rs) 0=bZ rs (0 + ((0:Nat):Int)) (0 + ((d8 rs).n:Nat)):=by
 cases rs<;>rfl
noncomputable def vA (ts:List FV) (s:Bool):FV:=nd [80,114,111,103,114,97,109] [.lst ts,.bool s]
noncomputable def t6 (x:FV):Prop:=∀ (d:KD) (k:Nat),run TT 5000 (k + 60) 47 [.f x,.f (.int 120)] d.g1=.ok (.f (.bool false),d.g1)
theorem Cs (k j:Nat) (d:KD):∀ xs:List FV,(∀ x ∈ xs,t6 x)→∀ l ∈ FD (j + 113) d.g1 xs,P0.Holds k l
 | [],_=>mn
 | x::xs,h=>mc (by
   show run TT 5000 (k + (j + 113)) 47 [.f x,.f (.int 120)] d.g1=_
   rw[show k + (j + 113)=(k + (j + 53)) + 60 by omega]
   exact h x (.head _) d _) (Cs k j d xs fun y hy=>h y (.tail _ hy))
noncomputable def O8 (tok later:FV) (s:Bool) (d x:Int) (t:List Nat) (a:Int):KD:=⟨1469,843,0,⟨Str.ofString "lexer",Str.ofString "token",Str.ofString "later",Str.ofString "is_strict",Str.ofString "depth",Str.ofString "nested",Str.ofString "jumps",Str.ofString "pending",.none,tok,later,.bool s,.int d,.int x,j0,.lst []⟩,⟨#[]⟩,⟨Str.ofString "text",Str.ofString "at",Str.ofString "line",.str t,.int a,.int 1⟩,⟨⟨#[]⟩,⟨#[]⟩,⟨#[]⟩,⟨#[]⟩,⟨#[]⟩,⟨#[]⟩,⟨#[]⟩,⟨#[]⟩,.none,.none,.none,.none,.none,.none,.none,.none⟩⟩
theorem Rd (tok later:FV) (s:Bool) (d x:Int) (t:List Nat) (a:Int):gP tok later s d x t a=(O8 tok later s d x t a).g1:=rfl
theorem wA:∀ (rs:List aF) (h:Bool),∀ e ∈ bU rs h,P0.PR e
 | [],_=>mn
 | r::rs,h=>by
  unfold bU
  split
  ·exact mc (bF true) (wA rs _)
  ·exact wA rs _
theorem eB {α:Type}{p:α→Prop}{l l':List α} (h:∀ x ∈ l,p x) (h':∀ x ∈ l',p x):∀ x ∈ l++l',p x:=fun x hx=>(List.mem_append.1 hx).elim (h x) (h' x)
theorem Fd {rs:List aF} (hl:rs.length ≤ 3) {t:List Nat}{dsM:List TD}{M:FV}{j:Nat}{r0 r1:List Nat} (hA:At t 0 r0) (h1:oL r0 (d8 rs)) (hn:(d8 rs).n ≤ r0.length) (ht:bG (r0.drop (d8 rs).n) (eG rs++(dsM++[a9])) r1)
  (hM:∀ s0 e0,b9 1259 (j + 113) (aK aW (.str [40]) true s0 e0) dsM a9 M (bS rs true false) 0) (hL:∀ x ∈ cF rs M,t6 x) (k:Nat) :
  run TT 5000 (k + (j + 116)) 1478 [.f (.str t)] []=.ok (.f (vA (cF rs M) (bS rs true false)),[]):=by
 obtain⟨hq,_⟩:=ht.nx (hA.drop _ hn)
 rw[iZ]at hq
 have q1:=fun x hx=>hq x (List.mem_append.2 (.inl hx))
 have q2:=fun x hx=>hq x (List.mem_append.2 (.inr hx))
 generalize ha:(0 + ((d8 rs).n:Nat):Int)=a at *
 have hb:run TT 5000 (k + (j + 115)) 1245 [.ref 0,.f (.bool true)] (G9 t (0 + ((0:Nat):Int)) a a rs)=.ok (.f (.lst (cF rs M)),u2 t (bI a (eG rs++dsM)) rs):=by
  rw[show k + (j + 115)=(k + 1) + (j + 114) by omega]
  refine aI (Iw j t _ _ a (bI a (eG rs++dsM)) M rs hl) (k + 1) mn (wA rs true) (eB ?_ (mc ?_ ?_))
  ·exact tS (k + 1) j t rs true false _ _ a _ (fun r rs' e=>by subst e;rfl) q1
  ·show run TT 5000 (k + 1 + (j + 113)) 1259 [.ref 0] (AI t _ a a rs)=_
   obtain⟨s0,e0,e⟩:=wL rs (bZ rs (0 + ((0:Nat):Int)) a) a (fun e=>by subst e;exact⟨_,_,rfl⟩)
   have:=hM s0 e0 t (bA rs a) (by rw[tI];exact q2) (k + 1)
   unfold AI
   rw[e]
   refine this.trans ?_
   rw[hO _ dsM,tI,hO _ (eG rs) dsM]
   rfl
  ·exact Cs (k + 1) j (O8 _ _ _ _ _ _ _) _ hL
 refine aI (P:=Pl) (n:=j + 116) (q:=[]) (pu:=[]) (nl:=[]) (ul:=[]) (cuts:=[(721,[.val (.ok (.f (cC (d8 rs) 0),iJ t a))]),(1245,[.val (.ok (.f (.lst (cF rs M)),u2 t (bI a (eG rs++dsM)) rs))])]) (ps:=[])
  (cl:=[.call (j + 114) 721 [.ref 1] (iJ t 0) (.ok (.f (cC (d8 rs) 0),iJ t a)),.call (j + 115) 1245 [.ref 0,.f (.bool true)] (gP (cC (d8 rs) 0) .none false 0 0 t a) (.ok (.f (.lst (cF rs M)),u2 t (bI a (eG rs++dsM)) rs))]) ?_ k mn mn (mc ?_ (mc ?_ mn))
 ·kernel_rfl
 ·show run TT 5000 (k + (j + 114)) 721 [.ref 1] (iJ t 0)=_
  rw[show k + (j + 114)=(k + (j + 89)) + 25 by omega,h1 t 0 hA,ha]
 ·rw[wU,ha];exact hb
theorem Dv {rs:List aF} (hl:rs.length ≤ 3) {t:List Nat}{dsM:List TD}{j:Nat}{r0 r1:List Nat} (hA:At t 0 r0) (h1:oL r0 (d8 rs)) (hn:(d8 rs).n ≤ r0.length) (ht:bG (r0.drop (d8 rs).n) (eG rs++dsM) r1)
  (hM:∀ s0 e0,bK 1259 (j + 113) (aK aW (.str [40]) true s0 e0) dsM (bS rs true false) 0) (k:Nat) :
  run TT 5000 (k + (j + 116)) 1478 [.f (.str t)] []=.raise:=by
 obtain⟨hq,_⟩:=ht.nx (hA.drop _ hn)
 rw[iZ]at hq
 have q1:=fun x hx=>hq x (List.mem_append.2 (.inl hx))
 have q2:=fun x hx=>hq x (List.mem_append.2 (.inr hx))
 generalize ha:(0 + ((d8 rs).n:Nat):Int)=a at *
 have hb:run TT 5000 (k + (j + 115)) 1245 [.ref 0,.f (.bool true)] (G9 t (0 + ((0:Nat):Int)) a a rs)=.raise:=by
  rw[show k + (j + 115)=(k + 1) + (j + 114) by omega]
  refine aI (IP j t _ _ a rs hl) (k + 1) mn (wA rs true) (eB ?_ (mc ?_ mn))
  ·exact tS (k + 1) j t rs true false _ _ a _ (fun r rs' e=>by subst e;rfl) q1
  ·show run TT 5000 (k + 1 + (j + 113)) 1259 [.ref 0] (AI t _ a a rs)=_
   obtain⟨s0,e0,e⟩:=wL rs (bZ rs (0 + ((0:Nat):Int)) a) a (fun e=>by subst e;exact⟨_,_,rfl⟩)
   have:=hM s0 e0 t (bA rs a) (by rw[tI];exact q2) (k + 1)
   unfold AI
   rw[e]
   exact this
 refine aI (P:=Pl) (n:=j + 116) (q:=[]) (pu:=[]) (nl:=[]) (ul:=[]) (cuts:=[(721,[.val (.ok (.f (cC (d8 rs) 0),iJ t a))]),(1245,[.val .raise])]) (ps:=[])
  (cl:=[.call (j + 114) 721 [.ref 1] (iJ t 0) (.ok (.f (cC (d8 rs) 0),iJ t a)),.call (j + 115) 1245 [.ref 0,.f (.bool true)] (gP (cC (d8 rs) 0) .none false 0 0 t a) .raise]) ?_ k mn mn (mc ?_ (mc ?_ mn))
 ·kernel_rfl
 ·show run TT 5000 (k + (j + 114)) 721 [.ref 1] (iJ t 0)=_
  rw[show k + (j + 114)=(k + (j + 89)) + 25 by omega,h1 t 0 hA,ha]
 ·rw[wU,ha];exact hb
end Mine
end
section
namespace Mine
noncomputable def wW (f:Nat):FI:=oe ((iS f TT.fns).bind fun p=>tR p.1 p.2) (fun fi=>fi) ⟨[],[],default⟩
noncomputable def dN (f i:Nat):Stmt:=oe (nth (wW f).body i) (fun s=>s) (.Pass default)
noncomputable def Dj (s:Stmt):Expr:=s7 s (.Constant .none 0 default) (fun _ _ _=>.Constant .none 0 default) (fun _=>.Constant .none 0 default) (fun _=>.Constant .none 0 default) (fun _ _=>.Constant .none 0 default) (fun _ _ _=>.Constant .none 0 default) (fun _ _ _ _=>.Constant .none 0 default) (fun t _ _=>t) (fun _ _ _=>.Constant .none 0 default) (fun _ _=>.Constant .none 0 default) (fun _ _ _ _=>.Constant .none 0 default) (fun _=>.Constant .none 0 default) (.Constant .none 0 default) (.Constant .none 0 default)
noncomputable def vB (s:Stmt):List Stmt:=s7 s [] (fun _ _ _=>[]) (fun _=>[]) (fun _=>[]) (fun _ _=>[]) (fun _ _ _=>[]) (fun _ _ _ _=>[]) (fun _ b _=>b) (fun _ _ _=>[]) (fun _ _=>[]) (fun _ _ _ _=>[]) (fun _=>[]) [] []
noncomputable def dC (f:Nat):Cx:=⟨f,(wW f).sc,5000⟩
theorem iX {C:bW}{ih:Cx→Stmt→St→Pg (Fl × St)}{cx:Cx}{s:Stmt}{r:List Stmt}{st st':St} (h:aN C (ih cx s st)=.ok (.next,st')):aN C (dS ih cx (s::r) st)=aN C (dS ih cx r st'):=by
 refine(aZ C (ih cx s st) _).trans ?_;rw[h];rfl
theorem uD {C:bW}{ih:Cx→Stmt→St→Pg (Fl × St)}{cx:Cx}{s:Stmt}{r:List Stmt}{st st':St}{w:PV} (h:aN C (ih cx s st)=.ok (.ret w,st')):aN C (dS ih cx (s::r) st)=.ok (.ret w,st'):=by
 refine(aZ C (ih cx s st) _).trans ?_;rw[h];rfl
theorem B9 {C:bW}{f n:Nat}{ws:List PV}{g:List MO}{l:List Stmt}{v c:List (Str × PV)}{b:Bool} (h:i0 TT f ws g=some (wW f,v,c)) (hl:(wW f).body=l) (ht:cX l=none) (hb:dY f TT.inits=b) (hn:g.length=n) :
  cG TT C 5000 f ws g=aN C ((dS (ex TT 30) (dC f) l ⟨g,[],v,c⟩).bind fun r=>opt (gK b n r) .ok):=by
 rw[← hl]at ht
 rw[← hl,← hb,← hn]
 unfold cG
 rw[h]
 show oe (cX (wW f).body) _ (aN C (iR TT 5000 f g (wW f,v,c)))=_
 rw[ht]
 rfl
theorem NF {T:bQ}{k:Nat}{cx:Cx}{t:Expr}{b:List Stmt}{p:Pos}{st:St}:ex T (k + 1) cx (.While t b [] p) st=jQ (gC T cx t) (dS (ex T k) cx b) cx.m st:=rfl
theorem yJ {f i:Nat} (h:dN f i=.While (Dj (dN f i)) (vB (dN f i)) [] (dN f i).pos) (st:St):ex TT 30 (dC f) (dN f i) st=jQ (gC TT (dC f) (Dj (dN f i))) (dS (ex TT 29) (dC f) (vB (dN f i))) 5000 st:=(congrArg (fun s=>ex TT 30 (dC f) s st) h).trans NF
theorem gW {C:bW}{t:St→Pg (Bool × St)}{b:St→Pg (Fl × St)}{m:Nat}{st st':St} (h:aN C (t st)=.ok (true,st)) (h':aN C (b st)=.ok (.next,st')):aN C (jQ t b (m + 1) st)=aN C (jQ t b m st'):=by
 refine(aZ C (t st) _).trans ?_;rw[h];refine(aZ C (b st) _).trans ?_;rw[h'];rfl
theorem uB {C:bW}{t:St→Pg (Bool × St)}{b:St→Pg (Fl × St)}{m:Nat}{st:St} (h:aN C (t st)=.ok (false,st)):aN C (jQ t b (m + 1) st)=.ok (.next,st):=by
 refine(aZ C (t st) _).trans ?_;rw[h];rfl
mutual
inductive Tr:FV→Nat→Prop
 | none:Tr .none 1
 | bool (b):Tr (.bool b) 1
 | int (i):Tr (.int i) 1
 | str (s):Tr (.str s) 1
 | lst {xs n}:gZ xs n→Tr (.lst xs) (n + 1)
 | node {k ps n}:gZ ps n→Tr (nd k ps) (n + 1)
inductive gZ:List FV→Nat→Prop
 | nil:gZ [] 0
 | cons {x xs n m}:Tr x n→gZ xs m→gZ (x::xs) (n + m)
end
theorem Tr.pos {x:FV}{n:Nat} (h:Tr x n):1 ≤ n:=by cases h<;>omega
theorem gZ.len:∀ {xs:List FV}{n:Nat},gZ xs n→xs.length ≤ n
 | [],_,_=>Nat.zero_le _
 | _::xs,_,.cons (m:=m) h t=>by
  have:=t.len;have:=h.pos
  simp only[List.length];omega
theorem gZ.app:∀ {xs ys:List FV}{n m:Nat},gZ xs n→gZ ys m→gZ (xs++ys) (n + m)
 | [],ys,_,m,.nil,h=>by simpa using h
 | x::xs,ys,_,m,.cons h t,h'=>by
  rw[Nat.add_assoc];exact .cons h (t.app h')
theorem gZ.snoc:∀ {xs:List FV}{x:FV}{n:Nat},gZ (xs++[x]) n→∃ a b,gZ xs a∧Tr x b∧n=a + b
 | [],x,_,.cons h .nil=>⟨0,_,.nil,h,by omega⟩
 | y::xs,x,_,.cons h t=>by
  obtain⟨a,b,h1,h2,e⟩:=t.snoc
  exact⟨_,b,.cons h h1,h2,by omega⟩
noncomputable def fA (x:FV):FV:=.tup [x,x]
noncomputable def cP (x y:FV) (h:List (Str × PV)):List (Str × PV):=(Str.ofString "one",.f x)::(Str.ofString "other",.f y)::(Str.ofString "waiting",.loc 0)::h
noncomputable def hT (a b:FV):List (Str × PV):=[(Str.ofString "here",.f a),(Str.ofString "there",.f b)]
noncomputable def cE (vs:List FV) (W:List FV) (v:List (Str × PV)):St:=⟨[.lst vs],[.lst W],v,[]⟩
noncomputable def xZ:FP:={ P0 with pz:=[61,54],pu:=[] }
noncomputable def CD:St→Pg (Bool × St):=gC TT (dC 61) (Dj (dN 61 1))
noncomputable def zI:St→Pg (Fl × St):=dS (ex TT 29) (dC 61) (vB (dN 61 1))
noncomputable def HS:St→Option PV:=fun st=>oV TT .len [.loc 0] st
theorem cM {n:Nat} (h:n ≤ 100000):fits n=true:=Nat.ble_eq_true_of_le (by omega)
theorem Hy {vs W:List FV}{v:List (Str × PV)} (h:W.length ≤ 100000):HS (cE vs W v)=some (.f (.int W.length)):=by
 show gd (fits W.length) _=_
 rw[cM h];rfl
theorem LJ (n:Nat):(cO .Gt (.f (.int (n:Nat))) (.f (.int 0)))=some (decide (0 < n)):=by
 show some (decide ((0:Int) < (n:Int)))=_
 congr 1
 cases n with
 | zero=>rfl
 | succ n=>rw[decide_eq_true (by omega),decide_eq_true (by omega)]
theorem On (k:Nat) (vs W:List FV) (x y:FV) (h:List (Str × PV)) (hW:W.length ≤ 100000):aN (run TT 5000 (k + 5)) (CD (cE vs W (cP x y h)))=.ok (decide (0 < W.length),cE vs W (cP x y h)):=by
 exact dW (P:=xZ) (n:=5) (pu:=[]) (cuts:=[]) (ps:=[.w (.f (.int W.length)),.b (decide (0 < W.length))]) (cl:=[.pw HS (cE vs W (cP x y h)) (.f (.int W.length)),.pb ((cO .Gt (.f (.int W.length)) (.f (.int 0)))) (decide (0 < W.length))]) (by kernel_rfl) k mn
  (mc (Hy hW) (mc (LJ _) mn))
theorem tU {vs W:List FV}{x:FV}{v:List (Str × PV)} (h:W.length ≤ 10000):mE (.loc 0) [] (cE vs (W++[x]) v)=some (.f x,cE vs W v):=by
 show gd (fits (W++[x]).length) (@List.rec FV (fun _=>Option (PV × St)) none (fun y r _=>some (.f y,(⟨[.lst vs],[.lst r.reverse],v,[]⟩:St))) (W++[x]).reverse)=_
 rw[cM (by rw[List.length_append];show W.length + 1 ≤ _;omega),List.reverse_append]
 show some (PV.f x,(⟨[.lst vs],[.lst W.reverse.reverse],v,[]⟩:St))=_
 rw[List.reverse_reverse];rfl
theorem z5 {vs W zs:List FV}{v:List (Str × PV)} (h:W.length + zs.length ≤ 10000):rC (.loc 0) [.f (.lst zs)] (cE vs W v)=some (.f .none,cE vs (W++zs) v):=by
 show gd (fits (W.length + zs.length)) _=_
 rw[cM (by omega)];rfl
theorem CO {xs:List FV}{st:St} (h:xs.length ≤ 10000):x9 TT 43 xs xs st=some (.f (.lst (eX xs xs)),st):=by
 unfold x9
 rw[cM (by omega)];rfl
noncomputable def pZ (x:FV):St→Option PV:=fun st=>oV TT .len [.f x] st
theorem kG {xs:List FV} (h:xs.length ≤ 10000):∀ st,pZ (.lst xs) st=some (.f (.int xs.length)):=by
 intro st
 show gd (fits xs.length) _=_
 rw[cM (by omega)];rfl
theorem Dk (a:List Nat):gE a a=true:=PySem.W.Fast.lEq_iff.mpr rfl
noncomputable def x0 (x:FV):Option Bool:=(cO .Eq (.f x) (.f x))
noncomputable def KB (n:Nat):Option Bool:=(cO .NotEq (.f (.int (n:Nat))) (.f (.int (n:Nat))))
theorem Cy (n:Nat):KB n=some false:=by
 show some (((n:Int) != (n:Int)))=_
 simp
inductive fT:FV→Prop
 | none:fT .none
 | bool (b):fT (.bool b)
 | int (i):fT (.int i)
 | str (s):fT (.str s)
theorem nA {x:FV} (h:fT x):x0 x=some true:=by
 cases h with
 | none=>rfl
 | bool b=>cases b<;>rfl
 | int i=>show some (i == i)=_;simp
 | str s=>show some (gE s s)=_;rw[Dk]
theorem Fj (k:Nat) (vs W:List FV) (X Y x:FV) (h:List (Str × PV)) (hh:h=[]∨∃ a b,h=hT a b) (hx:fT x) (hW:W.length ≤ 10000) :
  aN (run TT 5000 (k + 5)) (zI (cE vs (W++[fA x]) (cP X Y h)))=.ok (.next,cE vs W (cP X Y (hT x x))):=by
 have H:∀ l ∈ [Lg.ps (mE (.loc 0) [] (cE vs (W++[fA x]) (cP X Y h))) (.f (fA x),cE vs W (cP X Y h)),.pb (x0 x) true],xZ.Holds k l:=mc (tU hW) (mc (nA hx) mn)
 refine dW (P:=xZ) (n:=5) (pu:=[]) (cuts:=[]) (ul:=[]) (ps:=[.s (.f (fA x),cE vs W (cP X Y h)),.auto,.auto,.auto,.auto,.auto,.auto,.b true,.auto,.auto]) ?_ k mn H
 rcases hh with rfl | ⟨a,b,rfl⟩<;>cases hx<;>kernel_rfl
theorem Fb (k:Nat) (vs W:List FV) (X Y:FV) (kd:List Nat) (ps:List FV) (h:List (Str × PV)) (hh:h=[]∨∃ a b,h=hT a b) (hW:W.length + ps.length ≤ 10000) :
  aN (run TT 5000 (k + 5)) (zI (cE vs (W++[fA (nd kd ps)]) (cP X Y h)))=.ok (.next,cE vs (W++eX ps ps) (cP X Y (hT (.lst ps) (.lst ps)))):=by
 have hz:(eX ps ps).length=ps.length:=by
  clear hW;induction ps with
  | nil=>rfl
  | cons x r ih=>exact congrArg (· + 1) ih
 have H:∀ l ∈ [Lg.ps (mE (.loc 0) [] (cE vs (W++[fA (nd kd ps)]) (cP X Y h))) (.f (fA (nd kd ps)),cE vs W (cP X Y h)),.pb (x0 (.str kd)) true,
   .pv (pZ (.lst ps)) (.f (.int ps.length)),.pv (pZ (.lst ps)) (.f (.int ps.length)),.pb (KB ps.length) false,
   .ps (x9 TT 43 ps ps (cE vs W (cP X Y (hT (.lst ps) (.lst ps))))) (.f (.lst (eX ps ps)),cE vs W (cP X Y (hT (.lst ps) (.lst ps)))),
   .ps (rC (.loc 0) [.f (.lst (eX ps ps))] (cE vs W (cP X Y (hT (.lst ps) (.lst ps))))) (.f .none,cE vs (W++eX ps ps) (cP X Y (hT (.lst ps) (.lst ps))))],xZ.Holds k l :=
  mc (tU (by omega)) (mc (nA (.str _)) (mc (kG (by omega)) (mc (kG (by omega)) (mc (Cy _) (mc (CO (by omega)) (mc (z5 (by omega)) mn))))))
 refine dW (P:=xZ) (n:=5) (pu:=[]) (cuts:=[]) (ul:=[]) (ps:=[.s (.f (fA (nd kd ps)),cE vs W (cP X Y h)),.auto,.auto,.b true,.auto,.auto,.v (.f (.int ps.length)),.v (.f (.int ps.length)),.b false,.s (.f (.lst (eX ps ps)),cE vs W (cP X Y (hT (.lst ps) (.lst ps)))),.s (.f .none,cE vs (W++eX ps ps) (cP X Y (hT (.lst ps) (.lst ps))))]) ?_ k mn H
 rcases hh with rfl | ⟨a,b,rfl⟩<;>kernel_rfl
theorem IO (k:Nat) (vs W:List FV) (X Y:FV) (ps:List FV) (h:List (Str × PV)) (hh:h=[]∨∃ a b,h=hT a b) (hW:W.length + ps.length ≤ 10000) :
  aN (run TT 5000 (k + 5)) (zI (cE vs (W++[fA (.lst ps)]) (cP X Y h)))=.ok (.next,cE vs (W++eX ps ps) (cP X Y (hT (.lst ps) (.lst ps)))):=by
 have hz:(eX ps ps).length=ps.length:=by
  clear hW;induction ps with
  | nil=>rfl
  | cons x r ih=>exact congrArg (· + 1) ih
 have H:∀ l ∈ [Lg.ps (mE (.loc 0) [] (cE vs (W++[fA (.lst ps)]) (cP X Y h))) (.f (fA (.lst ps)),cE vs W (cP X Y h)),
   .pv (pZ (.lst ps)) (.f (.int ps.length)),.pv (pZ (.lst ps)) (.f (.int ps.length)),.pb (KB ps.length) false,
   .ps (x9 TT 43 ps ps (cE vs W (cP X Y (hT (.lst ps) (.lst ps))))) (.f (.lst (eX ps ps)),cE vs W (cP X Y (hT (.lst ps) (.lst ps)))),
   .ps (rC (.loc 0) [.f (.lst (eX ps ps))] (cE vs W (cP X Y (hT (.lst ps) (.lst ps))))) (.f .none,cE vs (W++eX ps ps) (cP X Y (hT (.lst ps) (.lst ps))))],xZ.Holds k l :=
  mc (tU (by omega)) (mc (kG (by omega)) (mc (kG (by omega)) (mc (Cy _) (mc (CO (by omega)) (mc (z5 (by omega)) mn)))))
 refine dW (P:=xZ) (n:=5) (pu:=[]) (cuts:=[]) (ul:=[]) (ps:=[.s (.f (fA (.lst ps)),cE vs W (cP X Y h)),.auto,.auto,.auto,.auto,.auto,.auto,.auto,.auto,.v (.f (.int ps.length)),.v (.f (.int ps.length)),.b false,.s (.f (.lst (eX ps ps)),cE vs W (cP X Y (hT (.lst ps) (.lst ps)))),.s (.f .none,cE vs (W++eX ps ps) (cP X Y (hT (.lst ps) (.lst ps))))]) ?_ k mn H
 rcases hh with rfl | ⟨a,b,rfl⟩<;>kernel_rfl
end Mine
end
section
namespace Mine
theorem uQ (xs:List FV):eX xs xs=xs.map fA:=by
 induction xs with
 | nil=>rfl
 | cons x xs ih=>show _::eX xs xs=_;rw[ih];rfl
theorem uR {α:Type}:∀ l:List α,l=[]∨∃ ys y,l=ys++[y]
 | []=>.inl rfl
 | x::l=>by
  rcases uR l with rfl | ⟨ys,y,rfl⟩
  ·exact .inr ⟨[],x,rfl⟩
  ·exact .inr ⟨x::ys,y,rfl⟩
theorem lP (k:Nat) (vs:List FV) (X Y:FV):∀ (n m:Nat) (xs:List FV) (h:List (Str × PV)),n < m→n ≤ 5000→(h=[]∨∃ a b,h=hT a b)→gZ xs n →
  ∃ h',aN (run TT 5000 (k + 5)) (jQ CD zI m (cE vs (xs.map fA) (cP X Y h)))=.ok (.next,cE vs [] (cP X Y h'))
 | n,0,_,_,hm,_,_,_=>by omega
 | n,m + 1,xs,h,hm,hn,hh,ht=>by
  have hl:=ht.len
  rcases uR xs with rfl | ⟨ys,x,rfl⟩
  ·exact⟨h,uB (On k vs [] X Y h (by simp))⟩
  ·obtain⟨a,b,ha,hb,e⟩:=ht.snoc
   have hp:=hb.pos
   have hla:=ha.len
   have hy:(ys.map fA).length ≤ 5000:=by simp;omega
   have t1:aN (run TT 5000 (k + 5)) (CD (cE vs ((ys++[x]).map fA) (cP X Y h)))=.ok (true,cE vs ((ys++[x]).map fA) (cP X Y h)):=by
    rw[On k vs _ X Y h (by simp;omega)]
    rw[decide_eq_true (by simp)]
   rw[List.map_append]at t1 ⊢
   have leaf:fT x→b=1→∃ h',aN (run TT 5000 (k + 5)) (jQ CD zI (m + 1) (cE vs (ys.map fA++[x].map fA) (cP X Y h)))=.ok (.next,cE vs [] (cP X Y h')):=fun hx e1=>by
    have b1:=Fj k vs (ys.map fA) X Y x h hh hx (by omega)
    obtain⟨h',e'⟩:=lP k vs X Y a m ys _ (by omega) (by omega) (.inr ⟨x,x,rfl⟩) ha
    exact⟨h',(gW t1 b1).trans e'⟩
   cases hb with
   | none=>exact leaf .none rfl
   | bool i=>exact leaf (.bool i) rfl
   | int i=>exact leaf (.int i) rfl
   | str i=>exact leaf (.str i) rfl
   | @lst zs c hc =>
    have hc':=hc.len
    have b1:=IO k vs (ys.map fA) X Y zs h hh (by simp;omega)
    rw[uQ,← List.map_append]at b1
    obtain⟨h',e'⟩:=lP k vs X Y _ m _ _ (by omega) (by omega) (.inr ⟨_,_,rfl⟩) (ha.app hc)
    exact⟨h',(gW t1 b1).trans e'⟩
   | @node kd zs c hc =>
    have hc':=hc.len
    have b1:=Fb k vs (ys.map fA) X Y kd zs h hh (by simp;omega)
    rw[uQ,← List.map_append]at b1
    obtain⟨h',e'⟩:=lP k vs X Y _ m _ _ (by omega) (by omega) (.inr ⟨_,_,rfl⟩) (ha.app hc)
    exact⟨h',(gW t1 b1).trans e'⟩
theorem QB (C:bW) (vs:List FV) (X:FV):cG TT C 5000 61 [.f X,.f X] [.lst vs]=aN C ((dS (ex TT 30) (dC 61) [dN 61 0,dN 61 1,dN 61 2] ⟨[.lst vs],[],[(Str.ofString "one",.f X),(Str.ofString "other",.f X)],[]⟩).bind fun r=>opt (gK false 1 r) .ok) :=
 B9 (by kernel_rfl) (by kernel_rfl) (by kernel_rfl) (by kernel_rfl) rfl
theorem Pa (st:St):ex TT 30 (dC 61) (dN 61 1) st=jQ CD zI 5000 st:=yJ (by kernel_rfl) st
theorem Ho {X:FV}{n:Nat} (h:Tr X n) (hn:n ≤ 4000) (vs:List FV) (k:Nat):run TT 5000 (k + 7) 61 [.f X,.f X] [.lst vs]=.ok (.f (.bool true),[.lst vs]):=by
 show cG TT (run TT 5000 (k + 1 + 5)) 5000 61 [.f X,.f X] [.lst vs]=_
 rw[QB,aZ,iX (st':=cE vs [fA X] (cP X X [])) (by kernel_rfl)]
 obtain⟨h',e⟩:=lP (k + 1) vs X X n 5000 [X] [] (by omega) (by omega) (.inl rfl) (.cons h .nil)
 have e2:aN (run TT 5000 (k + 1 + 5)) (ex TT 30 (dC 61) (dN 61 1) (cE vs [fA X] (cP X X [])))=.ok (.next,cE vs [] (cP X X h')):=by rw[Pa];exact e
 rw[iX e2,uD (w:=.f (.bool true)) (st':=cE vs [] (cP X X h')) (by kernel_rfl)]
 kernel_rfl
end Mine
end
section
namespace Mine
noncomputable def dX (x:FV) (h:List (Str × PV)):List (Str × PV):=(Str.ofString "node",.f x)::(Str.ofString "found",.loc 0)::(Str.ofString "waiting",.loc 2)::h
noncomputable def hP (a:FV):List (Str × PV):=[(Str.ofString "part",.f a)]
noncomputable def dD (d:KD) (F P W:List FV) (v:List (Str × PV)):St:=⟨d.g1,[.lst F,.lst P,.lst W],v,[]⟩
noncomputable def xM:FP:={ P0 with pz:=[42],pu:=[] }
noncomputable def Lj:St→Pg (Bool × St):=gC TT (dC 42) (Dj (dN 42 1))
noncomputable def D7:St→Pg (Fl × St):=dS (ex TT 29) (dC 42) (vB (dN 42 1))
noncomputable def GG:St→Option PV:=fun st=>oV TT .len [.loc 2] st
theorem GO (k:Nat) (d:KD) (F P W:List FV) (x:FV) (h:List (Str × PV)) (hW:W.length ≤ 100000):aN (run TT 5000 (k + 5)) (Lj (dD d F P W (dX x h)))=.ok (decide (0 < W.length),dD d F P W (dX x h)):=by
 have hl:GG (dD d F P W (dX x h))=some (.f (.int W.length)):=by
  show gd (fits W.length) _=_
  rw[cM hW];rfl
 exact dW (P:=xM) (n:=5) (pu:=[]) (cuts:=[]) (ps:=[.w (.f (.int W.length)),.b (decide (0 < W.length))]) (cl:=[.pw GG (dD d F P W (dX x h)) (.f (.int W.length)),.pb ((cO .Gt (.f (.int W.length)) (.f (.int 0)))) (decide (0 < W.length))]) (by kernel_rfl) k mn
  (mc hl (mc (LJ _) mn))
theorem Ap {d:KD}{F P W:List FV}{x:FV}{v:List (Str × PV)} (h:W.length ≤ 10000):mE (.loc 2) [] (dD d F P (W++[x]) v)=some (.f x,dD d F P W v):=by
 show gd (fits (W++[x]).length) (@List.rec FV (fun _=>Option (PV × St)) none (fun y r _=>some (.f y,(⟨d.g1,[.lst F,.lst P,.lst r.reverse],v,[]⟩:St))) (W++[x]).reverse)=_
 rw[cM (by rw[List.length_append];show W.length + 1 ≤ _;omega),List.reverse_append]
 show some (PV.f x,(⟨d.g1,[.lst F,.lst P,.lst W.reverse.reverse],v,[]⟩:St))=_
 rw[List.reverse_reverse];rfl
theorem MN {d:KD}{F P W:List FV}{x:FV}{v:List (Str × PV)} (h:F.length ≤ 10000):Ak (.loc 0) [.f x] (dD d F P W v)=some (.f .none,dD d (F++[x]) P W v):=by
 show gd (fits F.length) _=_
 rw[cM (by omega)];rfl
theorem MT {d:KD}{F P W zs:List FV}{v:List (Str × PV)} (h:W.length + zs.length ≤ 10000):rC (.loc 2) [.f (.lst zs)] (dD d F P W v)=some (.f .none,dD d F P (W++zs) v):=by
 show gd (fits (W.length + zs.length)) _=_
 rw[cM (by omega)];rfl
theorem Dw (k:Nat) (d:KD) (F P W:List FV) (X x:FV) (h:List (Str × PV)) (hh:h=[]∨∃ a,h=hP a) (hx:fT x) (hW:W.length ≤ 10000) :
  aN (run TT 5000 (k + 5)) (D7 (dD d F P (W++[x]) (dX X h)))=.ok (.next,dD d F P W (dX X (hP x))):=by
 have H:∀ l ∈ [Lg.ps (mE (.loc 2) [] (dD d F P (W++[x]) (dX X h))) (.f x,dD d F P W (dX X h))],xM.Holds k l:=mc (Ap hW) mn
 refine dW (P:=xM) (n:=5) (pu:=[]) (cuts:=[]) (ul:=[]) (ps:=[.s (.f x,dD d F P W (dX X h)),.auto,.auto]) ?_ k mn H
 rcases hh with rfl | ⟨a,rfl⟩<;>cases hx<;>kernel_rfl
theorem ER (k:Nat) (d:KD) (F P W:List FV) (X:FV) (kd:List Nat) (q:List FV) (h:List (Str × PV)) (hh:h=[]∨∃ a,h=hP a) (hF:F.length ≤ 10000) (hW:W.length ≤ 10000) :
  aN (run TT 5000 (k + 5)) (D7 (dD d F P (W++[nd kd q]) (dX X h)))=.ok (.next,dD d (F++[nd kd q]) P W (dX X (hP (nd kd q)))):=by
 have H:∀ l ∈ [Lg.ps (mE (.loc 2) [] (dD d F P (W++[nd kd q]) (dX X h))) (.f (nd kd q),dD d F P W (dX X h)),.ps (Ak (.loc 0) [.f (nd kd q)] (dD d F P W (dX X (hP (nd kd q))))) (.f .none,dD d (F++[nd kd q]) P W (dX X (hP (nd kd q))))],xM.Holds k l:=mc (Ap hW) (mc (MN hF) mn)
 refine dW (P:=xM) (n:=5) (pu:=[]) (cuts:=[]) (ul:=[]) (ps:=[.s (.f (nd kd q),dD d F P W (dX X h)),.auto,.s (.f .none,dD d (F++[nd kd q]) P W (dX X (hP (nd kd q))))]) ?_ k mn H
 rcases hh with rfl | ⟨a,rfl⟩<;>kernel_rfl
theorem JF (k:Nat) (d:KD) (F P W:List FV) (X:FV) (xs:List FV) (hx:xs.length ≤ 2) (h:List (Str × PV)) (hh:h=[]∨∃ a,h=hP a) (hW:W.length ≤ 9990) :
  aN (run TT 5000 (k + 5)) (D7 (dD d F P (W++[.lst xs]) (dX X h)))=.ok (.next,dD d F P (W++xs.reverse) (dX X (hP (.lst xs)))):=by
 have H:∀ l ∈ [Lg.ps (mE (.loc 2) [] (dD d F P (W++[.lst xs]) (dX X h))) (.f (.lst xs),dD d F P W (dX X h)),.ps (rC (.loc 2) [.f (.lst xs.reverse)] (dD d F P W (dX X (hP (.lst xs))))) (.f .none,dD d F P (W++xs.reverse) (dX X (hP (.lst xs))))],xM.Holds k l:=mc (Ap (by omega)) (mc (MT (by simp;omega)) mn)
 refine dW (P:=xM) (n:=5) (pu:=[]) (cuts:=[]) (ul:=[]) (ps:=[.s (.f (.lst xs),dD d F P W (dX X h)),.auto,.auto,.auto,.s (.f .none,dD d F P (W++xs.reverse) (dX X (hP (.lst xs))))]) ?_ k mn H
 rcases hh with rfl | ⟨a,rfl⟩
 ·match xs,hx with
  | [],_=>kernel_rfl
  | [a],_=>kernel_rfl
  | [a,b],_=>kernel_rfl
 ·match xs,hx with
  | [],_=>kernel_rfl
  | [a],_=>kernel_rfl
  | [a,b],_=>kernel_rfl
inductive eR:List FV→List FV→Nat→Prop
 | nil:eR [] [] 0
 | leaf {x ps ks c}:fT x→eR ps ks c→eR (x::ps) ks (c + 1)
 | node {k q ps ks c}:eR ps ks c→eR (nd k q::ps) (nd k q::ks) (c + 1)
 | lst {xs ps ks c}:xs.length ≤ 2→eR (xs++ps) ks c→eR (.lst xs::ps) ks (c + 1)
theorem eR.len:∀ {ps ks:List FV}{c:Nat},eR ps ks c→ps.length ≤ c∧ks.length ≤ c
 | _,_,_,.nil=>⟨Nat.le_refl _,Nat.le_refl _⟩
 | _,_,_,.leaf _ h=>by have:=h.len;simp only[List.length];omega
 | _,_,_,.node h=>by have:=h.len;simp only[List.length];omega
 | _,_,_,.lst _ h=>by have:=h.len;simp only[List.length,List.length_append] at *;omega
theorem lN (k:Nat) (d:KD) (P:List FV) (X:FV):∀ {ps ks:List FV}{c:Nat} (_:eR ps ks c) (m:Nat) (F:List FV) (h:List (Str × PV)),c < m→c ≤ 3000→F.length + c ≤ 6000→(h=[]∨∃ a,h=hP a) →
  ∃ h',aN (run TT 5000 (k + 5)) (jQ Lj D7 m (dD d F P ps.reverse (dX X h)))=.ok (.next,dD d (F++ks) P [] (dX X h'))
 | _,_,_,.nil,m + 1,F,h,_,_,_,_=>⟨h,by rw[List.append_nil];exact uB (GO k d F P [] X h (by simp))⟩
 | _,_,_,.leaf (x:=x) (ps:=ps) hx hk,m + 1,F,h,hm,hc,hF,hh=>by
  have hl:=hk.len
  obtain⟨h',e⟩:=lN k d P X hk m F (hP x) (by omega) (by omega) (by omega) (.inr ⟨_,rfl⟩)
  rw[List.reverse_cons]
  refine⟨h',(gW ?_ (Dw k d F P ps.reverse X x h hh hx (by simp;omega))).trans e⟩
  rw[GO k d F P _ X h (by simp;omega),decide_eq_true (by simp)]
 | _,_,_,.node (k:=kd) (q:=q) (ps:=ps) (ks:=ks) hk,m + 1,F,h,hm,hc,hF,hh=>by
  have hl:=hk.len
  obtain⟨h',e⟩:=lN k d P X hk m (F++[nd kd q]) (hP (nd kd q)) (by omega) (by omega) (by simp;omega) (.inr ⟨_,rfl⟩)
  rw[List.reverse_cons]
  refine⟨h',(gW ?_ (ER k d F P ps.reverse X kd q h hh (by omega) (by simp;omega))).trans (e.trans ?_)⟩
  ·rw[GO k d F P _ X h (by simp;omega),decide_eq_true (by simp)]
  ·rw[List.append_assoc];rfl
 | _,_,_,.lst (xs:=xs) (ps:=ps) hx hk,m + 1,F,h,hm,hc,hF,hh=>by
  have hl:=hk.len
  rw[List.length_append]at hl
  obtain⟨h',e⟩:=lN k d P X hk m F (hP (.lst xs)) (by omega) (by omega) (by omega) (.inr ⟨_,rfl⟩)
  rw[List.reverse_append]at e
  rw[List.reverse_cons]
  refine⟨h',(gW ?_ (JF k d F P ps.reverse X xs hx h hh (by simp;omega))).trans e⟩
  rw[GO k d F P _ X h (by simp;omega),decide_eq_true (by simp)]
 | _,_,_,.leaf _ _,0,_,_,hm,_,_,_=>by omega
 | _,_,_,.node _,0,_,_,hm,_,_,_=>by omega
 | _,_,_,.lst _ _,0,_,_,hm,_,_,_=>by omega
theorem Pd (C:bW) (d:KD) (X:FV):cG TT C 5000 42 [.f X] d.g1=aN C ((dS (ex TT 30) (dC 42) [dN 42 0,dN 42 1,dN 42 2] ⟨d.g1,[],[(Str.ofString "node",.f X)],[]⟩).bind fun r=>opt (gK false 2 r) .ok) :=
 B9 (by kernel_rfl) (by kernel_rfl) (by kernel_rfl) (by kernel_rfl) rfl
theorem Po (st:St):ex TT 30 (dC 42) (dN 42 1) st=jQ Lj D7 5000 st:=yJ (by kernel_rfl) st
theorem ED (C:bW) (d:KD) (kd:List Nat) (ps:List FV) (h:ps.length ≤ 5):aN C (ex TT 30 (dC 42) (dN 42 0) ⟨d.g1,[],[(Str.ofString "node",.f (nd kd ps))],[]⟩)=.ok (.next,dD d [] ps ps.reverse (dX (nd kd ps) [])):=by
 match ps,h with
 | [],_=>kernel_rfl
 | [a],_=>kernel_rfl
 | [a,b],_=>kernel_rfl
 | [a,b,c],_=>kernel_rfl
 | [a,b,c,d'],_=>kernel_rfl
 | [a,b,c,d',e],_=>kernel_rfl
theorem Ic {ps ks:List FV}{c:Nat} (hk:eR ps ks c) (hc:c ≤ 3000) (hl:ps.length ≤ 5) (kd:List Nat) (d:KD) (k:Nat):run TT 5000 (k + 7) 42 [.f (nd kd ps)] d.g1=.ok (.f (.lst ks),d.g1):=by
 show cG TT (run TT 5000 (k + 1 + 5)) 5000 42 [.f (nd kd ps)] d.g1=_
 rw[Pd,aZ,iX (ED _ d kd ps hl)]
 obtain⟨h',e⟩:=lN (k + 1) d ps (nd kd ps) hk 5000 [] [] (by omega) hc (by simp;omega) (.inl rfl)
 have e2:aN (run TT 5000 (k + 1 + 5)) (ex TT 30 (dC 42) (dN 42 1) (dD d [] ps ps.reverse (dX (nd kd ps) [])))=.ok (.next,dD d ([]++ks) ps [] (dX (nd kd ps) h')):=by rw[Po];exact e
 rw[iX e2,uD (w:=.loc 0) (st':=dD d ([]++ks) ps [] (dX (nd kd ps) h')) (by kernel_rfl)]
 kernel_rfl
end Mine
end
section
namespace Mine
inductive RL {α β:Type} (R:α→List β→Prop):List α→List β→Prop
 | nil:RL R [] []
 | cons {x y xs ys}:R x y→RL R xs ys→RL R (x::xs) (y++ys)
theorem C3 {α:Type}{C:bW}{x:Pg α}{a:α} (h:aN C x=.ok a):aN C (fG x)=.ok a:=by
 induction x with
 | stuck=>exact h
 | raise=>exact nk2 h
 | ok=>exact h
 | ask c m q k ih =>
  replace h:(lD c (q.run C)).bind (fun r=>aN C (k r))=.ok a:=h
  show(calm (q.run C)).bind (fun r=>aN C (fG (k r)))=.ok a
  cases e:q.run C with
  | stuck=>rw[e]at h;cases c<;>exact nk1 h
  | raise=>rw[e]at h;cases c<;>first | exact nk2 h | exact nk1 h
  | ok r=>rw[e]at h;cases c<;>exact ih r h
theorem qR {α β:Type}{C:bW}{f:α→St→Pg (List β × St)}{Inv:St→Prop}{R:α→List β→Prop} (H:∀ x y,R x y→∀ st,Inv st→∃ st',aN C (f x st)=.ok (y,st')∧Inv st'):∀ {L:List α}{ys:List β},RL R L ys→∀ st,Inv st→∃ st',aN C (iY f L st)=.ok (ys,st')∧Inv st'
 | _,_,.nil,st,hi=>⟨st,rfl,hi⟩
 | _,_,.cons (x:=x) (y:=y) (xs:=xs) (ys:=ys) hr ht,st,hi=>by
  obtain⟨s1,e1,h1⟩:=H x y hr st hi
  obtain⟨s2,e2,h2⟩:=qR H ht s1 h1
  refine⟨s2,?_,h2⟩
  refine(aZ C (f x st) _).trans ?_
  rw[e1]
  refine(aZ C (iY f xs s1) _).trans ?_
  rw[e2];rfl
theorem yE {C:bW}{ih:Cx→Expr→St→Pg (PV × St)}{cx:Cx}{inner:St→Pg (List FV × St)}{g:Comprehension}{x:FV}{st st1:St} (e1:xI cx g.target x st=some st1) (e2:aN C (nH ih cx g.ifs st1)=.ok (true,st1)):aN C (lM ih cx inner g x st)=aN C (inner st1):=by
 show aN C (opt (xI cx g.target x st) _)=_
 rw[e1]
 refine(aZ C (nH ih cx g.ifs st1) _).trans ?_
 rw[e2];rfl
theorem LS {T:bQ}{C:bW}{ih:Cx→Expr→St→Pg (PV × St)}{cx:Cx}{elt:Expr}{g g':Comprehension}{Inv Inv':St→Prop}{R:FV→List FV→Prop}
  (H1:∀ x ys,R x ys→∀ st,Inv st→∃ st1 st2,xI cx g.target x st=some st1∧aN C (nH ih cx g.ifs st1)=.ok (true,st1)∧aN C (jB T ih true cx g'.iter st1)=.ok (ys,st2)∧Inv' st2)
  (H2:∀ y st,Inv' st→∃ st1,xI cx g'.target y st=some st1∧aN C (nH ih cx g'.ifs st1)=.ok (true,st1)∧aN C (ih cx elt st1)=.ok (.f y,st1)∧Inv' st1)
  (H3:∀ st,Inv' st→Inv st) {L ys:List FV} (hr:RL R L ys) (st:St) (hi:Inv st):∃ st',aN C (nS T ih cx elt [g'] g L st)=.ok (ys,st')∧Inv st':=by
 refine qR (R:=R) (fun x ys hx st hi=>?_) hr st hi
 obtain⟨s1,s2,e1,e2,e3,i2⟩:=H1 x ys hx st hi
 have hin:∀ (l:List FV) (st:St),Inv' st→∃ st',aN C (nS T ih cx elt [] g' l st)=.ok (l,st')∧Inv' st':=by
  intro l
  induction l with
  | nil=>exact fun st hi=>⟨st,rfl,hi⟩
  | cons y l ihl =>
   intro st hi
   obtain⟨s3,f1,f2,f3,i3⟩:=H2 y st hi
   obtain⟨s4,f4,i4⟩:=ihl s3 i3
   refine⟨s4,?_,i4⟩
   refine(aZ C (lM ih cx (vT ih cx elt) g' y st) _).trans ?_
   rw[yE f1 f2,show aN C (vT ih cx elt s3)=.ok ([y],s3) from(aZ C (ih cx elt s3) _).trans (by rw[f3];rfl)]
   refine(aZ C (nS T ih cx elt [] g' l s3) _).trans ?_
   rw[f4];rfl
 obtain⟨s3,e4,i3⟩:=hin ys s2 i2
 refine⟨s3,?_,H3 _ i3⟩
 refine(yE e1 e2).trans ((aZ C (jB T ih true cx g'.iter s1) _).trans ?_)
 rw[e3]
 exact e4
noncomputable def QD:Stmt→Expr
 | .Assign _ e _=>e
 | _=>.Constant .none 0 default
noncomputable def HP:Expr→Expr
 | .ListComp e _ _ _=>e
 | e=>e
noncomputable def De:Expr→List Comprehension
 | .ListComp _ g _ _=>g
 | _=>[]
noncomputable def Os:Expr→Scope
 | .ListComp _ _ s _=>s
 | _=>default
noncomputable def o8:Expr:=match vB (dN 47 1) with
 | s::_=>QD s
 | []=>.Constant .none 0 default
noncomputable def OY:Comprehension:=match De o8 with
 | g::_=>g
 | []=>⟨.Constant .none 0 default,.Constant .none 0 default,[],0⟩
noncomputable def F1:Comprehension:=match De o8 with
 | _::g::_=>g
 | _=>⟨.Constant .none 0 default,.Constant .none 0 default,[],0⟩
noncomputable def Ff:Cx:=⟨47,Os o8,5000⟩
noncomputable def Rx (X:FV) (L:List FV) (i:Int):List (Str × PV):=[(Str.ofString "node",.f X),(Str.ofString "most",.f (.int 120)),(Str.ofString "level",.f (.lst L)),(Str.ofString "many",.f (.int i))]
noncomputable def hU (d:KD) (X:FV) (L:List FV) (i:Int):St:=⟨d.g1,[],Rx X L i,[]⟩
noncomputable def Kz (d:KD) (st:St):Prop:=(st=⟨d.g1,[],[],[]⟩)∨(∃ x,st=⟨d.g1,[],[(Str.ofString "one",x)],[]⟩)∨∃ x y,st=⟨d.g1,[],[(Str.ofString "one",x),(Str.ofString "child",y)],[]⟩
noncomputable def Pq (d:KD) (st:St):Prop:=(∃ x,st=⟨d.g1,[],[(Str.ofString "one",x)],[]⟩)∨∃ x y,st=⟨d.g1,[],[(Str.ofString "one",x),(Str.ofString "child",y)],[]⟩
noncomputable def JP:FP:={ P0 with pz:=[47],pu:=[] }
noncomputable def KR (C:bW) (d:KD) (x:FV) (ys:List FV):Prop:=C 42 [.f x] d.g1=.ok (.f (.lst ys),d.g1)
theorem Ed (k:Nat) (d:KD) (x:FV) (ys:List FV) (h:KR (run TT 5000 (k + 5)) d x ys) (tl:List (Str × PV)):aN (run TT 5000 (k + 5)) (jB TT (ev TT 39) true Ff F1.iter ⟨d.g1,[],(Str.ofString "one",.f x)::tl,[]⟩)=.ok (ys,⟨d.g1,[],(Str.ofString "one",.f x)::tl,[]⟩):=by
 exact dW (P:=JP) (n:=5) (pu:=[]) (cuts:=[(42,[.val (.ok (.f (.lst ys),d.g1))])]) (ps:=[]) (cl:=[.call 5 42 [.f x] d.g1 (.ok (.f (.lst ys),d.g1))]) (by kernel_rfl) k mn (mc h mn)
theorem LO (k:Nat) (d:KD) {L ys:List FV} (h:RL (KR (run TT 5000 (k + 5)) d) L ys):∃ st',aN (run TT 5000 (k + 5)) (nS TT (ev TT 39) Ff (HP o8) [F1] OY L ⟨d.g1,[],[],[]⟩)=.ok (ys,st')∧Kz d st':=by
 refine LS (Inv:=Kz d) (Inv':=Pq d) (R:=KR (run TT 5000 (k + 5)) d) (fun x ys hx st hi=>?_) (fun y st hi=>?_) (fun st hi=>.inr hi) h _ (.inl rfl)
 ·rcases hi with rfl | ⟨a,rfl⟩ | ⟨a,b,rfl⟩
  ·exact⟨_,_,(show _=some (⟨d.g1,[],[(Str.ofString "one",.f x)],[]⟩:St) from by kernel_rfl),by kernel_rfl,Ed k d x ys hx [],.inl ⟨_,rfl⟩⟩
  ·exact⟨_,_,(show _=some (⟨d.g1,[],[(Str.ofString "one",.f x)],[]⟩:St) from by kernel_rfl),by kernel_rfl,Ed k d x ys hx [],.inl ⟨_,rfl⟩⟩
  ·exact⟨_,_,(show _=some (⟨d.g1,[],[(Str.ofString "one",.f x),(Str.ofString "child",b)],[]⟩:St) from by kernel_rfl),by kernel_rfl,Ed k d x ys hx _,.inr ⟨_,_,rfl⟩⟩
 ·rcases hi with ⟨a,rfl⟩ | ⟨a,b,rfl⟩
  ·exact⟨_,(show _=some (⟨d.g1,[],[(Str.ofString "one",a),(Str.ofString "child",.f y)],[]⟩:St) from by kernel_rfl),by kernel_rfl,by kernel_rfl,.inr ⟨_,_,rfl⟩⟩
  ·exact⟨_,(show _=some (⟨d.g1,[],[(Str.ofString "one",a),(Str.ofString "child",.f y)],[]⟩:St) from by kernel_rfl),by kernel_rfl,by kernel_rfl,.inr ⟨_,_,rfl⟩⟩
noncomputable def Gw:St→Pg (Bool × St):=gC TT (dC 47) (Dj (dN 47 1))
noncomputable def GT:St→Pg (Fl × St):=dS (ex TT 29) (dC 47) (vB (dN 47 1))
noncomputable def OS (i:Int):Option Bool:=(cO .LtE (.f (.int i)) (.f (.int 120)))
theorem Jf {i:Int} (h:i ≤ 120):OS i=some true:=by
 show some (decide (i ≤ (120:Int)))=_
 rw[decide_eq_true h]
theorem Hk (k:Nat) (d:KD) (X:FV) (i:Int):aN (run TT 5000 (k + 5)) (Gw (hU d X [] i))=.ok (false,hU d X [] i):=by kernel_rfl
theorem RU (k:Nat) (d:KD) (X:FV) (L:List FV) (i:Int) (hL:L.length ≤ 10000) (hL':0 < L.length) (hi:i ≤ 120):aN (run TT 5000 (k + 5)) (Gw (hU d X L i))=.ok (true,hU d X L i):=by
 exact dW (P:=JP) (n:=5) (pu:=[]) (cuts:=[]) (ps:=[.v (.f (.int L.length)),.b true,.b true]) (cl:=[.pv (pZ (.lst L)) (.f (.int L.length)),.pb ((cO .Gt (.f (.int L.length)) (.f (.int 0)))) true,.pb (OS i) true]) (by kernel_rfl) k mn
  (mc (kG hL) (mc ((LJ _).trans (by rw[decide_eq_true hL'])) (mc (Jf hi) mn)))
theorem L4 (C:bW) (d:KD) (X:FV) (L:List FV) (i:Int):aN C (E0 TT (dC 47) o8 (hU d X L i))=aN C ((fG (nS TT (ev TT 39) Ff (HP o8) [F1] OY L ⟨d.g1,[],[],[]⟩)).bind fun q=>gp (fits q.1.length) (gp (mT q.2.g.length q.2.g) (gp (Nat.ble 2 q.2.g.length) (.ok (PV.f (.lst q.1),{ hU d X L i with g:=q.2.g }))))):=by kernel_rfl
noncomputable def Mz:Expr:=match vB (dN 47 1) with
 | .Assign [t] _ _::_=>t
 | _=>.Constant .none 0 default
noncomputable def MA:Stmt:=match vB (dN 47 1) with
 | _::s::_=>s
 | _=>.Pass default
theorem LG (d:KD) (X:FV) (L:List FV) (i:Int):GT (hU d X L i)=(((E0 TT (dC 47) o8 (hU d X L i)).bind fun r=>pB TT (dC 47) 4 Mz r.1 r.2).bind fun r=>.ok (Fl.next,r.2)).bind fun a=>match a.1 with
  | .next=>dS (ex TT 29) (dC 47) [MA] a.2
  | _=>.ok a:=by kernel_rfl
theorem QM (k:Nat) (d:KD) (X:FV) {L ys:List FV} (i:Int) (h:RL (KR (run TT 5000 (k + 5)) d) L ys) (hy:ys.length ≤ 10000):aN (run TT 5000 (k + 5)) (GT (hU d X L i))=.ok (.next,hU d X ys (i + 1)):=by
 have e:aN (run TT 5000 (k + 5)) (E0 TT (dC 47) o8 (hU d X L i))=.ok (.f (.lst ys),hU d X L i):=by
  obtain⟨st',e1,hi⟩:=LO k d h
  have hg:st'.g=d.g1:=by rcases hi with rfl | ⟨_,rfl⟩ | ⟨_,_,rfl⟩<;>rfl
  rw[L4,aZ,C3 e1]
  show aN _ (gp (fits ys.length) (gp (mT st'.g.length st'.g) (gp (Nat.ble 2 st'.g.length) (.ok (PV.f (.lst ys),{ hU d X L i with g:=st'.g })))))=_
  rw[hg,cM (by omega)]
  rfl
 rw[LG,aZ,aZ,aZ,e]
 kernel_rfl
mutual
inductive Lo:FV→Nat→Nat→Prop
 | mk {kd ps ks ck n c}:eR ps ks ck→ps.length ≤ 5→ck ≤ 3000→iO ks n c→Lo (nd kd ps) (n + 1) (c + 1)
inductive iO:List FV→Nat→Nat→Prop
 | nil {n}:iO [] n 0
 | cons {x xs n c d}:Lo x n c→iO xs n d→iO (x::xs) n (c + d)
end
theorem iO.len:∀ {xs:List FV}{n c:Nat},iO xs n c→xs.length ≤ c
 | [],_,_,_=>Nat.zero_le _
 | _::xs,_,_,.cons h t=>by
  have:=t.len
  cases h
  simp only[List.length];omega
theorem iO.app:∀ {xs ys:List FV}{n c d:Nat},iO xs n c→iO ys n d→iO (xs++ys) n (c + d)
 | [],ys,_,_,_,.nil,h=>by simpa using h
 | x::xs,ys,_,_,_,.cons h t,h'=>by
  rw[Nat.add_assoc];exact .cons h (t.app h')
theorem iO.down (k:Nat) (d:KD):∀ {xs:List FV}{n c:Nat},iO xs (n + 1) c→∃ ys c',RL (KR (run TT 5000 (k + 7)) d) xs ys∧iO ys n c'∧c' ≤ c
 | [],_,_,_=>⟨[],0,.nil,.nil,Nat.zero_le _⟩
 | x::xs,n,_,.cons (c:=c) h t=>by
  obtain⟨ys,c',hr,hl,hc⟩:=iO.down k d t
  cases h with
  | mk h1 h2 h3 h4=>exact⟨_,_,.cons (Ic h1 h3 h2 _ d k) hr,h4.app hl,by omega⟩
theorem u3 (k:Nat) (d:KD) (X:FV):∀ (n:Nat) {L:List FV}{c:Nat} (i:Int) (m:Nat),iO L n c→c ≤ 5000→i + (n:Nat) ≤ 120→n < m →
  ∃ i',i' ≤ 120∧aN (run TT 5000 (k + 7)) (jQ Gw GT m (hU d X L i))=.ok (.next,hU d X [] i')
 | n,[],_,i,m + 1,_,_,hi,_=>⟨i,by omega,uB (Hk (k + 2) d X i)⟩
 | 0,_::_,_,_,_,.cons h _,_,_,_=>by cases h
 | n + 1,x::xs,c,i,m + 1,h,hc,hi,hm=>by
  obtain⟨ys,c',hr,hl,hc'⟩:=h.down k d
  have h1:=h.len
  have h2:=hl.len
  obtain⟨i',hi',e⟩:=u3 k d X n (i + 1) m hl (by omega) (by omega) (by omega)
  exact⟨i',hi',(gW (RU (k + 2) d X (x::xs) i (by omega) (by simp) (by omega)) (QM (k + 2) d X i hr (by omega))).trans e⟩
 | n,_,_,_,0,_,_,_,hm=>by omega
theorem PF (C:bW) (d:KD) (X:FV):cG TT C 5000 47 [.f X,.f (.int 120)] d.g1=aN C ((dS (ex TT 30) (dC 47) [dN 47 0,dN 47 1,dN 47 2] ⟨d.g1,[],[(Str.ofString "node",.f X),(Str.ofString "most",.f (.int 120))],[]⟩).bind fun r=>opt (gK false 2 r) .ok) :=
 B9 (by kernel_rfl) (by kernel_rfl) (by kernel_rfl) (by kernel_rfl) rfl
theorem Op (st:St):ex TT 30 (dC 47) (dN 47 1) st=jQ Gw GT 5000 st:=yJ (by kernel_rfl) st
noncomputable def R5 (i:Int):Option Bool:=(cO .Gt (.f (.int i)) (.f (.int 120)))
theorem Hn {X:FV}{n c:Nat} (h:Lo X n c) (hn:n ≤ 120) (hc:c ≤ 5000):t6 X:=fun d k=>by
 show cG TT (run TT 5000 (k + 52 + 7)) 5000 47 [.f X,.f (.int 120)] d.g1=_
 rw[PF,aZ,iX (st':=hU d X [X] 0) (by kernel_rfl)]
 obtain⟨i',hi',e⟩:=u3 (k + 52) d X n (L:=[X]) 0 5000 (.cons h .nil) (by omega) (by omega) (by omega)
 have e2:aN (run TT 5000 (k + 52 + 7)) (ex TT 30 (dC 47) (dN 47 1) (hU d X [X] 0))=.ok (.next,hU d X [] i'):=by rw[Op];exact e
 have e3:aN (run TT 5000 (k + 52 + 7)) (ex TT 30 (dC 47) (dN 47 2) (hU d X [] i'))=.ok (.ret (.f (.bool false)),hU d X [] i'):=by
  refine dW (P:=JP) (n:=59) (pu:=[]) (cuts:=[]) (ps:=[.b false]) (ul:=[]) (cl:=[.pb (R5 i') false]) (by kernel_rfl) k mn (mc ?_ mn)
  show some (decide ((120:Int) < i'))=_
  rw[decide_eq_false (by omega)]
 rw[iX e2,uD e3]
 kernel_rfl
end Mine
end
section
namespace Mine
noncomputable def d7 (n:Nat) (x:FV) (least:Int) (w:List Nat):Prop:=∀ vs k,run TT 5000 (k + n) 382 [.f x,.f (.int least),.f (.bool false)] [.lst vs]=.ok (.f (.str w),[.lst vs])
noncomputable def lJ (n:Nat) (x:FV) (w:List Nat):Prop:=∀ vs k,run TT 5000 (k + n) 387 [.f x,.f (.bool false)] [.lst vs]=.ok (.f (.str w),[.lst vs])
noncomputable def iI (n:Nat) (x:FV) (w:List Nat):Prop:=∀ vs k,run TT 5000 (k + n) 496 [.f x] [.lst vs]=.ok (.f (.str w),[.lst vs])
theorem d7.weak {n:Nat}{x:FV}{l:Int}{w:List Nat} (h:d7 n x l w) (i:Nat):d7 (n + i) x l w:=fun vs k=>by
 rw[show k + (n + i)=(k + i) + n by omega];exact h vs (k + i)
theorem iI.weak {n:Nat}{x:FV}{w:List Nat} (h:iI n x w) (i:Nat):iI (n + i) x w:=fun vs k=>by
 rw[show k + (n + i)=(k + i) + n by omega];exact h vs (k + i)
noncomputable def sY:FP:={ P0 with cz:=[382,387,404,411,418,425,430,496],pu:=[] }
theorem aP {a b w:List Nat} (_:w.length ≤ 2000) (h:a.length + b.length ≤ 10000):fits (a.length + b.length)=true:=cM (by omega)
theorem fM {s:List Nat}{vs:List FV}{t w:List Nat}{n:Nat} (h1:mZ vs=some n) (h2:oH s vs=some t) (_:w.length ≤ 2000) (h:n + vs.length * s.length ≤ 10000):oQ s vs=some (.f (.str t)):=by
 show(mZ vs).bind _=_
 rw[h1]
 show gd (fits (n + vs.length * s.length)) _=_
 rw[cM (by omega)]
 show(oH s vs).bind _=_
 rw[h2];rfl
noncomputable def D5 (a b:Int):Option Bool:=(cO .Lt (.f (.int a)) (.f (.int b)))
theorem sW {a b:Int} (h:b ≤ a):D5 a b=some false:=by
 show some (decide (a < b))=_
 rw[decide_eq_false (by omega)]
noncomputable def Gv:FP:={ P0 with pz:=[382],pu:=[] }
theorem Jx {j:Nat}{ps:List FV}{w:List Nat}{l:Int} (hl:l ≤ 16) (h:lJ (j + 20) (nd [78,117,109] ps) w):d7 (j + 21) (nd [78,117,109] ps) l w:=fun vs k =>
 aI (P:=Gv) (n:=j + 21) (q:=[]) (pu:=[]) (nl:=[]) (ul:=[]) (cuts:=[(387,[.val (.ok (.f (.str w),[.lst vs]))])]) (ps:=[.b false])
  (cl:=[.pb (D5 16 l) false,.call (j + 20) 387 [.f (nd [78,117,109] ps),.f (.bool false)] [.lst vs] (.ok (.f (.str w),[.lst vs]))]) (by kernel_rfl) k mn mn (mc (sW hl) (mc (h vs k) mn))
theorem v5 {j:Nat}{ps:List FV}{w:List Nat}{l:Int} (hl:l ≤ 16) (h:lJ (j + 20) (nd [70,117,110,99,116,105,111,110] ps) w):d7 (j + 21) (nd [70,117,110,99,116,105,111,110] ps) l w:=fun vs k =>
 aI (P:=Gv) (n:=j + 21) (q:=[]) (pu:=[]) (nl:=[]) (ul:=[]) (cuts:=[(387,[.val (.ok (.f (.str w),[.lst vs]))])]) (ps:=[.b false])
  (cl:=[.pb (D5 16 l) false,.call (j + 20) 387 [.f (nd [70,117,110,99,116,105,111,110] ps),.f (.bool false)] [.lst vs] (.ok (.f (.str w),[.lst vs]))]) (by kernel_rfl) k mn mn (mc (sW hl) (mc (h vs k) mn))
theorem yG {j:Nat}{ps:List FV}{w:List Nat}{l:Int} (hl:l ≤ 16) (h:lJ (j + 20) (nd [78,101,119] ps) w):d7 (j + 21) (nd [78,101,119] ps) l w:=fun vs k =>
 aI (P:=Gv) (n:=j + 21) (q:=[]) (pu:=[]) (nl:=[]) (ul:=[]) (cuts:=[(387,[.val (.ok (.f (.str w),[.lst vs]))])]) (ps:=[.b false])
  (cl:=[.pb (D5 16 l) false,.call (j + 20) 387 [.f (nd [78,101,119] ps),.f (.bool false)] [.lst vs] (.ok (.f (.str w),[.lst vs]))]) (by kernel_rfl) k mn mn (mc (sW hl) (mc (h vs k) mn))
theorem Mc {j:Nat}{X:FV}{w:List Nat}{l:Int} (hl:l ≤ 13) (h:lJ (j + 20) (tA X) w):d7 (j + 21) (tA X) l w:=fun vs k =>
 aI (P:=Gv) (n:=j + 21) (q:=[]) (pu:=[]) (nl:=[]) (ul:=[]) (cuts:=[(387,[.val (.ok (.f (.str w),[.lst vs]))])]) (ps:=[.b false])
  (cl:=[.pb (D5 13 l) false,.call (j + 20) 387 [.f (tA X),.f (.bool false)] [.lst vs] (.ok (.f (.str w),[.lst vs]))]) (by kernel_rfl) k mn mn (mc (sW hl) (mc (h vs k) mn))
noncomputable def Od:FP:={ P0 with mz:=[437],pu:=[] }
noncomputable def KE (w:List Nat):St→Option PV:=fun _=>xQ w none (some 1)
theorem Ck {w:List Nat} (h:w.length ≤ 10000):∀ st,KE w st=some (.f (.str (cut w none (some 1)))):=by
 intro st
 show gd (fits w.length) _=_
 rw[cM (by omega)];rfl
theorem Np {j:Nat}{X:FV}{w:List Nat} (hw:w.length ≤ 2000) (h:d7 (j + 20) X 13 w):lJ (j + 22) (tA X) (33::w):=fun vs k=>by
 cases e:gE (cut w none (some 1)) [33] with
 | false =>
  exact aI (P:=Od) (n:=j + 22) (q:=[]) (pu:=[]) (nl:=[]) (ul:=[]) (cuts:=[(382,[.val (.ok (.f (.str w),[.lst vs]))])]) (ps:=[.auto,.v (.f (.str (cut w none (some 1)))),.auto,.b false])
   (cl:=[.call (j + 20) 382 [.f X,.f (.int 13),.f (.bool false)] [.lst vs] (.ok (.f (.str w),[.lst vs])),.pv (KE w) (.f (.str (cut w none (some 1)))),.pb ((cO .Eq (.f (.str (cut w none (some 1)))) (.f (.str [33])))) false,.ct [33] [],.ct [33] w]) (by kernel_rfl) k mn mn
   (mc (h vs k) (mc (Ck (by omega)) (mc (congrArg some e) (mc (cM (by decide)) (mc (aP hw (by simp only[List.length_cons,List.length_nil];omega)) mn)))))
 | true =>
  exact aI (P:=Od) (n:=j + 22) (q:=[]) (pu:=[]) (nl:=[]) (ul:=[]) (cuts:=[(382,[.val (.ok (.f (.str w),[.lst vs]))])]) (ps:=[.auto,.v (.f (.str (cut w none (some 1)))),.auto,.b true])
   (cl:=[.call (j + 20) 382 [.f X,.f (.int 13),.f (.bool false)] [.lst vs] (.ok (.f (.str w),[.lst vs])),.pv (KE w) (.f (.str (cut w none (some 1)))),.pb ((cO .Eq (.f (.str (cut w none (some 1)))) (.f (.str [33])))) true,.ct [33] [],.ct [33] w]) (by kernel_rfl) k mn mn
   (mc (h vs k) (mc (Ck (by omega)) (mc (congrArg some e) (mc (cM (by decide)) (mc (aP hw (by simp only[List.length_cons,List.length_nil];omega)) mn)))))
noncomputable def a8:Nat→List Nat→List Nat
 | 0,w=>w
 | c + 1,w=>33::a8 c w
theorem fL (w:List Nat):∀ c,(a8 c w).length=c + w.length
 | 0=>by simp[a8]
 | c + 1=>by simp only[a8,List.length,fL w c];omega
theorem yF {X:FV}{w:List Nat} (hw:w.length ≤ 1000) (h:∀ l:Int,l ≤ 13→d7 45 X l w):∀ (c:Nat),c ≤ 100→∀ l:Int,l ≤ 13→d7 (45 + 3 * c) (fQ X c) l (a8 c w)
 | 0,_,l,hl=>h l hl
 | c + 1,hc,l,hl=>by
  have:=yF hw h c (by omega) 13 (by omega)
  rw[show 45 + 3 * c=(25 + 3 * c) + 20 by omega]at this
  have b:=Np (by rw[fL];omega) this
  rw[show 25 + 3 * c + 22=(27 + 3 * c) + 20 by omega]at b
  have e:=Mc hl b
  rw[show 27 + 3 * c + 21=45 + 3 * (c + 1) by omega]at e
  exact e
noncomputable def tx (i:Nat) (s:Bool):List Nat:=match i,s with
 | 0,_=>[48]
 | 1,false=>[102,117,110,99,116,105,111,110,32,40,41,32,123,34,117,115,101,92,120,50,48,115,116,114,105,99,116,34,59,125]
 | 1,true=>[102,117,110,99,116,105,111,110,32,40,41,32,123,34,117,115,101,32,115,116,114,105,99,116,34,59,125]
 | 2,false=>[102,117,110,99,116,105,111,110,32,40,41,32,123,34,117,115,101,92,120,50,48,115,116,114,105,99,116,34,59,32,34,117,115,101,92,120,50,48,115,116,114,105,99,116,34,59,125]
 | 2,true=>[102,117,110,99,116,105,111,110,32,40,41,32,123,34,117,115,101,32,115,116,114,105,99,116,34,59,32,34,117,115,101,32,115,116,114,105,99,116,34,59,125]
 | 3,_=>[102,117,110,99,116,105,111,110,32,103,40,41,32,123,40,123,125,41,32,43,32,49,59,125]
 | 4,_=>[110,101,119,32,40,102,40,41,41,46,97,40,49,41]
 | 5,_=>[110,101,119,32,110,101,119,32,40,102,40,41,41,46,97,40,41,46,98,40,41]
 | 6,_=>[102,117,110,99,116,105,111,110,32,40,41,32,123,40,102,117,110,99,116,105,111,110,32,40,41,32,123,125,41,46,97,59,125]
 | _,_=>[110,101,119,32,40,102,40,41,41,91,91,48,93,93,40,41]
noncomputable def Pc:FP:={ P0 with pu:=[] }
theorem lS {x:FV}{w:List Nat} (h:∀ vs,dE Pc 44 387 [.f x,.f (.bool false)] [.lst vs] [] [] [] []=some (.ok (.f (.str w),[.lst vs]),[],[],[])):lJ 44 x w:=fun vs k=>aI (h vs) k mn mn mn
theorem Rc (s:Bool):lJ 44 (X0 s) (tx 0 s):=lS fun vs=>by cases s<;>kernel_rfl
theorem RF (s:Bool):lJ 44 (X1 s) (tx 1 s):=lS fun vs=>by cases s<;>kernel_rfl
theorem R9 (s:Bool):lJ 44 (X2 s) (tx 2 s):=lS fun vs=>by cases s<;>kernel_rfl
theorem R3 (s:Bool):lJ 44 (X3 s) (tx 3 s):=lS fun vs=>by cases s<;>kernel_rfl
theorem Q4 (s:Bool):lJ 44 (X4 s) (tx 4 s):=lS fun vs=>by kernel_rfl
theorem QR (s:Bool):lJ 44 (X5 s) (tx 5 s):=lS fun vs=>by kernel_rfl
theorem RC (s:Bool):lJ 44 (X6 s) (tx 6 s):=lS fun vs=>by kernel_rfl
theorem Rq (s:Bool):lJ 44 (X7 s) (tx 7 s):=lS fun vs=>by kernel_rfl
theorem RX (s:Bool) (l:Int) (h:l ≤ 13):d7 45 (X0 s) l (tx 0 s):=Jx (j:=24) (by omega) (Rc s)
theorem Oh (s:Bool) (l:Int) (h:l ≤ 13):d7 45 (X1 s) l (tx 1 s):=v5 (j:=24) (by omega) (RF s)
theorem O5 (s:Bool) (l:Int) (h:l ≤ 13):d7 45 (X2 s) l (tx 2 s):=v5 (j:=24) (by omega) (R9 s)
theorem Qg (s:Bool) (l:Int) (h:l ≤ 13):d7 45 (X3 s) l (tx 3 s):=v5 (j:=24) (by omega) (R3 s)
theorem Q1 (s:Bool) (l:Int) (h:l ≤ 13):d7 45 (X4 s) l (tx 4 s):=yG (j:=24) (by omega) (Q4 s)
theorem RK (s:Bool) (l:Int) (h:l ≤ 13):d7 45 (X5 s) l (tx 5 s):=yG (j:=24) (by omega) (QR s)
theorem Qd (s:Bool) (l:Int) (h:l ≤ 13):d7 45 (X6 s) l (tx 6 s):=v5 (j:=24) (by omega) (RC s)
theorem Qi (s:Bool) (l:Int) (h:l ≤ 13):d7 45 (X7 s) l (tx 7 s):=yG (j:=24) (by omega) (Rq s)
end Mine
end
section
namespace Mine
local macro_rules
 | `(tactic| trivial)=>`(tactic| (simp only[List.length_append,List.length_cons,List.length_nil];omega))
noncomputable def LV (w:List Nat):List Nat:=(40::123::125::41::32::43::32::(w++[59]))
theorem Qp (s:Bool) (j:Nat) (X:FV) (w:List Nat) (hw:w.length ≤ 2000) (H:d7 (j + 25) X 12 w):iI (j + 50) (M0 s X) (LV w):=fun vs k =>
 aI (P:=sY) (n:=j + 50) (q:=[]) (pu:=[]) (nl:=[]) (ul:=[]) (cuts:=[(382,[.inl,.inl,.val (.ok (.f (.str w),[.lst vs]))])]) (ps:=[])
  (cl:=[.jn [44,32] [] [],.ct [123] [],.ct [123] [125],.ct [40] [123,125],.ct [40,123,125] [41],.ct [40,123,125,41] [32],.ct [40,123,125,41,32] [43],.ct [40,123,125,41,32,43] [32],.call (j + 46) 382 [.f X,.f (.int 12),.f (.bool false)] [.lst vs] (.ok (.f (.str w),[.lst vs])),.ct [40,123,125,41,32,43,32] (w),.ct (40::123::125::41::32::43::32::w) [59]]) (by kernel_rfl) k mn mn
  (mc (fM rfl rfl hw (by trivial)) (mc (aP hw (by trivial)) (mc (aP hw (by trivial)) (mc (aP hw (by trivial)) (mc (aP hw (by trivial)) (mc (aP hw (by trivial)) (mc (aP hw (by trivial)) (mc (aP hw (by trivial)) (mc ((H.weak 21) vs k) (mc (aP hw (by trivial)) (mc (aP hw (by trivial)) (mn))))))))))))
noncomputable def Ju (w:List Nat):List Nat:=(40::123::125::41::46::97::32::61::32::(w++[59]))
theorem R7 (s:Bool) (j:Nat) (X:FV) (w:List Nat) (hw:w.length ≤ 2000) (H:d7 (j + 25) X 1 w):iI (j + 50) (M1 s X) (Ju w):=fun vs k =>
 aI (P:=sY) (n:=j + 50) (q:=[]) (pu:=[]) (nl:=[]) (ul:=[]) (cuts:=[(382,[.inl,.inl,.inl,.val (.ok (.f (.str w),[.lst vs]))])]) (ps:=[])
  (cl:=[.jn [44,32] [] [],.ct [123] [],.ct [123] [125],.ct [40] [123,125],.ct [40,123,125] [41],.ct [46] [97],.ct [40,123,125,41] [46,97],.ct [40,123,125,41,46,97] [32],.ct [40,123,125,41,46,97,32] [61],.ct [40,123,125,41,46,97,32,61] [32],.call (j + 46) 382 [.f X,.f (.int 1),.f (.bool false)] [.lst vs] (.ok (.f (.str w),[.lst vs])),.ct [40,123,125,41,46,97,32,61,32] (w),.ct (40::123::125::41::46::97::32::61::32::w) [59]]) (by kernel_rfl) k mn mn
  (mc (fM rfl rfl hw (by trivial)) (mc (aP hw (by trivial)) (mc (aP hw (by trivial)) (mc (aP hw (by trivial)) (mc (aP hw (by trivial)) (mc (aP hw (by trivial)) (mc (aP hw (by trivial)) (mc (aP hw (by trivial)) (mc (aP hw (by trivial)) (mc (aP hw (by trivial)) (mc ((H.weak 21) vs k) (mc (aP hw (by trivial)) (mc (aP hw (by trivial)) (mn))))))))))))))
noncomputable def Jo (w:List Nat):List Nat:=(40::102::117::110::99::116::105::111::110::32::40::41::32::123::125::41::46::99::97::108::108::40::116::104::105::115::44::32::((w++[41])++[59]))
theorem QK (s:Bool) (j:Nat) (X:FV) (w:List Nat) (hw:w.length ≤ 2000) (H:d7 (j + 25) X 1 w):iI (j + 50) (M2 s X) (Jo w):=fun vs k =>
 aI (P:=sY) (n:=j + 50) (q:=[]) (pu:=[]) (nl:=[]) (ul:=[]) (cuts:=[(382,[.inl,.inl,.inl,.inl,.val (.ok (.f (.str w),[.lst vs]))])]) (ps:=[])
  (cl:=[.ct [102,117,110,99,116,105,111,110,32] [40,41,32,123,125],.ct [40] [102,117,110,99,116,105,111,110,32,40,41,32,123,125],.ct [40,102,117,110,99,116,105,111,110,32,40,41,32,123,125] [41],.ct [46] [99,97,108,108],.ct [40,102,117,110,99,116,105,111,110,32,40,41,32,123,125,41] [46,99,97,108,108],.call (j + 45) 382 [.f X,.f (.int 1),.f (.bool false)] [.lst vs] (.ok (.f (.str w),[.lst vs])),.jn [44,32] [.str [116,104,105,115],.str (w)] (116::104::105::115::44::32::w),.ct [40] (116::104::105::115::44::32::w),.ct (40::116::104::105::115::44::32::w) [41],.ct [40,102,117,110,99,116,105,111,110,32,40,41,32,123,125,41,46,99,97,108,108] (40::116::104::105::115::44::32::(w++[41])),.ct (40::102::117::110::99::116::105::111::110::32::40::41::32::123::125::41::46::99::97::108::108::40::116::104::105::115::44::32::(w++[41])) [59]]) (by kernel_rfl) k mn mn
  (mc (aP hw (by trivial)) (mc (aP hw (by trivial)) (mc (aP hw (by trivial)) (mc (aP hw (by trivial)) (mc (aP hw (by trivial)) (mc ((H.weak 20) vs k) (mc (fM rfl rfl hw (by trivial)) (mc (aP hw (by trivial)) (mc (aP hw (by trivial)) (mc (aP hw (by trivial)) (mc (aP hw (by trivial)) (mn))))))))))))
noncomputable def KY (w:List Nat):List Nat:=(40::123::125::41::91::((w++[93])++[59]))
theorem QP (s:Bool) (j:Nat) (X:FV) (w:List Nat) (hw:w.length ≤ 2000) (H:d7 (j + 25) X 0 w):iI (j + 50) (M3 s X) (KY w):=fun vs k =>
 aI (P:=sY) (n:=j + 50) (q:=[]) (pu:=[]) (nl:=[]) (ul:=[]) (cuts:=[(382,[.inl,.inl,.val (.ok (.f (.str w),[.lst vs]))])]) (ps:=[])
  (cl:=[.jn [44,32] [] [],.ct [123] [],.ct [123] [125],.ct [40] [123,125],.ct [40,123,125] [41],.call (j + 45) 382 [.f X,.f (.int 0),.f (.bool false)] [.lst vs] (.ok (.f (.str w),[.lst vs])),.ct [91] (w),.ct (91::w) [93],.ct [40,123,125,41] (91::(w++[93])),.ct (40::123::125::41::91::(w++[93])) [59]]) (by kernel_rfl) k mn mn
  (mc (fM rfl rfl hw (by trivial)) (mc (aP hw (by trivial)) (mc (aP hw (by trivial)) (mc (aP hw (by trivial)) (mc (aP hw (by trivial)) (mc ((H.weak 20) vs k) (mc (aP hw (by trivial)) (mc (aP hw (by trivial)) (mc (aP hw (by trivial)) (mc (aP hw (by trivial)) (mn)))))))))))
noncomputable def KP (w:List Nat):List Nat:=(40::123::125::41::44::32::(w++[59]))
theorem RQ (s:Bool) (j:Nat) (X:FV) (w:List Nat) (hw:w.length ≤ 2000) (H:d7 (j + 25) X 1 w):iI (j + 50) (M4 s X) (KP w):=fun vs k =>
 aI (P:=sY) (n:=j + 50) (q:=[]) (pu:=[]) (nl:=[]) (ul:=[]) (cuts:=[(382,[.inl,.inl,.val (.ok (.f (.str w),[.lst vs]))])]) (ps:=[])
  (cl:=[.jn [44,32] [] [],.ct [123] [],.ct [123] [125],.ct [40] [123,125],.ct [40,123,125] [41],.call (j + 46) 382 [.f X,.f (.int 1),.f (.bool false)] [.lst vs] (.ok (.f (.str w),[.lst vs])),.jn [44,32] [.str [40,123,125,41],.str (w)] (40::123::125::41::44::32::w),.ct (40::123::125::41::44::32::w) [59]]) (by kernel_rfl) k mn mn
  (mc (fM rfl rfl hw (by trivial)) (mc (aP hw (by trivial)) (mc (aP hw (by trivial)) (mc (aP hw (by trivial)) (mc (aP hw (by trivial)) (mc ((H.weak 21) vs k) (mc (fM rfl rfl hw (by trivial)) (mc (aP hw (by trivial)) (mn)))))))))
noncomputable def Ky (w:List Nat):List Nat:=(40::102::117::110::99::116::105::111::110::32::40::41::32::123::125::41::32::63::32::(((w++[32,58,32])++[48])++[59]))
theorem QU (s:Bool) (j:Nat) (X:FV) (w:List Nat) (hw:w.length ≤ 2000) (H:d7 (j + 25) X 1 w):iI (j + 50) (M5 s X) (Ky w):=fun vs k =>
 aI (P:=sY) (n:=j + 50) (q:=[]) (pu:=[]) (nl:=[]) (ul:=[]) (cuts:=[(382,[.inl,.inl,.val (.ok (.f (.str w),[.lst vs]))])]) (ps:=[])
  (cl:=[.ct [102,117,110,99,116,105,111,110,32] [40,41,32,123,125],.ct [40] [102,117,110,99,116,105,111,110,32,40,41,32,123,125],.ct [40,102,117,110,99,116,105,111,110,32,40,41,32,123,125] [41],.call (j + 46) 382 [.f X,.f (.int 1),.f (.bool false)] [.lst vs] (.ok (.f (.str w),[.lst vs])),.ct [40,102,117,110,99,116,105,111,110,32,40,41,32,123,125,41] [32,63,32],.ct [40,102,117,110,99,116,105,111,110,32,40,41,32,123,125,41,32,63,32] (w),.ct (40::102::117::110::99::116::105::111::110::32::40::41::32::123::125::41::32::63::32::w) [32,58,32],.ct (40::102::117::110::99::116::105::111::110::32::40::41::32::123::125::41::32::63::32::(w++[32,58,32])) [48],.ct (40::102::117::110::99::116::105::111::110::32::40::41::32::123::125::41::32::63::32::((w++[32,58,32])++[48])) [59]]) (by kernel_rfl) k mn mn
  (mc (aP hw (by trivial)) (mc (aP hw (by trivial)) (mc (aP hw (by trivial)) (mc ((H.weak 21) vs k) (mc (aP hw (by trivial)) (mc (aP hw (by trivial)) (mc (aP hw (by trivial)) (mc (aP hw (by trivial)) (mc (aP hw (by trivial)) (mn))))))))))
noncomputable def LK (w:List Nat):List Nat:=(40::123::125::41::46::97::40::49::41::40::((w++[41])++[59]))
theorem Q9 (s:Bool) (j:Nat) (X:FV) (w:List Nat) (hw:w.length ≤ 2000) (H:d7 (j + 25) X 1 w):iI (j + 50) (M6 s X) (LK w):=fun vs k =>
 aI (P:=sY) (n:=j + 50) (q:=[]) (pu:=[]) (nl:=[]) (ul:=[]) (cuts:=[(382,[.inl,.inl,.inl,.inl,.inl,.val (.ok (.f (.str w),[.lst vs]))])]) (ps:=[])
  (cl:=[.jn [44,32] [] [],.ct [123] [],.ct [123] [125],.ct [40] [123,125],.ct [40,123,125] [41],.ct [46] [97],.ct [40,123,125,41] [46,97],.jn [44,32] [.str [49]] [49],.ct [40] [49],.ct [40,49] [41],.ct [40,123,125,41,46,97] [40,49,41],.call (j + 45) 382 [.f X,.f (.int 1),.f (.bool false)] [.lst vs] (.ok (.f (.str w),[.lst vs])),.jn [44,32] [.str (w)] (w),.ct [40] (w),.ct (40::w) [41],.ct [40,123,125,41,46,97,40,49,41] (40::(w++[41])),.ct (40::123::125::41::46::97::40::49::41::40::(w++[41])) [59]]) (by kernel_rfl) k mn mn
  (mc (fM rfl rfl hw (by trivial)) (mc (aP hw (by trivial)) (mc (aP hw (by trivial)) (mc (aP hw (by trivial)) (mc (aP hw (by trivial)) (mc (aP hw (by trivial)) (mc (aP hw (by trivial)) (mc (fM rfl rfl hw (by trivial)) (mc (aP hw (by trivial)) (mc (aP hw (by trivial)) (mc (aP hw (by trivial)) (mc ((H.weak 20) vs k) (mc (fM rfl rfl hw (by trivial)) (mc (aP hw (by trivial)) (mc (aP hw (by trivial)) (mc (aP hw (by trivial)) (mc (aP hw (by trivial)) (mn))))))))))))))))))
noncomputable def Jc (w:List Nat):List Nat:=(40::102::117::110::99::116::105::111::110::32::102::40::41::32::123::125::41::40::41::32::124::124::32::(w++[59]))
theorem Rz (s:Bool) (j:Nat) (X:FV) (w:List Nat) (hw:w.length ≤ 2000) (H:d7 (j + 25) X 4 w):iI (j + 50) (M7 s X) (Jc w):=fun vs k =>
 aI (P:=sY) (n:=j + 50) (q:=[]) (pu:=[]) (nl:=[]) (ul:=[]) (cuts:=[(382,[.inl,.inl,.inl,.val (.ok (.f (.str w),[.lst vs]))])]) (ps:=[])
  (cl:=[.ct [102,117,110,99,116,105,111,110,32] [102,40,41,32,123,125],.ct [40] [102,117,110,99,116,105,111,110,32,102,40,41,32,123,125],.ct [40,102,117,110,99,116,105,111,110,32,102,40,41,32,123,125] [41],.jn [44,32] [] [],.ct [40] [],.ct [40] [41],.ct [40,102,117,110,99,116,105,111,110,32,102,40,41,32,123,125,41] [40,41],.ct [40,102,117,110,99,116,105,111,110,32,102,40,41,32,123,125,41,40,41] [32],.ct [40,102,117,110,99,116,105,111,110,32,102,40,41,32,123,125,41,40,41,32] [124,124],.ct [40,102,117,110,99,116,105,111,110,32,102,40,41,32,123,125,41,40,41,32,124,124] [32],.call (j + 46) 382 [.f X,.f (.int 4),.f (.bool false)] [.lst vs] (.ok (.f (.str w),[.lst vs])),.ct [40,102,117,110,99,116,105,111,110,32,102,40,41,32,123,125,41,40,41,32,124,124,32] (w),.ct (40::102::117::110::99::116::105::111::110::32::102::40::41::32::123::125::41::40::41::32::124::124::32::w) [59]]) (by kernel_rfl) k mn mn
  (mc (aP hw (by trivial)) (mc (aP hw (by trivial)) (mc (aP hw (by trivial)) (mc (fM rfl rfl hw (by trivial)) (mc (aP hw (by trivial)) (mc (aP hw (by trivial)) (mc (aP hw (by trivial)) (mc (aP hw (by trivial)) (mc (aP hw (by trivial)) (mc (aP hw (by trivial)) (mc ((H.weak 21) vs k) (mc (aP hw (by trivial)) (mc (aP hw (by trivial)) (mn))))))))))))))
noncomputable def LT (w:List Nat):List Nat:=(40::123::125::41::46::97::43::43::44::32::(w++[59]))
theorem Qm (s:Bool) (j:Nat) (X:FV) (w:List Nat) (hw:w.length ≤ 2000) (H:d7 (j + 25) X 1 w):iI (j + 50) (M8 s X) (LT w):=fun vs k =>
 aI (P:=sY) (n:=j + 50) (q:=[]) (pu:=[]) (nl:=[]) (ul:=[]) (cuts:=[(382,[.inl,.inl,.inl,.inl,.val (.ok (.f (.str w),[.lst vs]))])]) (ps:=[])
  (cl:=[.jn [44,32] [] [],.ct [123] [],.ct [123] [125],.ct [40] [123,125],.ct [40,123,125] [41],.ct [46] [97],.ct [40,123,125,41] [46,97],.ct [40,123,125,41,46,97] [43,43],.call (j + 46) 382 [.f X,.f (.int 1),.f (.bool false)] [.lst vs] (.ok (.f (.str w),[.lst vs])),.jn [44,32] [.str [40,123,125,41,46,97,43,43],.str (w)] (40::123::125::41::46::97::43::43::44::32::w),.ct (40::123::125::41::46::97::43::43::44::32::w) [59]]) (by kernel_rfl) k mn mn
  (mc (fM rfl rfl hw (by trivial)) (mc (aP hw (by trivial)) (mc (aP hw (by trivial)) (mc (aP hw (by trivial)) (mc (aP hw (by trivial)) (mc (aP hw (by trivial)) (mc (aP hw (by trivial)) (mc (aP hw (by trivial)) (mc ((H.weak 21) vs k) (mc (fM rfl rfl hw (by trivial)) (mc (aP hw (by trivial)) (mn))))))))))))
end Mine
end
section
namespace Mine
noncomputable def aF.txt:aF→List Nat
 | .e=>[34,117,115,101,92,120,50,48,115,116,114,105,99,116,34,59]
 | .u=>[34,117,115,101,32,115,116,114,105,99,116,34,59]
 | .a=>[34,97,34,59]
 | .n=>[97,59]
 | .p=>[40,34,117,115,101,32,115,116,114,105,99,116,34,41,59]
noncomputable def kS:aF→Bool
 | .n=>false
 | _=>true
noncomputable def kX (s h:Bool):aF→aF
 | .a=>.a
 | .n=>.n
 | _=>if h&&!s then .e else .u
noncomputable def b7 (s:Bool):Bool→List aF→List aF
 | _,[]=>[]
 | h,r::rs=>kX s h r::b7 s (h&&kS r) rs
noncomputable def jt:List aF→List Nat→List Nat
 | [],w=>w
 | r::rs,w=>(r.txt++[32])++jt rs w
noncomputable def CZ:aF→Bool
 | .e=>true
 | _=>false
theorem J3 (r:aF) (h:∀ vs,dE Pc 50 496 [.f r.tree] [.lst vs] [] [] [] []=some (.ok (.f (.str r.txt),[.lst vs]),[],[],[])):iI 50 r.tree r.txt:=fun vs k=>aI (h vs) k mn mn mn
theorem EE:iI 50 aF.u.tree aF.u.txt:=J3 _ fun vs=>by kernel_rfl
theorem Pu:iI 50 aF.a.tree aF.a.txt:=J3 _ fun vs=>by kernel_rfl
theorem Pt:iI 50 aF.n.tree aF.n.txt:=J3 _ fun vs=>by kernel_rfl
noncomputable def HF (s:Bool):Bool→List aF→List PA
 | true,[]=>[.auto,.auto,.b false]
 | false,[]=>[]
 | true,r::rs=>.auto::.auto::.auto::(if kS r&&!s then .auto::.auto::.auto::.auto::HF s (kS r) rs else .auto::HF s (kS r) rs)
 | false,_::rs=>.auto::HF s false rs
noncomputable def Ka (vs:List FV):List aF→List aF→List An
 | _::rs,q::qs=>if CZ q then Ka vs rs qs else .val (.ok (.f (.str q.txt),[.lst vs]))::Ka vs rs qs
 | _,_=>[]
noncomputable def y9 (n:Nat) (vs:List FV):List aF→List aF→List Lg
 | r::rs,q::qs=>if CZ q then y9 n vs rs qs else .call n 496 [.f r.tree] [.lst vs] (.ok (.f (.str q.txt),[.lst vs]))::y9 n vs rs qs
 | _,_=>[]
noncomputable def hR:Bool→List aF→Bool
 | h,[]=>h
 | h,r::rs=>hR (h&&kS r) rs
noncomputable def OX (kd:List Nat):Option Bool:=(cO .Eq (.f (.str kd)) (.f (.str [83,116,114])))
noncomputable def QS:FP:={ P0 with mz:=[456],pu:=[] }
noncomputable def lL (rs:List aF) (w:List Nat):List FV:=rs.map (fun r=>FV.str r.txt)++[.str w]
noncomputable def FB (rs:List aF) (M:FV) (s:Bool):FV:=nd [80,114,111,103,114,97,109] [.lst (rs.map aF.tree++[M]),.bool s]
noncomputable def OW (j:Nat) (s:Bool) (kd:List Nat) (ps:List FV) (w:List Nat) (vs:List FV) (rs:List aF):=dE QS (j + 52) 527 [.f (FB rs (u1 (nd kd ps)) s)] [.lst vs] [] [] [(496,Ka vs rs (b7 s true rs)++[.val (.ok (.f (.str w),[.lst vs]))])] (HF s true rs)
noncomputable def OM (j:Nat) (s:Bool) (kd:List Nat) (ps:List FV) (w:List Nat) (vs:List FV) (rs:List aF):Option (O (PV × List MO) × List (LF × FV × LF) × List PU × List Lg):=some (.ok (.f (.str (jt (b7 s true rs) w)),[.lst vs]),[],[],y9 (j + 50) vs rs (b7 s true rs)++((if hR true rs then [.pb (OX kd) false] else [])++[.call (j + 50) 496 [.f (u1 (nd kd ps))] [.lst vs] (.ok (.f (.str w),[.lst vs])),.jn [32] (lL (b7 s true rs) w) (jt (b7 s true rs) w)]))
noncomputable def L7 (j:Nat) (s:Bool) (kd:List Nat) (ps:List FV) (w:List Nat) (vs:List FV) (rs:List aF):Prop:=OW j s kd ps w vs rs=OM j s kd ps w vs rs
noncomputable def jO:aF→aF
 | .a=>.a
 | .n=>.n
 | _=>.u
theorem E5 (r:aF):(jO r).tree=r.tree:=by cases r<;>rfl
theorem LC (r:aF):kS (jO r)=kS r:=by cases r<;>rfl
theorem E6 (s h:Bool) (r:aF):kX s h (jO r)=kX s h r:=by cases r<;>rfl
theorem uX (s:Bool):∀ (h:Bool) (rs:List aF),b7 s h (rs.map jO)=b7 s h rs
 | _,[]=>rfl
 | h,r::rs=>by
  show kX s h (jO r)::b7 s (h&&kS (jO r)) (rs.map jO)=_
  rw[E6,LC,uX s _ rs];rfl
section
variable (j:Nat) (kd:List Nat) (ps:List FV) (w:List Nat) (vs:List FV)
theorem Ex (s:Bool):(xW [.u,.a,.n] 3).map (OW j s kd ps w vs)=(xW [.u,.a,.n] 3).map (OM j s kd ps w vs):=by cases s<;>kernel_rfl
theorem Es (s:Bool) (rs:List aF) (h:rs.length ≤ 3):L7 j s kd ps w vs (rs.map jO) :=
 List.map_inj_left.mp (Ex j kd ps w vs s) _ (yM 3 _ (fun r m=>by
  obtain⟨x,_,rfl⟩:=List.mem_map.mp m
  cases x<;>simp[jO]) (by rw[List.length_map];exact h))
end
theorem Ii (s h:Bool):∀ r:aF,CZ (kX s h r)=false→iI 50 r.tree (kX s h r).txt
 | .a,_=>Pu
 | .n,_=>Pt
 | .e,e=>by cases h<;>cases s<;>first | exact EE | (exact absurd e (by decide))
 | .u,e=>by cases h<;>cases s<;>first | exact EE | (exact absurd e (by decide))
 | .p,e=>by cases h<;>cases s<;>first | exact EE | (exact absurd e (by decide))
theorem Dh (k j:Nat) (vs:List FV) (s:Bool):∀ (h:Bool) (rs:List aF),∀ l ∈ y9 (j + 50) vs rs (b7 s h rs),P0.Holds k l
 | _,[]=>mn
 | h,r::rs=>by
  show ∀ l ∈ (if CZ (kX s h r) then y9 (j + 50) vs rs (b7 s (h&&kS r) rs) else .call (j + 50) 496 [.f r.tree] [.lst vs] (.ok (.f (.str (kX s h r).txt),[.lst vs]))::y9 (j + 50) vs rs (b7 s (h&&kS r) rs)),_
  have ih:=Dh k j vs s (h&&kS r) rs
  cases e:CZ (kX s h r) with
  | true=>rw[if_pos rfl];exact ih
  | false =>
   rw[if_neg (by decide)]
   refine mc ?_ ih
   show run TT 5000 (k + (j + 50)) 496 [.f r.tree] [.lst vs]=_
   rw[show k + (j + 50)=(k + j) + 50 by omega]
   exact Ii s h r e vs (k + j)
theorem eU (w:List Nat):∀ rs:List aF,∃ n,mZ (lL rs w)=some n∧n ≤ rs.length * 20 + w.length
 | []=>⟨w.length + 0,rfl,by simp⟩
 | r::rs=>by
  obtain⟨n,e,h⟩:=eU w rs
  refine⟨r.txt.length + n,?_,?_⟩
  ·show(mZ (lL rs w)).bind (fun n=>some (r.txt.length + n))=_
   rw[e];rfl
  ·have:r.txt.length ≤ 20:=by cases r<;>decide
   simp only[List.length];omega
theorem Bz (w:List Nat) (rs:List aF):(lL rs w).length=rs.length + 1:=by simp[lL]
theorem f8 (w:List Nat):∀ rs:List aF,oH [32] (lL rs w)=some (jt rs w)
 | []=>rfl
 | r::rs=>by
  have ih:=f8 w rs
  cases rs with
  | nil=>rfl
  | cons q qs =>
   show(oH [32] (lL (q::qs) w)).bind (fun y=>some (r.txt++[32]++y))=_
   rw[ih];rfl
theorem oU (s:Bool):∀ (h:Bool) (rs:List aF),(b7 s h rs).length=rs.length
 | _,[]=>rfl
 | h,r::rs=>by show(b7 s (h&&kS r) rs).length + 1=_;rw[oU s _ rs];rfl
theorem Hs {rs:List aF} (hl:rs.length ≤ 3) (s:Bool) {kd:List Nat}{ps:List FV}{w:List Nat} (hk:gE kd [83,116,114]=false) (hw:w.length ≤ 2000) {j:Nat} (h:iI (j + 50) (u1 (nd kd ps)) w) (vs:List FV) (k:Nat) :
  run TT 5000 (k + (j + 52)) 527 [.f (FB rs (u1 (nd kd ps)) s)] [.lst vs]=.ok (.f (.str (jt (b7 s true rs) w)),[.lst vs]):=by
 have e:=Es j kd ps w vs s rs hl
 have et:(rs.map jO).map aF.tree=rs.map aF.tree:=by rw[List.map_map];exact List.map_congr_left fun r _=>E5 r
 have hlc:(rs.map jO).length ≤ 3:=by rw[List.length_map];exact hl
 have H2:∀ l ∈ (if hR true (rs.map jO) then [Lg.pb (OX kd) false] else []),P0.Holds k l:=by
  split
  ·exact mc (by show(some (gE kd [83,116,114]))=_;rw[hk]) mn
  ·exact mn
 have H3:P0.Holds k (.jn [32] (lL (b7 s true (rs.map jO)) w) (jt (b7 s true (rs.map jO)) w)):=by
  obtain⟨n,e1,h1⟩:=eU w (b7 s true (rs.map jO))
  have h2:=oU s true (rs.map jO)
  refine fM (w:=w) e1 (f8 w _) hw ?_
  rw[Bz,h2]
  rw[h2]at h1
  have:[32].length=1:=rfl
  rw[this]
  omega
 have e':=aI e k mn mn (eB (Dh k j vs s true (rs.map jO)) (eB H2 (mc (h vs k) (mc H3 mn))))
 rw[uX]at e'
 unfold FB at e' ⊢
 rw[et]at e'
 exact e'
end Mine
end
section
namespace Mine
noncomputable def iL (xs:List Int):List FV:=xs.map .int
noncomputable def aA (xs:List Int) (k c:Int):List FV:=[.lst (iL xs),.int k,.int c]
noncomputable def lG:FP:={ P0 with pz:=[1505],pu:=[] }
noncomputable def eQ (xs:List FV):St→Option PV:=fun st=>oV TT .len [.f (.lst xs)] st
theorem He {xs:List FV} (h:xs.length ≤ 10000):∀ st,eQ xs st=some (.f (.int xs.length)):=kG h
noncomputable def kU (a b:Int):Option Bool:=(cO .LtE (.f (.int a)) (.f (.int b)))
noncomputable def nK (xs:List Int) (c:Int) (k m:Int):Prop:=∃ i:Nat,(i:Int) < m∧∀ n,run TT 5000 (n + 10) 1505 [.ref 0,.f (.int m)] [.lst (aA xs k c)]=.ok (.f (.int i),[.lst (aA xs (k + 1) c)])
theorem cV (y m:Int) (h:0 < m):∃ i:Nat,(i:Int) < m∧Int.fmod y m=i:=by
 have h1:=Int.fmod_nonneg_of_pos y h
 have h2:=Int.fmod_lt_of_pos y h
 exact⟨(Int.fmod y m).toNat,by omega,by omega⟩
theorem kJ (xs:List Int):(iL xs).length=xs.length:=by simp[iL]
theorem LQ:∀ (xs:List Int) (k:Nat),k < xs.length→∃ y,nth (iL xs) k=some (.int y)
 | x::_,0,_=>⟨x,rfl⟩
 | _::xs,k + 1,h=>LQ xs k (by simp only[List.length]at h;omega)
theorem getL {xs:List Int}{k:Nat} (h:k < xs.length) (hl:xs.length ≤ 100):∃ y,∀ st,bJ (.f (.lst (iL xs))) (.f (.int (Int.ofNat k))) st=some (.f (.int y)):=by
 obtain⟨y,e⟩:=LQ xs k h
 refine⟨y,fun st=>?_⟩
 show wM (Int.ofNat k) (iL xs)=_
 have h1:Nat.blt k (iL xs).length=true:=Nat.ble_eq_true_of_le (by rw[kJ];exact h)
 have h2:fits k=true:=cM (by omega)
 show(gd (Nat.blt k (iL xs).length) (gd (fits k) (some k))).bind (fun j=>(nth (iL xs) j).bind fun y=>some (PV.f y))=_
 rw[h1,h2]
 show(nth (iL xs) k).bind _=_
 rw[e];rfl
theorem iM {xs:List Int} (hl:xs.length ≤ 100):∀ st,eQ (iL xs) st=some (.f (.int xs.length)):=by
 have:=He (xs:=iL xs) (by rw[kJ];omega)
 rw[kJ]at this
 exact this
theorem eE {a b:Int}{v:Bool} (h:decide (a ≤ b)=v):kU a b=some v:=by
 show(some (decide (a ≤ b)))=_
 rw[h]
theorem Ny (xs:List Int) (c:Int) (hl:xs.length ≤ 100):nK xs c 0 9:=by
 by_cases h:(1:Int) ≤ xs.length
 ·obtain⟨y,hy⟩:=getL (xs:=xs) (k:=0) (by omega) hl
  obtain⟨i,h1,h2⟩:=cV y 9 (by decide)
  refine⟨i,h1,fun n=>?_⟩
  rw[← h2]
  exact aI (P:=lG) (n:=10) (q:=[]) (pu:=[]) (nl:=[]) (ul:=[]) (cuts:=[]) (ps:=[.auto,.auto,.auto,.auto,.v (.f (.int xs.length)),.b true,.auto,.auto,.auto,.v (.f (.int y)),.auto])
   (cl:=[.pv (eQ (iL xs)) (.f (.int xs.length)),.pb (kU 1 xs.length) true,.pv (bJ (.f (.lst (iL xs))) (.f (.int (Int.ofNat 0)))) (.f (.int y))]) (by kernel_rfl) n mn mn
   (mc (iM hl) (mc (eE (decide_eq_true h)) (mc hy mn)))
 ·obtain⟨i,h1,h2⟩:=cV (3 + c) 9 (by decide)
  refine⟨i,h1,fun n=>?_⟩
  rw[← h2]
  exact aI (P:=lG) (n:=10) (q:=[]) (pu:=[]) (nl:=[]) (ul:=[]) (cuts:=[]) (ps:=[.auto,.auto,.auto,.auto,.v (.f (.int xs.length)),.b false])
   (cl:=[.pv (eQ (iL xs)) (.f (.int xs.length)),.pb (kU 1 xs.length) false]) (by kernel_rfl) n mn mn
   (mc (iM hl) (mc (eE (decide_eq_false h)) mn))
theorem OB (xs:List Int) (c:Int) (hl:xs.length ≤ 100):nK xs c 1 8:=by
 by_cases h:(2:Int) ≤ xs.length
 ·obtain⟨y,hy⟩:=getL (xs:=xs) (k:=1) (by omega) hl
  obtain⟨i,h1,h2⟩:=cV y 8 (by decide)
  refine⟨i,h1,fun n=>?_⟩
  rw[← h2]
  exact aI (P:=lG) (n:=10) (q:=[]) (pu:=[]) (nl:=[]) (ul:=[]) (cuts:=[]) (ps:=[.auto,.auto,.auto,.auto,.v (.f (.int xs.length)),.b true,.auto,.auto,.auto,.v (.f (.int y)),.auto])
   (cl:=[.pv (eQ (iL xs)) (.f (.int xs.length)),.pb (kU 2 xs.length) true,.pv (bJ (.f (.lst (iL xs))) (.f (.int (Int.ofNat 1)))) (.f (.int y))]) (by kernel_rfl) n mn mn
   (mc (iM hl) (mc (eE (decide_eq_true h)) (mc hy mn)))
 ·obtain⟨i,h1,h2⟩:=cV (7 + c) 8 (by decide)
  refine⟨i,h1,fun n=>?_⟩
  rw[← h2]
  exact aI (P:=lG) (n:=10) (q:=[]) (pu:=[]) (nl:=[]) (ul:=[]) (cuts:=[]) (ps:=[.auto,.auto,.auto,.auto,.v (.f (.int xs.length)),.b false])
   (cl:=[.pv (eQ (iL xs)) (.f (.int xs.length)),.pb (kU 2 xs.length) false]) (by kernel_rfl) n mn mn
   (mc (iM hl) (mc (eE (decide_eq_false h)) mn))
theorem MU (xs:List Int) (c:Int) (hl:xs.length ≤ 100):nK xs c 2 6:=by
 by_cases h:(3:Int) ≤ xs.length
 ·obtain⟨y,hy⟩:=getL (xs:=xs) (k:=2) (by omega) hl
  obtain⟨i,h1,h2⟩:=cV y 6 (by decide)
  refine⟨i,h1,fun n=>?_⟩
  rw[← h2]
  exact aI (P:=lG) (n:=10) (q:=[]) (pu:=[]) (nl:=[]) (ul:=[]) (cuts:=[]) (ps:=[.auto,.auto,.auto,.auto,.v (.f (.int xs.length)),.b true,.auto,.auto,.auto,.v (.f (.int y)),.auto])
   (cl:=[.pv (eQ (iL xs)) (.f (.int xs.length)),.pb (kU 3 xs.length) true,.pv (bJ (.f (.lst (iL xs))) (.f (.int (Int.ofNat 2)))) (.f (.int y))]) (by kernel_rfl) n mn mn
   (mc (iM hl) (mc (eE (decide_eq_true h)) (mc hy mn)))
 ·obtain⟨i,h1,h2⟩:=cV (11 + c) 6 (by decide)
  refine⟨i,h1,fun n=>?_⟩
  rw[← h2]
  exact aI (P:=lG) (n:=10) (q:=[]) (pu:=[]) (nl:=[]) (ul:=[]) (cuts:=[]) (ps:=[.auto,.auto,.auto,.auto,.v (.f (.int xs.length)),.b false])
   (cl:=[.pv (eQ (iL xs)) (.f (.int xs.length)),.pb (kU 3 xs.length) false]) (by kernel_rfl) n mn mn
   (mc (iM hl) (mc (eE (decide_eq_false h)) mn))
theorem MG (xs:List Int) (c:Int) (hl:xs.length ≤ 100):nK xs c 3 4:=by
 by_cases h:(4:Int) ≤ xs.length
 ·obtain⟨y,hy⟩:=getL (xs:=xs) (k:=3) (by omega) hl
  obtain⟨i,h1,h2⟩:=cV y 4 (by decide)
  refine⟨i,h1,fun n=>?_⟩
  rw[← h2]
  exact aI (P:=lG) (n:=10) (q:=[]) (pu:=[]) (nl:=[]) (ul:=[]) (cuts:=[]) (ps:=[.auto,.auto,.auto,.auto,.v (.f (.int xs.length)),.b true,.auto,.auto,.auto,.v (.f (.int y)),.auto])
   (cl:=[.pv (eQ (iL xs)) (.f (.int xs.length)),.pb (kU 4 xs.length) true,.pv (bJ (.f (.lst (iL xs))) (.f (.int (Int.ofNat 3)))) (.f (.int y))]) (by kernel_rfl) n mn mn
   (mc (iM hl) (mc (eE (decide_eq_true h)) (mc hy mn)))
 ·obtain⟨i,h1,h2⟩:=cV (16 + c) 4 (by decide)
  refine⟨i,h1,fun n=>?_⟩
  rw[← h2]
  exact aI (P:=lG) (n:=10) (q:=[]) (pu:=[]) (nl:=[]) (ul:=[]) (cuts:=[]) (ps:=[.auto,.auto,.auto,.auto,.v (.f (.int xs.length)),.b false])
   (cl:=[.pv (eQ (iL xs)) (.f (.int xs.length)),.pb (kU 4 xs.length) false]) (by kernel_rfl) n mn mn
   (mc (iM hl) (mc (eE (decide_eq_false h)) mn))
theorem NI (xs:List Int) (c:Int) (hl:xs.length ≤ 100):nK xs c 4 5:=by
 by_cases h:(5:Int) ≤ xs.length
 ·obtain⟨y,hy⟩:=getL (xs:=xs) (k:=4) (by omega) hl
  obtain⟨i,h1,h2⟩:=cV y 5 (by decide)
  refine⟨i,h1,fun n=>?_⟩
  rw[← h2]
  exact aI (P:=lG) (n:=10) (q:=[]) (pu:=[]) (nl:=[]) (ul:=[]) (cuts:=[]) (ps:=[.auto,.auto,.auto,.auto,.v (.f (.int xs.length)),.b true,.auto,.auto,.auto,.v (.f (.int y)),.auto])
   (cl:=[.pv (eQ (iL xs)) (.f (.int xs.length)),.pb (kU 5 xs.length) true,.pv (bJ (.f (.lst (iL xs))) (.f (.int (Int.ofNat 4)))) (.f (.int y))]) (by kernel_rfl) n mn mn
   (mc (iM hl) (mc (eE (decide_eq_true h)) (mc hy mn)))
 ·obtain⟨i,h1,h2⟩:=cV (21 + c) 5 (by decide)
  refine⟨i,h1,fun n=>?_⟩
  rw[← h2]
  exact aI (P:=lG) (n:=10) (q:=[]) (pu:=[]) (nl:=[]) (ul:=[]) (cuts:=[]) (ps:=[.auto,.auto,.auto,.auto,.v (.f (.int xs.length)),.b false])
   (cl:=[.pv (eQ (iL xs)) (.f (.int xs.length)),.pb (kU 5 xs.length) false]) (by kernel_rfl) n mn mn
   (mc (iM hl) (mc (eE (decide_eq_false h)) mn))
theorem Mm (xs:List Int) (c:Int) (hl:xs.length ≤ 100):nK xs c 5 5:=by
 by_cases h:(6:Int) ≤ xs.length
 ·obtain⟨y,hy⟩:=getL (xs:=xs) (k:=5) (by omega) hl
  obtain⟨i,h1,h2⟩:=cV y 5 (by decide)
  refine⟨i,h1,fun n=>?_⟩
  rw[← h2]
  exact aI (P:=lG) (n:=10) (q:=[]) (pu:=[]) (nl:=[]) (ul:=[]) (cuts:=[]) (ps:=[.auto,.auto,.auto,.auto,.v (.f (.int xs.length)),.b true,.auto,.auto,.auto,.v (.f (.int y)),.auto])
   (cl:=[.pv (eQ (iL xs)) (.f (.int xs.length)),.pb (kU 6 xs.length) true,.pv (bJ (.f (.lst (iL xs))) (.f (.int (Int.ofNat 5)))) (.f (.int y))]) (by kernel_rfl) n mn mn
   (mc (iM hl) (mc (eE (decide_eq_true h)) (mc hy mn)))
 ·obtain⟨i,h1,h2⟩:=cV (27 + c) 5 (by decide)
  refine⟨i,h1,fun n=>?_⟩
  rw[← h2]
  exact aI (P:=lG) (n:=10) (q:=[]) (pu:=[]) (nl:=[]) (ul:=[]) (cuts:=[]) (ps:=[.auto,.auto,.auto,.auto,.v (.f (.int xs.length)),.b false])
   (cl:=[.pv (eQ (iL xs)) (.f (.int xs.length)),.pb (kU 6 xs.length) false]) (by kernel_rfl) n mn mn
   (mc (iM hl) (mc (eE (decide_eq_false h)) mn))
theorem MM (xs:List Int) (c:Int) (hl:xs.length ≤ 100):nK xs c 6 5:=by
 by_cases h:(7:Int) ≤ xs.length
 ·obtain⟨y,hy⟩:=getL (xs:=xs) (k:=6) (by omega) hl
  obtain⟨i,h1,h2⟩:=cV y 5 (by decide)
  refine⟨i,h1,fun n=>?_⟩
  rw[← h2]
  exact aI (P:=lG) (n:=10) (q:=[]) (pu:=[]) (nl:=[]) (ul:=[]) (cuts:=[]) (ps:=[.auto,.auto,.auto,.auto,.v (.f (.int xs.length)),.b true,.auto,.auto,.auto,.v (.f (.int y)),.auto])
   (cl:=[.pv (eQ (iL xs)) (.f (.int xs.length)),.pb (kU 7 xs.length) true,.pv (bJ (.f (.lst (iL xs))) (.f (.int (Int.ofNat 6)))) (.f (.int y))]) (by kernel_rfl) n mn mn
   (mc (iM hl) (mc (eE (decide_eq_true h)) (mc hy mn)))
 ·obtain⟨i,h1,h2⟩:=cV (33 + c) 5 (by decide)
  refine⟨i,h1,fun n=>?_⟩
  rw[← h2]
  exact aI (P:=lG) (n:=10) (q:=[]) (pu:=[]) (nl:=[]) (ul:=[]) (cuts:=[]) (ps:=[.auto,.auto,.auto,.auto,.v (.f (.int xs.length)),.b false])
   (cl:=[.pv (eQ (iL xs)) (.f (.int xs.length)),.pb (kU 7 xs.length) false]) (by kernel_rfl) n mn mn
   (mc (iM hl) (mc (eE (decide_eq_false h)) mn))
end Mine
end
section
namespace Mine
noncomputable def vK:FP:={ P0 with mz:=[1524],pu:=[] }
noncomputable def gl (x:String):FV:=match lk (Str.ofString x) TT.glob with
 | some v=>v
 | none=>.none
noncomputable def qK:FV:=gl "_law_leads"
noncomputable def qH:FV:=gl "_law_cores"
noncomputable def f0:FV:=gl "_law_ahead"
noncomputable def b8 (xs:List Int):St:=⟨[],[],[(Str.ofString "script",.f (.lst (iL xs)))],[]⟩
noncomputable def tX (xs:List FV):St→Option PV:=fun st=>oV TT .sum [.f (.lst xs)] st
noncomputable def yN (n:Int):St→Option PV:=fun _=>((BX .Mult (.str [33]) (.int n))).bind fun z=>some (.f z)
noncomputable def oA (L:Int):FV:=.lst [.int L,.int (L + 1),.int (L - 1),.int 2,.int 0,.int 1]
noncomputable def r9 (a b:Int):Option Bool:=(cO .Gt (.f (.int a)) (.f (.int b)))
noncomputable def DQ (s:Bool):Option Bool:=(cO .NotEq (.f (.bool s)) (.f (.bool s)))
noncomputable def Ca (s:Bool):Option Bool:=(cO .Eq (.f (.bool s)) (.f (.bool s)))
noncomputable def cJ (ts:List FV) (s:Bool):FV:=nd [80,114,111,103,114,97,109] [.lst ts,.bool s]
noncomputable def Jj (j:Nat) (xs zs:List Int) (sm i1 i2 i3 bs dp:Int) (mn:Nat) (b e co bg:List Nat):List Lg:=[.ps (eH false (.f (.lst (iL xs))) none (some 20) (b8 xs)) (.f (.lst (iL zs)),b8 xs),.ps (jT TT .list 1428 [.f (.lst (iL zs))] (b8 xs)) (.f (.lst (iL zs)),b8 xs),.ps (eH false (.f (.lst (iL xs))) none (some 20) (b8 xs)) (.f (.lst (iL zs)),b8 xs),.pv (tX (iL zs)) (.f (.int sm)),.call j 1505 [.ref 0,.f (.int 9)] [.lst (aA zs 0 (Int.fmod sm 997))] (.ok (.f (.int i1),[.lst (aA zs 1 (Int.fmod sm 997))])),.pv (bJ (.f qK) (.f (.int i1))) (.f (.tup [.str b,.str e,.int bs])),.call j 1505 [.ref 0,.f (.int 8)] [.lst (aA zs 1 (Int.fmod sm 997))] (.ok (.f (.int i2),[.lst (aA zs 2 (Int.fmod sm 997))])),.pv (bJ (.f qH) (.f (.int i2))) (.f (.tup [.str co,.int dp])),.call j 1505 [.ref 0,.f (.int 6)] [.lst (aA zs 2 (Int.fmod sm 997))] (.ok (.f (.int i3),[.lst (aA zs 3 (Int.fmod sm 997))])),.pv (bJ (.f (oA (40 - bs - dp))) (.f (.int i3))) (.f (.int (Int.ofNat mn))),.call j 1505 [.ref 0,.f (.int 4)] [.lst (aA zs 3 (Int.fmod sm 997))] (.ok (.f (.int 0),[.lst (aA zs 4 (Int.fmod sm 997))])),.pv (yN (Int.ofNat mn)) (.f (.str bg)),.ct b bg,.ct (b++bg) co,.ct ((b++bg)++co) e,.jn [32] [.str (((b++bg)++co)++e)] (((b++bg)++co)++e)]
theorem R8 (j:Nat) (xs zs:List Int) (sm i1 i2 i3 bs dp:Int) (mn:Nat) (b e co bg:List Nat) (ts:List FV) (s:Bool) (t2:List Nat):dE vK (j + 1) 1524 [.f (.lst (iL xs))] [] [] [] [(1505,[.val (.ok (.f (.int i1),[.lst (aA zs 1 (Int.fmod sm 997))])),.val (.ok (.f (.int i2),[.lst (aA zs 2 (Int.fmod sm 997))])),.val (.ok (.f (.int i3),[.lst (aA zs 3 (Int.fmod sm 997))])),.val (.ok (.f (.int 0),[.lst (aA zs 4 (Int.fmod sm 997))]))]),(1512,[.val (.ok (.f (cJ ts s),[.lst (aA zs 4 (Int.fmod sm 997))])),.val (.ok (.f (cJ ts s),[.lst (aA zs 4 (Int.fmod sm 997))]))]),(1519,[.val (.ok (.f (.bool s),[.lst (aA zs 4 (Int.fmod sm 997))]))]),(527,[.val (.ok (.f (.str t2),[.lst (aA zs 4 (Int.fmod sm 997))])),.val (.ok (.f (.str t2),[.lst (aA zs 4 (Int.fmod sm 997))]))]),(61,[.val (.ok (.f (.bool true),[.lst (aA zs 4 (Int.fmod sm 997))]))])]
  ([.s (.f (.lst (iL zs)),b8 xs),.s (.f (.lst (iL zs)),b8 xs),.s (.f (.lst (iL zs)),b8 xs),.v (.f (.int sm)),.auto,.v (.f (.tup [.str b,.str e,.int bs])),.v (.f (.tup [.str co,.int dp])),.auto,.auto,.auto,.auto,.v (.f (.int (Int.ofNat mn))),.v (.f (.str bg)),.auto,.b false,.auto,.auto,.b false,.auto,.auto,.auto,.b true,.b true])
 = some (.ok (.f (.bool true),[]),[],[],Jj j xs zs sm i1 i2 i3 bs dp mn b e co bg++[.call j 1512 [.f (.str (((b++bg)++co)++e))] [.lst (aA zs 4 (Int.fmod sm 997))] (.ok (.f (cJ ts s),[.lst (aA zs 4 (Int.fmod sm 997))])),.pb (r9 (Int.ofNat mn) (40 - bs - dp)) false,.call j 1519 [.f (.lst [])] [.lst (aA zs 4 (Int.fmod sm 997))] (.ok (.f (.bool s),[.lst (aA zs 4 (Int.fmod sm 997))])),.pb (DQ s) false,.call j 527 [.f (cJ ts s)] [.lst (aA zs 4 (Int.fmod sm 997))] (.ok (.f (.str t2),[.lst (aA zs 4 (Int.fmod sm 997))])),.call j 1512 [.f (.str t2)] [.lst (aA zs 4 (Int.fmod sm 997))] (.ok (.f (cJ ts s),[.lst (aA zs 4 (Int.fmod sm 997))])),.call j 61 [.f (cJ ts s),.f (cJ ts s)] [.lst (aA zs 4 (Int.fmod sm 997))] (.ok (.f (.bool true),[.lst (aA zs 4 (Int.fmod sm 997))])),.pb (Ca s) true,.call j 527 [.f (cJ ts s)] [.lst (aA zs 4 (Int.fmod sm 997))] (.ok (.f (.str t2),[.lst (aA zs 4 (Int.fmod sm 997))])),.pb (x0 (.str t2)) true]):=by
 kernel_rfl
theorem Re (j:Nat) (xs zs:List Int) (sm i1 i2 i3 bs dp:Int) (mn:Nat) (b e co bg:List Nat):dE vK (j + 1) 1524 [.f (.lst (iL xs))] [] [] [] [(1505,[.val (.ok (.f (.int i1),[.lst (aA zs 1 (Int.fmod sm 997))])),.val (.ok (.f (.int i2),[.lst (aA zs 2 (Int.fmod sm 997))])),.val (.ok (.f (.int i3),[.lst (aA zs 3 (Int.fmod sm 997))])),.val (.ok (.f (.int 0),[.lst (aA zs 4 (Int.fmod sm 997))]))]),(1512,[.val (.ok (.f .none,[.lst (aA zs 4 (Int.fmod sm 997))]))])]
  ([.s (.f (.lst (iL zs)),b8 xs),.s (.f (.lst (iL zs)),b8 xs),.s (.f (.lst (iL zs)),b8 xs),.v (.f (.int sm)),.auto,.v (.f (.tup [.str b,.str e,.int bs])),.v (.f (.tup [.str co,.int dp])),.auto,.auto,.auto,.auto,.v (.f (.int (Int.ofNat mn))),.v (.f (.str bg)),.auto,.b true,.auto])
 = some (.ok (.f (.bool true),[]),[],[],Jj j xs zs sm i1 i2 i3 bs dp mn b e co bg++[.call j 1512 [.f (.str (((b++bg)++co)++e))] [.lst (aA zs 4 (Int.fmod sm 997))] (.ok (.f .none,[.lst (aA zs 4 (Int.fmod sm 997))])),.pb (r9 (Int.ofNat mn) (40 - bs - dp)) true]):=by
 kernel_rfl
noncomputable def KJ (j:Nat) (xs zs:List Int) (sm i1 i2 i3 bs dp:Int) (mn:Nat) (b e co bg:List Nat) (q0:Int) (r0:List Nat):List Lg:=[.ps (eH false (.f (.lst (iL xs))) none (some 20) (b8 xs)) (.f (.lst (iL zs)),b8 xs),.ps (jT TT .list 1428 [.f (.lst (iL zs))] (b8 xs)) (.f (.lst (iL zs)),b8 xs),.ps (eH false (.f (.lst (iL xs))) none (some 20) (b8 xs)) (.f (.lst (iL zs)),b8 xs),.pv (tX (iL zs)) (.f (.int sm)),.call j 1505 [.ref 0,.f (.int 9)] [.lst (aA zs 0 (Int.fmod sm 997))] (.ok (.f (.int i1),[.lst (aA zs 1 (Int.fmod sm 997))])),.pv (bJ (.f qK) (.f (.int i1))) (.f (.tup [.str b,.str e,.int bs])),.call j 1505 [.ref 0,.f (.int 8)] [.lst (aA zs 1 (Int.fmod sm 997))] (.ok (.f (.int i2),[.lst (aA zs 2 (Int.fmod sm 997))])),.pv (bJ (.f qH) (.f (.int i2))) (.f (.tup [.str co,.int dp])),.call j 1505 [.ref 0,.f (.int 6)] [.lst (aA zs 2 (Int.fmod sm 997))] (.ok (.f (.int i3),[.lst (aA zs 3 (Int.fmod sm 997))])),.pv (bJ (.f (oA (40 - bs - dp))) (.f (.int i3))) (.f (.int (Int.ofNat mn))),.call j 1505 [.ref 0,.f (.int 4)] [.lst (aA zs 3 (Int.fmod sm 997))] (.ok (.f (.int 1),[.lst (aA zs 4 (Int.fmod sm 997))])),.call j 1505 [.ref 0,.f (.int 5)] [.lst (aA zs 4 (Int.fmod sm 997))] (.ok (.f (.int q0),[.lst (aA zs 5 (Int.fmod sm 997))])),.pv (bJ (.f f0) (.f (.int q0))) (.f (.str r0)),.pv (yN (Int.ofNat mn)) (.f (.str bg)),.ct b bg,.ct (b++bg) co,.ct ((b++bg)++co) e,.jn [32] [.str r0,.str (((b++bg)++co)++e)] ((r0++[32])++(((b++bg)++co)++e))]
theorem Ql (j:Nat) (xs zs:List Int) (sm i1 i2 i3 bs dp:Int) (mn:Nat) (b e co bg:List Nat) (q0:Int) (r0:List Nat) (ts:List FV) (s:Bool) (t2:List Nat):dE vK (j + 1) 1524 [.f (.lst (iL xs))] [] [] [] [(1505,[.val (.ok (.f (.int i1),[.lst (aA zs 1 (Int.fmod sm 997))])),.val (.ok (.f (.int i2),[.lst (aA zs 2 (Int.fmod sm 997))])),.val (.ok (.f (.int i3),[.lst (aA zs 3 (Int.fmod sm 997))])),.val (.ok (.f (.int 1),[.lst (aA zs 4 (Int.fmod sm 997))])),.val (.ok (.f (.int q0),[.lst (aA zs 5 (Int.fmod sm 997))]))]),(1512,[.val (.ok (.f (cJ ts s),[.lst (aA zs 5 (Int.fmod sm 997))])),.val (.ok (.f (cJ ts s),[.lst (aA zs 5 (Int.fmod sm 997))]))]),(1519,[.val (.ok (.f (.bool s),[.lst (aA zs 5 (Int.fmod sm 997))]))]),(527,[.val (.ok (.f (.str t2),[.lst (aA zs 5 (Int.fmod sm 997))])),.val (.ok (.f (.str t2),[.lst (aA zs 5 (Int.fmod sm 997))]))]),(61,[.val (.ok (.f (.bool true),[.lst (aA zs 5 (Int.fmod sm 997))]))])]
  ([.s (.f (.lst (iL zs)),b8 xs),.s (.f (.lst (iL zs)),b8 xs),.s (.f (.lst (iL zs)),b8 xs),.v (.f (.int sm)),.auto,.v (.f (.tup [.str b,.str e,.int bs])),.v (.f (.tup [.str co,.int dp])),.auto,.auto,.auto,.auto,.v (.f (.int (Int.ofNat mn))),.v (.f (.str r0)),.v (.f (.str bg)),.auto,.b false,.auto,.auto,.b false,.auto,.auto,.auto,.b true,.b true])
 = some (.ok (.f (.bool true),[]),[],[],KJ j xs zs sm i1 i2 i3 bs dp mn b e co bg q0 r0++[.call j 1512 [.f (.str ((r0++[32])++(((b++bg)++co)++e)))] [.lst (aA zs 5 (Int.fmod sm 997))] (.ok (.f (cJ ts s),[.lst (aA zs 5 (Int.fmod sm 997))])),.pb (r9 (Int.ofNat mn) (40 - bs - dp)) false,.call j 1519 [.f (.lst [.str r0])] [.lst (aA zs 5 (Int.fmod sm 997))] (.ok (.f (.bool s),[.lst (aA zs 5 (Int.fmod sm 997))])),.pb (DQ s) false,.call j 527 [.f (cJ ts s)] [.lst (aA zs 5 (Int.fmod sm 997))] (.ok (.f (.str t2),[.lst (aA zs 5 (Int.fmod sm 997))])),.call j 1512 [.f (.str t2)] [.lst (aA zs 5 (Int.fmod sm 997))] (.ok (.f (cJ ts s),[.lst (aA zs 5 (Int.fmod sm 997))])),.call j 61 [.f (cJ ts s),.f (cJ ts s)] [.lst (aA zs 5 (Int.fmod sm 997))] (.ok (.f (.bool true),[.lst (aA zs 5 (Int.fmod sm 997))])),.pb (Ca s) true,.call j 527 [.f (cJ ts s)] [.lst (aA zs 5 (Int.fmod sm 997))] (.ok (.f (.str t2),[.lst (aA zs 5 (Int.fmod sm 997))])),.pb (x0 (.str t2)) true]):=by
 kernel_rfl
theorem R6 (j:Nat) (xs zs:List Int) (sm i1 i2 i3 bs dp:Int) (mn:Nat) (b e co bg:List Nat) (q0:Int) (r0:List Nat):dE vK (j + 1) 1524 [.f (.lst (iL xs))] [] [] [] [(1505,[.val (.ok (.f (.int i1),[.lst (aA zs 1 (Int.fmod sm 997))])),.val (.ok (.f (.int i2),[.lst (aA zs 2 (Int.fmod sm 997))])),.val (.ok (.f (.int i3),[.lst (aA zs 3 (Int.fmod sm 997))])),.val (.ok (.f (.int 1),[.lst (aA zs 4 (Int.fmod sm 997))])),.val (.ok (.f (.int q0),[.lst (aA zs 5 (Int.fmod sm 997))]))]),(1512,[.val (.ok (.f .none,[.lst (aA zs 5 (Int.fmod sm 997))]))])]
  ([.s (.f (.lst (iL zs)),b8 xs),.s (.f (.lst (iL zs)),b8 xs),.s (.f (.lst (iL zs)),b8 xs),.v (.f (.int sm)),.auto,.v (.f (.tup [.str b,.str e,.int bs])),.v (.f (.tup [.str co,.int dp])),.auto,.auto,.auto,.auto,.v (.f (.int (Int.ofNat mn))),.v (.f (.str r0)),.v (.f (.str bg)),.auto,.b true,.auto])
 = some (.ok (.f (.bool true),[]),[],[],KJ j xs zs sm i1 i2 i3 bs dp mn b e co bg q0 r0++[.call j 1512 [.f (.str ((r0++[32])++(((b++bg)++co)++e)))] [.lst (aA zs 5 (Int.fmod sm 997))] (.ok (.f .none,[.lst (aA zs 5 (Int.fmod sm 997))])),.pb (r9 (Int.ofNat mn) (40 - bs - dp)) true]):=by
 kernel_rfl
noncomputable def Lp (j:Nat) (xs zs:List Int) (sm i1 i2 i3 bs dp:Int) (mn:Nat) (b e co bg:List Nat) (q0:Int) (r0:List Nat) (q1:Int) (r1:List Nat):List Lg:=[.ps (eH false (.f (.lst (iL xs))) none (some 20) (b8 xs)) (.f (.lst (iL zs)),b8 xs),.ps (jT TT .list 1428 [.f (.lst (iL zs))] (b8 xs)) (.f (.lst (iL zs)),b8 xs),.ps (eH false (.f (.lst (iL xs))) none (some 20) (b8 xs)) (.f (.lst (iL zs)),b8 xs),.pv (tX (iL zs)) (.f (.int sm)),.call j 1505 [.ref 0,.f (.int 9)] [.lst (aA zs 0 (Int.fmod sm 997))] (.ok (.f (.int i1),[.lst (aA zs 1 (Int.fmod sm 997))])),.pv (bJ (.f qK) (.f (.int i1))) (.f (.tup [.str b,.str e,.int bs])),.call j 1505 [.ref 0,.f (.int 8)] [.lst (aA zs 1 (Int.fmod sm 997))] (.ok (.f (.int i2),[.lst (aA zs 2 (Int.fmod sm 997))])),.pv (bJ (.f qH) (.f (.int i2))) (.f (.tup [.str co,.int dp])),.call j 1505 [.ref 0,.f (.int 6)] [.lst (aA zs 2 (Int.fmod sm 997))] (.ok (.f (.int i3),[.lst (aA zs 3 (Int.fmod sm 997))])),.pv (bJ (.f (oA (40 - bs - dp))) (.f (.int i3))) (.f (.int (Int.ofNat mn))),.call j 1505 [.ref 0,.f (.int 4)] [.lst (aA zs 3 (Int.fmod sm 997))] (.ok (.f (.int 2),[.lst (aA zs 4 (Int.fmod sm 997))])),.call j 1505 [.ref 0,.f (.int 5)] [.lst (aA zs 4 (Int.fmod sm 997))] (.ok (.f (.int q0),[.lst (aA zs 5 (Int.fmod sm 997))])),.pv (bJ (.f f0) (.f (.int q0))) (.f (.str r0)),.call j 1505 [.ref 0,.f (.int 5)] [.lst (aA zs 5 (Int.fmod sm 997))] (.ok (.f (.int q1),[.lst (aA zs 6 (Int.fmod sm 997))])),.pv (bJ (.f f0) (.f (.int q1))) (.f (.str r1)),.pv (yN (Int.ofNat mn)) (.f (.str bg)),.ct b bg,.ct (b++bg) co,.ct ((b++bg)++co) e,.jn [32] [.str r0,.str r1,.str (((b++bg)++co)++e)] ((r0++[32])++((r1++[32])++(((b++bg)++co)++e)))]
theorem RR (j:Nat) (xs zs:List Int) (sm i1 i2 i3 bs dp:Int) (mn:Nat) (b e co bg:List Nat) (q0:Int) (r0:List Nat) (q1:Int) (r1:List Nat) (ts:List FV) (s:Bool) (t2:List Nat):dE vK (j + 1) 1524 [.f (.lst (iL xs))] [] [] [] [(1505,[.val (.ok (.f (.int i1),[.lst (aA zs 1 (Int.fmod sm 997))])),.val (.ok (.f (.int i2),[.lst (aA zs 2 (Int.fmod sm 997))])),.val (.ok (.f (.int i3),[.lst (aA zs 3 (Int.fmod sm 997))])),.val (.ok (.f (.int 2),[.lst (aA zs 4 (Int.fmod sm 997))])),.val (.ok (.f (.int q0),[.lst (aA zs 5 (Int.fmod sm 997))])),.val (.ok (.f (.int q1),[.lst (aA zs 6 (Int.fmod sm 997))]))]),(1512,[.val (.ok (.f (cJ ts s),[.lst (aA zs 6 (Int.fmod sm 997))])),.val (.ok (.f (cJ ts s),[.lst (aA zs 6 (Int.fmod sm 997))]))]),(1519,[.val (.ok (.f (.bool s),[.lst (aA zs 6 (Int.fmod sm 997))]))]),(527,[.val (.ok (.f (.str t2),[.lst (aA zs 6 (Int.fmod sm 997))])),.val (.ok (.f (.str t2),[.lst (aA zs 6 (Int.fmod sm 997))]))]),(61,[.val (.ok (.f (.bool true),[.lst (aA zs 6 (Int.fmod sm 997))]))])]
  ([.s (.f (.lst (iL zs)),b8 xs),.s (.f (.lst (iL zs)),b8 xs),.s (.f (.lst (iL zs)),b8 xs),.v (.f (.int sm)),.auto,.v (.f (.tup [.str b,.str e,.int bs])),.v (.f (.tup [.str co,.int dp])),.auto,.auto,.auto,.auto,.v (.f (.int (Int.ofNat mn))),.v (.f (.str r0)),.v (.f (.str r1)),.v (.f (.str bg)),.auto,.b false,.auto,.auto,.b false,.auto,.auto,.auto,.b true,.b true])
 = some (.ok (.f (.bool true),[]),[],[],Lp j xs zs sm i1 i2 i3 bs dp mn b e co bg q0 r0 q1 r1++[.call j 1512 [.f (.str ((r0++[32])++((r1++[32])++(((b++bg)++co)++e))))] [.lst (aA zs 6 (Int.fmod sm 997))] (.ok (.f (cJ ts s),[.lst (aA zs 6 (Int.fmod sm 997))])),.pb (r9 (Int.ofNat mn) (40 - bs - dp)) false,.call j 1519 [.f (.lst [.str r0,.str r1])] [.lst (aA zs 6 (Int.fmod sm 997))] (.ok (.f (.bool s),[.lst (aA zs 6 (Int.fmod sm 997))])),.pb (DQ s) false,.call j 527 [.f (cJ ts s)] [.lst (aA zs 6 (Int.fmod sm 997))] (.ok (.f (.str t2),[.lst (aA zs 6 (Int.fmod sm 997))])),.call j 1512 [.f (.str t2)] [.lst (aA zs 6 (Int.fmod sm 997))] (.ok (.f (cJ ts s),[.lst (aA zs 6 (Int.fmod sm 997))])),.call j 61 [.f (cJ ts s),.f (cJ ts s)] [.lst (aA zs 6 (Int.fmod sm 997))] (.ok (.f (.bool true),[.lst (aA zs 6 (Int.fmod sm 997))])),.pb (Ca s) true,.call j 527 [.f (cJ ts s)] [.lst (aA zs 6 (Int.fmod sm 997))] (.ok (.f (.str t2),[.lst (aA zs 6 (Int.fmod sm 997))])),.pb (x0 (.str t2)) true]):=by
 kernel_rfl
theorem Qz (j:Nat) (xs zs:List Int) (sm i1 i2 i3 bs dp:Int) (mn:Nat) (b e co bg:List Nat) (q0:Int) (r0:List Nat) (q1:Int) (r1:List Nat):dE vK (j + 1) 1524 [.f (.lst (iL xs))] [] [] [] [(1505,[.val (.ok (.f (.int i1),[.lst (aA zs 1 (Int.fmod sm 997))])),.val (.ok (.f (.int i2),[.lst (aA zs 2 (Int.fmod sm 997))])),.val (.ok (.f (.int i3),[.lst (aA zs 3 (Int.fmod sm 997))])),.val (.ok (.f (.int 2),[.lst (aA zs 4 (Int.fmod sm 997))])),.val (.ok (.f (.int q0),[.lst (aA zs 5 (Int.fmod sm 997))])),.val (.ok (.f (.int q1),[.lst (aA zs 6 (Int.fmod sm 997))]))]),(1512,[.val (.ok (.f .none,[.lst (aA zs 6 (Int.fmod sm 997))]))])]
  ([.s (.f (.lst (iL zs)),b8 xs),.s (.f (.lst (iL zs)),b8 xs),.s (.f (.lst (iL zs)),b8 xs),.v (.f (.int sm)),.auto,.v (.f (.tup [.str b,.str e,.int bs])),.v (.f (.tup [.str co,.int dp])),.auto,.auto,.auto,.auto,.v (.f (.int (Int.ofNat mn))),.v (.f (.str r0)),.v (.f (.str r1)),.v (.f (.str bg)),.auto,.b true,.auto])
 = some (.ok (.f (.bool true),[]),[],[],Lp j xs zs sm i1 i2 i3 bs dp mn b e co bg q0 r0 q1 r1++[.call j 1512 [.f (.str ((r0++[32])++((r1++[32])++(((b++bg)++co)++e))))] [.lst (aA zs 6 (Int.fmod sm 997))] (.ok (.f .none,[.lst (aA zs 6 (Int.fmod sm 997))])),.pb (r9 (Int.ofNat mn) (40 - bs - dp)) true]):=by
 kernel_rfl
noncomputable def KW (j:Nat) (xs zs:List Int) (sm i1 i2 i3 bs dp:Int) (mn:Nat) (b e co bg:List Nat) (q0:Int) (r0:List Nat) (q1:Int) (r1:List Nat) (q2:Int) (r2:List Nat):List Lg:=[.ps (eH false (.f (.lst (iL xs))) none (some 20) (b8 xs)) (.f (.lst (iL zs)),b8 xs),.ps (jT TT .list 1428 [.f (.lst (iL zs))] (b8 xs)) (.f (.lst (iL zs)),b8 xs),.ps (eH false (.f (.lst (iL xs))) none (some 20) (b8 xs)) (.f (.lst (iL zs)),b8 xs),.pv (tX (iL zs)) (.f (.int sm)),.call j 1505 [.ref 0,.f (.int 9)] [.lst (aA zs 0 (Int.fmod sm 997))] (.ok (.f (.int i1),[.lst (aA zs 1 (Int.fmod sm 997))])),.pv (bJ (.f qK) (.f (.int i1))) (.f (.tup [.str b,.str e,.int bs])),.call j 1505 [.ref 0,.f (.int 8)] [.lst (aA zs 1 (Int.fmod sm 997))] (.ok (.f (.int i2),[.lst (aA zs 2 (Int.fmod sm 997))])),.pv (bJ (.f qH) (.f (.int i2))) (.f (.tup [.str co,.int dp])),.call j 1505 [.ref 0,.f (.int 6)] [.lst (aA zs 2 (Int.fmod sm 997))] (.ok (.f (.int i3),[.lst (aA zs 3 (Int.fmod sm 997))])),.pv (bJ (.f (oA (40 - bs - dp))) (.f (.int i3))) (.f (.int (Int.ofNat mn))),.call j 1505 [.ref 0,.f (.int 4)] [.lst (aA zs 3 (Int.fmod sm 997))] (.ok (.f (.int 3),[.lst (aA zs 4 (Int.fmod sm 997))])),.call j 1505 [.ref 0,.f (.int 5)] [.lst (aA zs 4 (Int.fmod sm 997))] (.ok (.f (.int q0),[.lst (aA zs 5 (Int.fmod sm 997))])),.pv (bJ (.f f0) (.f (.int q0))) (.f (.str r0)),.call j 1505 [.ref 0,.f (.int 5)] [.lst (aA zs 5 (Int.fmod sm 997))] (.ok (.f (.int q1),[.lst (aA zs 6 (Int.fmod sm 997))])),.pv (bJ (.f f0) (.f (.int q1))) (.f (.str r1)),.call j 1505 [.ref 0,.f (.int 5)] [.lst (aA zs 6 (Int.fmod sm 997))] (.ok (.f (.int q2),[.lst (aA zs 7 (Int.fmod sm 997))])),.pv (bJ (.f f0) (.f (.int q2))) (.f (.str r2)),.pv (yN (Int.ofNat mn)) (.f (.str bg)),.ct b bg,.ct (b++bg) co,.ct ((b++bg)++co) e,.jn [32] [.str r0,.str r1,.str r2,.str (((b++bg)++co)++e)] ((r0++[32])++((r1++[32])++((r2++[32])++(((b++bg)++co)++e))))]
theorem Qs (j:Nat) (xs zs:List Int) (sm i1 i2 i3 bs dp:Int) (mn:Nat) (b e co bg:List Nat) (q0:Int) (r0:List Nat) (q1:Int) (r1:List Nat) (q2:Int) (r2:List Nat) (ts:List FV) (s:Bool) (t2:List Nat):dE vK (j + 1) 1524 [.f (.lst (iL xs))] [] [] [] [(1505,[.val (.ok (.f (.int i1),[.lst (aA zs 1 (Int.fmod sm 997))])),.val (.ok (.f (.int i2),[.lst (aA zs 2 (Int.fmod sm 997))])),.val (.ok (.f (.int i3),[.lst (aA zs 3 (Int.fmod sm 997))])),.val (.ok (.f (.int 3),[.lst (aA zs 4 (Int.fmod sm 997))])),.val (.ok (.f (.int q0),[.lst (aA zs 5 (Int.fmod sm 997))])),.val (.ok (.f (.int q1),[.lst (aA zs 6 (Int.fmod sm 997))])),.val (.ok (.f (.int q2),[.lst (aA zs 7 (Int.fmod sm 997))]))]),(1512,[.val (.ok (.f (cJ ts s),[.lst (aA zs 7 (Int.fmod sm 997))])),.val (.ok (.f (cJ ts s),[.lst (aA zs 7 (Int.fmod sm 997))]))]),(1519,[.val (.ok (.f (.bool s),[.lst (aA zs 7 (Int.fmod sm 997))]))]),(527,[.val (.ok (.f (.str t2),[.lst (aA zs 7 (Int.fmod sm 997))])),.val (.ok (.f (.str t2),[.lst (aA zs 7 (Int.fmod sm 997))]))]),(61,[.val (.ok (.f (.bool true),[.lst (aA zs 7 (Int.fmod sm 997))]))])]
  ([.s (.f (.lst (iL zs)),b8 xs),.s (.f (.lst (iL zs)),b8 xs),.s (.f (.lst (iL zs)),b8 xs),.v (.f (.int sm)),.auto,.v (.f (.tup [.str b,.str e,.int bs])),.v (.f (.tup [.str co,.int dp])),.auto,.auto,.auto,.auto,.v (.f (.int (Int.ofNat mn))),.v (.f (.str r0)),.v (.f (.str r1)),.v (.f (.str r2)),.v (.f (.str bg)),.auto,.b false,.auto,.auto,.b false,.auto,.auto,.auto,.b true,.b true])
 = some (.ok (.f (.bool true),[]),[],[],KW j xs zs sm i1 i2 i3 bs dp mn b e co bg q0 r0 q1 r1 q2 r2++[.call j 1512 [.f (.str ((r0++[32])++((r1++[32])++((r2++[32])++(((b++bg)++co)++e)))))] [.lst (aA zs 7 (Int.fmod sm 997))] (.ok (.f (cJ ts s),[.lst (aA zs 7 (Int.fmod sm 997))])),.pb (r9 (Int.ofNat mn) (40 - bs - dp)) false,.call j 1519 [.f (.lst [.str r0,.str r1,.str r2])] [.lst (aA zs 7 (Int.fmod sm 997))] (.ok (.f (.bool s),[.lst (aA zs 7 (Int.fmod sm 997))])),.pb (DQ s) false,.call j 527 [.f (cJ ts s)] [.lst (aA zs 7 (Int.fmod sm 997))] (.ok (.f (.str t2),[.lst (aA zs 7 (Int.fmod sm 997))])),.call j 1512 [.f (.str t2)] [.lst (aA zs 7 (Int.fmod sm 997))] (.ok (.f (cJ ts s),[.lst (aA zs 7 (Int.fmod sm 997))])),.call j 61 [.f (cJ ts s),.f (cJ ts s)] [.lst (aA zs 7 (Int.fmod sm 997))] (.ok (.f (.bool true),[.lst (aA zs 7 (Int.fmod sm 997))])),.pb (Ca s) true,.call j 527 [.f (cJ ts s)] [.lst (aA zs 7 (Int.fmod sm 997))] (.ok (.f (.str t2),[.lst (aA zs 7 (Int.fmod sm 997))])),.pb (x0 (.str t2)) true]):=by
 kernel_rfl
theorem RA (j:Nat) (xs zs:List Int) (sm i1 i2 i3 bs dp:Int) (mn:Nat) (b e co bg:List Nat) (q0:Int) (r0:List Nat) (q1:Int) (r1:List Nat) (q2:Int) (r2:List Nat):dE vK (j + 1) 1524 [.f (.lst (iL xs))] [] [] [] [(1505,[.val (.ok (.f (.int i1),[.lst (aA zs 1 (Int.fmod sm 997))])),.val (.ok (.f (.int i2),[.lst (aA zs 2 (Int.fmod sm 997))])),.val (.ok (.f (.int i3),[.lst (aA zs 3 (Int.fmod sm 997))])),.val (.ok (.f (.int 3),[.lst (aA zs 4 (Int.fmod sm 997))])),.val (.ok (.f (.int q0),[.lst (aA zs 5 (Int.fmod sm 997))])),.val (.ok (.f (.int q1),[.lst (aA zs 6 (Int.fmod sm 997))])),.val (.ok (.f (.int q2),[.lst (aA zs 7 (Int.fmod sm 997))]))]),(1512,[.val (.ok (.f .none,[.lst (aA zs 7 (Int.fmod sm 997))]))])]
  ([.s (.f (.lst (iL zs)),b8 xs),.s (.f (.lst (iL zs)),b8 xs),.s (.f (.lst (iL zs)),b8 xs),.v (.f (.int sm)),.auto,.v (.f (.tup [.str b,.str e,.int bs])),.v (.f (.tup [.str co,.int dp])),.auto,.auto,.auto,.auto,.v (.f (.int (Int.ofNat mn))),.v (.f (.str r0)),.v (.f (.str r1)),.v (.f (.str r2)),.v (.f (.str bg)),.auto,.b true,.auto])
 = some (.ok (.f (.bool true),[]),[],[],KW j xs zs sm i1 i2 i3 bs dp mn b e co bg q0 r0 q1 r1 q2 r2++[.call j 1512 [.f (.str ((r0++[32])++((r1++[32])++((r2++[32])++(((b++bg)++co)++e)))))] [.lst (aA zs 7 (Int.fmod sm 997))] (.ok (.f .none,[.lst (aA zs 7 (Int.fmod sm 997))])),.pb (r9 (Int.ofNat mn) (40 - bs - dp)) true]):=by
 kernel_rfl
end Mine
end
section
namespace Mine
inductive Cr where
 | c0 | c1 | c2 | c3 | c4 | c5 | c6 | c7 | c8 | c9 | c10 | c11 | c12
noncomputable def Cr.txt:Cr→List Nat
 | .c0=>[48]
 | .c1=>[102,117,110,99,116,105,111,110,32,40,41,32,123,34,117,115,101,92,120,50,48,115,116,114,105,99,116,34,59,125]
 | .c2=>[102,117,110,99,116,105,111,110,32,40,41,32,123,40,34,117,115,101,32,115,116,114,105,99,116,34,41,59,32,34,117,115,101,32,115,116,114,105,99,116,34,59,125]
 | .c3=>[102,117,110,99,116,105,111,110,32,103,40,41,32,123,40,123,125,41,32,43,32,49,59,125]
 | .c4=>[110,101,119,32,40,102,40,41,46,97,41,40,49,41]
 | .c5=>[110,101,119,32,40,110,101,119,32,40,102,40,41,46,97,41,40,41,46,98,41,40,41]
 | .c6=>[102,117,110,99,116,105,111,110,32,40,41,32,123,40,102,117,110,99,116,105,111,110,32,40,41,32,123,125,41,46,97,59,125]
 | .c7=>[110,101,119,32,40,102,40,41,41,91,91,48,93,93,40,41]
 | .c8=>[102,117,110,99,116,105,111,110,32,40,41,32,123,34,117,115,101,32,115,116,114,105,99,116,34,59,125]
 | .c9=>[102,117,110,99,116,105,111,110,32,40,41,32,123,34,117,115,101,92,120,50,48,115,116,114,105,99,116,34,59,32,34,117,115,101,92,120,50,48,115,116,114,105,99,116,34,59,125]
 | .c10=>[102,117,110,99,116,105,111,110,32,40,41,32,123,34,117,115,101,32,115,116,114,105,99,116,34,59,32,34,117,115,101,32,115,116,114,105,99,116,34,59,125]
 | .c11=>[110,101,119,32,40,102,40,41,41,46,97,40,49,41]
 | .c12=>[110,101,119,32,110,101,119,32,40,102,40,41,41,46,97,40,41,46,98,40,41]
noncomputable def Cr.tok:Cr→Int→Int→FV
 | .c0=>aK cA (.int 0) true
 | .c1=>aK aL (.str [102,117,110,99,116,105,111,110]) true
 | .c2=>aK aL (.str [102,117,110,99,116,105,111,110]) true
 | .c3=>aK aL (.str [102,117,110,99,116,105,111,110]) true
 | .c4=>aK aL (.str [110,101,119]) true
 | .c5=>aK aL (.str [110,101,119]) true
 | .c6=>aK aL (.str [102,117,110,99,116,105,111,110]) true
 | .c7=>aK aL (.str [110,101,119]) true
 | .c8=>aK aL (.str [102,117,110,99,116,105,111,110]) true
 | .c9=>aK aL (.str [102,117,110,99,116,105,111,110]) true
 | .c10=>aK aL (.str [102,117,110,99,116,105,111,110]) true
 | .c11=>aK aL (.str [110,101,119]) true
 | .c12=>aK aL (.str [110,101,119]) true
noncomputable def Cr.len:Cr→Nat
 | .c0=>1
 | .c1=>8
 | .c2=>8
 | .c3=>8
 | .c4=>3
 | .c5=>3
 | .c6=>8
 | .c7=>3
 | .c8=>8
 | .c9=>8
 | .c10=>8
 | .c11=>3
 | .c12=>3
noncomputable def Cr.fst (c:Cr) (b:Bool):TD:=⟨c.tok,b.toNat,b.toNat + c.len⟩
noncomputable def Cr.ds:Cr→List TD
 | .c0=>OF
 | .c1=>GQ
 | .c2=>HM
 | .c3=>GR
 | .c4=>Gf
 | .c5=>G8
 | .c6=>G0
 | .c7=>G2
 | .c8=>Gp
 | .c9=>GH
 | .c10=>Av
 | .c11=>BW
 | .c12=>Bf
noncomputable def Cr.X (s:Bool):Cr→FV
 | .c0=>X0 s
 | .c1=>X1 s
 | .c2=>X2 s
 | .c3=>X3 s
 | .c4=>X4 s
 | .c5=>X5 s
 | .c6=>X6 s
 | .c7=>X7 s
 | .c8=>X8 s
 | .c9=>X9 s
 | .c10=>OK s
 | .c11=>O6 s
 | .c12=>ON s
noncomputable def Cr.deep:Cr→Nat
 | .c0=>0
 | .c1=>3
 | .c2=>4
 | .c3=>4
 | .c4=>2
 | .c5=>4
 | .c6=>5
 | .c7=>3
 | .c8=>3
 | .c9=>3
 | .c10=>3
 | .c11=>2
 | .c12=>3
noncomputable def Et.hd:Et→Nat
 | .semi=>59
 | .rp=>41
 | .rb=>93
 | .col=>32
theorem NS (s:Bool) (x s0 e0:Int):∀ (c:Cr) (E:Et),x + (c.deep:Nat) ≤ 40→b9 1158 73 (c.tok s0 e0) c.ds E.td (c.X s) s x
 | .c0,E,h=>Lz E (Qu s s0 e0 x h)
 | .c1,E,h=>nN E (Rj s s0 e0 x h)
 | .c2,E,h=>nN E (Rw s s0 e0 x h)
 | .c3,E,h=>nN E (Q7 s s0 e0 x h)
 | .c4,E,h=>sQ E (Qh s s0 e0 x h)
 | .c5,E,h=>sQ E (QX s s0 e0 x h)
 | .c6,E,h=>nN E (Qr s s0 e0 x h)
 | .c7,E,h=>sQ E (RE s s0 e0 x h)
 | .c8,E,h=>nN E (QL s s0 e0 x h)
 | .c9,E,h=>nN E (Q5 s s0 e0 x h)
 | .c10,E,h=>nN E (Pk s s0 e0 x h)
 | .c11,E,h=>sQ E (PZ s s0 e0 x h)
 | .c12,E,h=>sQ E (PI s s0 e0 x h)
noncomputable def Cr.dr:Cr→List TD
 | .c1=>O9
 | .c2=>O0
 | .c3=>OC
 | .c4=>Oa
 | .c5=>OE
 | .c6=>Om
 | .c7=>O7
 | _=>[]
inductive Cr.Own:Cr→Prop
 | c1:Cr.Own .c1
 | c2:Cr.Own .c2
 | c3:Cr.Own .c3
 | c4:Cr.Own .c4
 | c5:Cr.Own .c5
 | c6:Cr.Own .c6
 | c7:Cr.Own .c7
theorem Nz (s:Bool) (x s0 e0:Int) {c:Cr} (o:c.Own) (h:x + (c.deep:Nat)=41):bK 1158 73 (c.tok s0 e0) c.dr s x:=by
 cases o
 ·exact tH (RB s s0 e0 x h)
 ·exact tH (Ri s s0 e0 x h)
 ·exact tH (QO s s0 e0 x h)
 ·exact yU (Qy s s0 e0 x h)
 ·exact yU (QV s s0 e0 x h)
 ·exact tH (RD s s0 e0 x h)
 ·exact yU (RT s s0 e0 x h)
theorem aJ {w r1:List Nat}{d:TD}{ds:List TD}{r':List Nat} (hn:w.length=d.n) (h:bB (w++r1) d) (t:bG r1 ds r'):bG (w++r1) (d::ds) r':=⟨w,r1,rfl,hn,h,t⟩
theorem aB {c:Nat}{r1:List Nat}{d:TD}{ds:List TD}{r':List Nat} (hn:1=d.n) (h:bB (c::r1) d) (t:bG r1 ds r'):bG (c::r1) (d::ds) r':=aJ (w:=[c]) hn h t
noncomputable def bl:Bool→List Nat
 | false=>[]
 | true=>[32]
theorem bG.cut:∀ {d1 d2:List TD}{r r':List Nat},bG r (d1++d2) r'→∃ r1,bG r d1 r1∧bG r1 d2 r'
 | [],_,r,_,h=>⟨r,rfl,h⟩
 | d::d1,d2,r,r',⟨w,q,e,n,x,h⟩=>by
  obtain⟨r1,h1,h2⟩:=h.cut
  exact⟨r1,⟨w,q,e,n,x,h1⟩,h2⟩
theorem NM (r:List Nat):bG (102::117::110::99::116::105::111::110::32::40::41::32::123::34::117::115::101::92::120::50::48::115::116::114::105::99::116::34::59::125::r) (Cr.fst .c1 false::GQ) r:=aJ (w:=[102,117,110,99,116,105,111,110]) rfl (bH _) (aJ (w:=[32,40]) rfl (bL _) (aB rfl (aM _) (aJ (w:=[32,123]) rfl (cS _) (aJ (w:=[34,117,115,101,92,120,50,48,115,116,114,105,99,116,34]) rfl (s9 _) (aB rfl (aT _) (aB rfl (bP _) (rfl)))))))
theorem Mv (r:List Nat):bG (32::102::117::110::99::116::105::111::110::32::40::41::32::123::34::117::115::101::92::120::50::48::115::116::114::105::99::116::34::59::125::r) (Cr.fst .c1 true::GQ) r:=aJ (w:=[32,102,117,110,99,116,105,111,110]) rfl (cR _) (aJ (w:=[32,40]) rfl (bL _) (aB rfl (aM _) (aJ (w:=[32,123]) rfl (cS _) (aJ (w:=[34,117,115,101,92,120,50,48,115,116,114,105,99,116,34]) rfl (s9 _) (aB rfl (aT _) (aB rfl (bP _) (rfl)))))))
theorem MK (r:List Nat):bG (102::117::110::99::116::105::111::110::32::40::41::32::123::40::34::117::115::101::32::115::116::114::105::99::116::34::41::59::32::34::117::115::101::32::115::116::114::105::99::116::34::59::125::r) (Cr.fst .c2 false::HM) r:=aJ (w:=[102,117,110,99,116,105,111,110]) rfl (bH _) (aJ (w:=[32,40]) rfl (bL _) (aB rfl (aM _) (aJ (w:=[32,123]) rfl (cS _) (aB rfl (bD _) (aJ (w:=[34,117,115,101,32,115,116,114,105,99,116,34]) rfl (kQ _) (aB rfl (aM _) (aB rfl (aT _) (aJ (w:=[32,34,117,115,101,32,115,116,114,105,99,116,34]) rfl (pD _) (aB rfl (aT _) (aB rfl (bP _) (rfl)))))))))))
theorem MX (r:List Nat):bG (32::102::117::110::99::116::105::111::110::32::40::41::32::123::40::34::117::115::101::32::115::116::114::105::99::116::34::41::59::32::34::117::115::101::32::115::116::114::105::99::116::34::59::125::r) (Cr.fst .c2 true::HM) r:=aJ (w:=[32,102,117,110,99,116,105,111,110]) rfl (cR _) (aJ (w:=[32,40]) rfl (bL _) (aB rfl (aM _) (aJ (w:=[32,123]) rfl (cS _) (aB rfl (bD _) (aJ (w:=[34,117,115,101,32,115,116,114,105,99,116,34]) rfl (kQ _) (aB rfl (aM _) (aB rfl (aT _) (aJ (w:=[32,34,117,115,101,32,115,116,114,105,99,116,34]) rfl (pD _) (aB rfl (aT _) (aB rfl (bP _) (rfl)))))))))))
theorem Ma (r:List Nat):bG (102::117::110::99::116::105::111::110::32::103::40::41::32::123::40::123::125::41::32::43::32::49::59::125::r) (Cr.fst .c3 false::GR) r:=aJ (w:=[102,117,110,99,116,105,111,110]) rfl (bH _) (aJ (w:=[32,103]) rfl (yH _) (aB rfl (bD _) (aB rfl (aM _) (aJ (w:=[32,123]) rfl (cS _) (aB rfl (bD _) (aB rfl (jL _) (aB rfl (bP _) (aB rfl (aM _) (aJ (w:=[32,43]) rfl (mK _) (aJ (w:=[32,49]) rfl (qP _) (aB rfl (aT _) (aB rfl (bP _) (rfl)))))))))))))
theorem NH (r:List Nat):bG (32::102::117::110::99::116::105::111::110::32::103::40::41::32::123::40::123::125::41::32::43::32::49::59::125::r) (Cr.fst .c3 true::GR) r:=aJ (w:=[32,102,117,110,99,116,105,111,110]) rfl (cR _) (aJ (w:=[32,103]) rfl (yH _) (aB rfl (bD _) (aB rfl (aM _) (aJ (w:=[32,123]) rfl (cS _) (aB rfl (bD _) (aB rfl (jL _) (aB rfl (bP _) (aB rfl (aM _) (aJ (w:=[32,43]) rfl (mK _) (aJ (w:=[32,49]) rfl (qP _) (aB rfl (aT _) (aB rfl (bP _) (rfl)))))))))))))
theorem Mj (r:List Nat):bG (110::101::119::32::40::102::40::41::46::97::41::40::49::41::r) (Cr.fst .c4 false::Gf) r:=aJ (w:=[110,101,119]) rfl (eY _) (aJ (w:=[32,40]) rfl (bL _) (aB rfl (eM _) (aB rfl (bD _) (aB rfl (aM _) (aB rfl (cL _) (aB rfl (oE _) (aB rfl (aM _) (aB rfl (bD _) (aB rfl (jF _) (aB rfl (aM _) (rfl)))))))))))
theorem Nd (r:List Nat):bG (32::110::101::119::32::40::102::40::41::46::97::41::40::49::41::r) (Cr.fst .c4 true::Gf) r:=aJ (w:=[32,110,101,119]) rfl (eW _) (aJ (w:=[32,40]) rfl (bL _) (aB rfl (eM _) (aB rfl (bD _) (aB rfl (aM _) (aB rfl (cL _) (aB rfl (oE _) (aB rfl (aM _) (aB rfl (bD _) (aB rfl (jF _) (aB rfl (aM _) (rfl)))))))))))
theorem MI (r:List Nat):bG (110::101::119::32::40::110::101::119::32::40::102::40::41::46::97::41::40::41::46::98::41::40::41::r) (Cr.fst .c5 false::G8) r:=aJ (w:=[110,101,119]) rfl (eY _) (aJ (w:=[32,40]) rfl (bL _) (aJ (w:=[110,101,119]) rfl (eY _) (aJ (w:=[32,40]) rfl (bL _) (aB rfl (eM _) (aB rfl (bD _) (aB rfl (aM _) (aB rfl (cL _) (aB rfl (oE _) (aB rfl (aM _) (aB rfl (bD _) (aB rfl (aM _) (aB rfl (lY _) (aB rfl (xO _) (aB rfl (aM _) (aB rfl (bD _) (aB rfl (aM _) (rfl)))))))))))))))))
theorem NY (r:List Nat):bG (32::110::101::119::32::40::110::101::119::32::40::102::40::41::46::97::41::40::41::46::98::41::40::41::r) (Cr.fst .c5 true::G8) r:=aJ (w:=[32,110,101,119]) rfl (eW _) (aJ (w:=[32,40]) rfl (bL _) (aJ (w:=[110,101,119]) rfl (eY _) (aJ (w:=[32,40]) rfl (bL _) (aB rfl (eM _) (aB rfl (bD _) (aB rfl (aM _) (aB rfl (cL _) (aB rfl (oE _) (aB rfl (aM _) (aB rfl (bD _) (aB rfl (aM _) (aB rfl (lY _) (aB rfl (xO _) (aB rfl (aM _) (aB rfl (bD _) (aB rfl (aM _) (rfl)))))))))))))))))
theorem NV (r:List Nat):bG (102::117::110::99::116::105::111::110::32::40::41::32::123::40::102::117::110::99::116::105::111::110::32::40::41::32::123::125::41::46::97::59::125::r) (Cr.fst .c6 false::G0) r:=aJ (w:=[102,117,110,99,116,105,111,110]) rfl (bH _) (aJ (w:=[32,40]) rfl (bL _) (aB rfl (aM _) (aJ (w:=[32,123]) rfl (cS _) (aB rfl (bD _) (aJ (w:=[102,117,110,99,116,105,111,110]) rfl (bH _) (aJ (w:=[32,40]) rfl (bL _) (aB rfl (aM _) (aJ (w:=[32,123]) rfl (cS _) (aB rfl (bP _) (aB rfl (aM _) (aB rfl (cL _) (aB rfl (tG _) (aB rfl (aT _) (aB rfl (bP _) (rfl)))))))))))))))
theorem NR (r:List Nat):bG (32::102::117::110::99::116::105::111::110::32::40::41::32::123::40::102::117::110::99::116::105::111::110::32::40::41::32::123::125::41::46::97::59::125::r) (Cr.fst .c6 true::G0) r:=aJ (w:=[32,102,117,110,99,116,105,111,110]) rfl (cR _) (aJ (w:=[32,40]) rfl (bL _) (aB rfl (aM _) (aJ (w:=[32,123]) rfl (cS _) (aB rfl (bD _) (aJ (w:=[102,117,110,99,116,105,111,110]) rfl (bH _) (aJ (w:=[32,40]) rfl (bL _) (aB rfl (aM _) (aJ (w:=[32,123]) rfl (cS _) (aB rfl (bP _) (aB rfl (aM _) (aB rfl (cL _) (aB rfl (tG _) (aB rfl (aT _) (aB rfl (bP _) (rfl)))))))))))))))
theorem NP (r:List Nat):bG (110::101::119::32::40::102::40::41::41::91::91::48::93::93::40::41::r) (Cr.fst .c7 false::G2) r:=aJ (w:=[110,101,119]) rfl (eY _) (aJ (w:=[32,40]) rfl (bL _) (aB rfl (eM _) (aB rfl (bD _) (aB rfl (aM _) (aB rfl (aM _) (aB rfl (pG _) (aB rfl (pG _) (aB rfl (oX _) (aB rfl (oW _) (aB rfl (oW _) (aB rfl (bD _) (aB rfl (aM _) (rfl)))))))))))))
theorem Ly (r:List Nat):bG (32::110::101::119::32::40::102::40::41::41::91::91::48::93::93::40::41::r) (Cr.fst .c7 true::G2) r:=aJ (w:=[32,110,101,119]) rfl (eW _) (aJ (w:=[32,40]) rfl (bL _) (aB rfl (eM _) (aB rfl (bD _) (aB rfl (aM _) (aB rfl (aM _) (aB rfl (pG _) (aB rfl (pG _) (aB rfl (oX _) (aB rfl (oW _) (aB rfl (oW _) (aB rfl (bD _) (aB rfl (aM _) (rfl)))))))))))))
theorem Nc (r:List Nat):bG (102::117::110::99::116::105::111::110::32::40::41::32::123::34::117::115::101::32::115::116::114::105::99::116::34::59::125::r) (Cr.fst .c8 false::Gp) r:=aJ (w:=[102,117,110,99,116,105,111,110]) rfl (bH _) (aJ (w:=[32,40]) rfl (bL _) (aB rfl (aM _) (aJ (w:=[32,123]) rfl (cS _) (aJ (w:=[34,117,115,101,32,115,116,114,105,99,116,34]) rfl (kQ _) (aB rfl (aT _) (aB rfl (bP _) (rfl)))))))
theorem MJ (r:List Nat):bG (32::102::117::110::99::116::105::111::110::32::40::41::32::123::34::117::115::101::32::115::116::114::105::99::116::34::59::125::r) (Cr.fst .c8 true::Gp) r:=aJ (w:=[32,102,117,110,99,116,105,111,110]) rfl (cR _) (aJ (w:=[32,40]) rfl (bL _) (aB rfl (aM _) (aJ (w:=[32,123]) rfl (cS _) (aJ (w:=[34,117,115,101,32,115,116,114,105,99,116,34]) rfl (kQ _) (aB rfl (aT _) (aB rfl (bP _) (rfl)))))))
theorem NW (r:List Nat):bG (102::117::110::99::116::105::111::110::32::40::41::32::123::34::117::115::101::92::120::50::48::115::116::114::105::99::116::34::59::32::34::117::115::101::92::120::50::48::115::116::114::105::99::116::34::59::125::r) (Cr.fst .c9 false::GH) r:=aJ (w:=[102,117,110,99,116,105,111,110]) rfl (bH _) (aJ (w:=[32,40]) rfl (bL _) (aB rfl (aM _) (aJ (w:=[32,123]) rfl (cS _) (aJ (w:=[34,117,115,101,92,120,50,48,115,116,114,105,99,116,34]) rfl (s9 _) (aB rfl (aT _) (aJ (w:=[32,34,117,115,101,92,120,50,48,115,116,114,105,99,116,34]) rfl (xU _) (aB rfl (aT _) (aB rfl (bP _) (rfl)))))))))
theorem NZ (r:List Nat):bG (32::102::117::110::99::116::105::111::110::32::40::41::32::123::34::117::115::101::92::120::50::48::115::116::114::105::99::116::34::59::32::34::117::115::101::92::120::50::48::115::116::114::105::99::116::34::59::125::r) (Cr.fst .c9 true::GH) r:=aJ (w:=[32,102,117,110,99,116,105,111,110]) rfl (cR _) (aJ (w:=[32,40]) rfl (bL _) (aB rfl (aM _) (aJ (w:=[32,123]) rfl (cS _) (aJ (w:=[34,117,115,101,92,120,50,48,115,116,114,105,99,116,34]) rfl (s9 _) (aB rfl (aT _) (aJ (w:=[32,34,117,115,101,92,120,50,48,115,116,114,105,99,116,34]) rfl (xU _) (aB rfl (aT _) (aB rfl (bP _) (rfl)))))))))
theorem L8 (r:List Nat):bG (102::117::110::99::116::105::111::110::32::40::41::32::123::34::117::115::101::32::115::116::114::105::99::116::34::59::32::34::117::115::101::32::115::116::114::105::99::116::34::59::125::r) (Cr.fst .c10 false::Av) r:=aJ (w:=[102,117,110,99,116,105,111,110]) rfl (bH _) (aJ (w:=[32,40]) rfl (bL _) (aB rfl (aM _) (aJ (w:=[32,123]) rfl (cS _) (aJ (w:=[34,117,115,101,32,115,116,114,105,99,116,34]) rfl (kQ _) (aB rfl (aT _) (aJ (w:=[32,34,117,115,101,32,115,116,114,105,99,116,34]) rfl (pD _) (aB rfl (aT _) (aB rfl (bP _) (rfl)))))))))
theorem Kc (r:List Nat):bG (32::102::117::110::99::116::105::111::110::32::40::41::32::123::34::117::115::101::32::115::116::114::105::99::116::34::59::32::34::117::115::101::32::115::116::114::105::99::116::34::59::125::r) (Cr.fst .c10 true::Av) r:=aJ (w:=[32,102,117,110,99,116,105,111,110]) rfl (cR _) (aJ (w:=[32,40]) rfl (bL _) (aB rfl (aM _) (aJ (w:=[32,123]) rfl (cS _) (aJ (w:=[34,117,115,101,32,115,116,114,105,99,116,34]) rfl (kQ _) (aB rfl (aT _) (aJ (w:=[32,34,117,115,101,32,115,116,114,105,99,116,34]) rfl (pD _) (aB rfl (aT _) (aB rfl (bP _) (rfl)))))))))
theorem Kx (r:List Nat):bG (110::101::119::32::40::102::40::41::41::46::97::40::49::41::r) (Cr.fst .c11 false::BW) r:=aJ (w:=[110,101,119]) rfl (eY _) (aJ (w:=[32,40]) rfl (bL _) (aB rfl (eM _) (aB rfl (bD _) (aB rfl (aM _) (aB rfl (aM _) (aB rfl (cL _) (aB rfl (lB _) (aB rfl (bD _) (aB rfl (jF _) (aB rfl (aM _) (rfl)))))))))))
theorem KK (r:List Nat):bG (32::110::101::119::32::40::102::40::41::41::46::97::40::49::41::r) (Cr.fst .c11 true::BW) r:=aJ (w:=[32,110,101,119]) rfl (eW _) (aJ (w:=[32,40]) rfl (bL _) (aB rfl (eM _) (aB rfl (bD _) (aB rfl (aM _) (aB rfl (aM _) (aB rfl (cL _) (aB rfl (lB _) (aB rfl (bD _) (aB rfl (jF _) (aB rfl (aM _) (rfl)))))))))))
theorem KX (r:List Nat):bG (110::101::119::32::110::101::119::32::40::102::40::41::41::46::97::40::41::46::98::40::41::r) (Cr.fst .c12 false::Bf) r:=aJ (w:=[110,101,119]) rfl (eY _) (aJ (w:=[32,110,101,119]) rfl (eW _) (aJ (w:=[32,40]) rfl (bL _) (aB rfl (eM _) (aB rfl (bD _) (aB rfl (aM _) (aB rfl (aM _) (aB rfl (cL _) (aB rfl (lB _) (aB rfl (bD _) (aB rfl (aM _) (aB rfl (lY _) (aB rfl (wV _) (aB rfl (bD _) (aB rfl (aM _) (rfl)))))))))))))))
theorem Kk (r:List Nat):bG (32::110::101::119::32::110::101::119::32::40::102::40::41::41::46::97::40::41::46::98::40::41::r) (Cr.fst .c12 true::Bf) r:=aJ (w:=[32,110,101,119]) rfl (eW _) (aJ (w:=[32,110,101,119]) rfl (eW _) (aJ (w:=[32,40]) rfl (bL _) (aB rfl (eM _) (aB rfl (bD _) (aB rfl (aM _) (aB rfl (aM _) (aB rfl (cL _) (aB rfl (lB _) (aB rfl (bD _) (aB rfl (aM _) (aB rfl (lY _) (aB rfl (wV _) (aB rfl (bD _) (aB rfl (aM _) (rfl)))))))))))))))
theorem HV (r:List Nat):∀ (c:Cr) (E:Et) (b:Bool),(c=.c0→E=.rb→b=false)→bG (bl b++(c.txt++(E.hd::r))) (c.fst b::c.ds) (E.hd::r)
 | .c0,.semi,false,h=>aJ (w:=[48]) rfl (yZ _) rfl
 | .c0,.semi,true,h=>aJ (w:=[32,48]) rfl (qZ _) rfl
 | .c0,.rp,false,h=>aJ (w:=[48]) rfl (Cu _) rfl
 | .c0,.rp,true,h=>aJ (w:=[32,48]) rfl (DB _) rfl
 | .c0,.rb,false,h=>aJ (w:=[48]) rfl (oX _) rfl
 | .c0,.rb,true,h=>absurd (h rfl rfl) (by decide)
 | .c0,.col,false,h=>aJ (w:=[48]) rfl (DE _) rfl
 | .c0,.col,true,h=>aJ (w:=[32,48]) rfl (DW _) rfl
 | .c1,_,false,_=>NM _
 | .c1,_,true,_=>Mv _
 | .c2,_,false,_=>MK _
 | .c2,_,true,_=>MX _
 | .c3,_,false,_=>Ma _
 | .c3,_,true,_=>NH _
 | .c4,_,false,_=>Mj _
 | .c4,_,true,_=>Nd _
 | .c5,_,false,_=>MI _
 | .c5,_,true,_=>NY _
 | .c6,_,false,_=>NV _
 | .c6,_,true,_=>NR _
 | .c7,_,false,_=>NP _
 | .c7,_,true,_=>Ly _
 | .c8,_,false,_=>Nc _
 | .c8,_,true,_=>MJ _
 | .c9,_,false,_=>NW _
 | .c9,_,true,_=>NZ _
 | .c10,_,false,_=>L8 _
 | .c10,_,true,_=>Kc _
 | .c11,_,false,_=>Kx _
 | .c11,_,true,_=>KK _
 | .c12,_,false,_=>KX _
 | .c12,_,true,_=>Kk _
noncomputable def nD (c:Cr) (b:Bool):Nat→TD
 | 0=>c.fst b
 | _ + 1=>match b with
  | false=>qJ
  | true=>sJ
theorem M9 (b:Bool) (c:Cr) (r:List Nat):bB ((bl b++[33])++(c.txt++r)) (nD c b 1):=by
 cases b<;>cases c
 ·exact Fi _
 ·exact gX _
 ·exact gX _
 ·exact gX _
 ·exact kR _
 ·exact kR _
 ·exact gX _
 ·exact kR _
 ·exact gX _
 ·exact gX _
 ·exact gX _
 ·exact kR _
 ·exact kR _
 ·exact Ft _
 ·exact gT _
 ·exact gT _
 ·exact gT _
 ·exact kN _
 ·exact kN _
 ·exact gT _
 ·exact kN _
 ·exact gT _
 ·exact gT _
 ·exact gT _
 ·exact kN _
 ·exact kN _
theorem Jr (b:Bool) (c:Cr) (r:List Nat):bB ((bl b++[33])++(33::r)) (nD c b 1):=by
 cases b
 ·exact CT _
 ·exact Dq _
theorem HI (r:List Nat) (c:Cr) (E:Et):∀ (k:Nat) (b:Bool),(c=.c0→E=.rb→b=false)→bG (bl b++a8 k (c.txt++(E.hd::r))) (nD c b k::(gJ (c.fst false) c.ds k).2) (E.hd::r)
 | 0,b,h=>HV r c E b h
 | 1,b,h=>by
  have:=HV r c E false (fun _ _=>rfl)
  have e:bl b++a8 1 (c.txt++(E.hd::r))=(bl b++[33])++(c.txt++(E.hd::r)):=by simp[a8]
  rw[e]
  exact aJ (by cases b<;>rfl) (M9 b c _) this
 | k + 2,b,h=>by
  have:=HI r c E (k + 1) false (fun _ _=>rfl)
  have e:bl b++a8 (k + 2) (c.txt++(E.hd::r))=(bl b++[33])++(33::a8 k (c.txt++(E.hd::r))):=by simp[a8]
  rw[e]
  exact aJ (by cases b<;>rfl) (Jr b c _) this
theorem t5 (c:Cr) (b:Bool) (k:Nat):(nD c b k).tok=(gJ (c.fst false) c.ds k).1.tok:=by
 cases k<;>cases b<;>rfl
inductive Ld where
 | l0 | l1 | l2 | l3 | l4 | l5 | l6 | l7 | l8
noncomputable def Ld.preT:Ld→List Nat
 | .l0=>[123,125,41,32,43]
 | .l1=>[123,125,41,46,97,32,61]
 | .l2=>[102,117,110,99,116,105,111,110,32,40,41,32,123,125,41,46,99,97,108,108,40,116,104,105,115,44]
 | .l3=>[123,125,41,91]
 | .l4=>[123,125,41,44]
 | .l5=>[102,117,110,99,116,105,111,110,32,40,41,32,123,125,41,32,63]
 | .l6=>[123,125,41,46,97,40,49,41,40]
 | .l7=>[102,117,110,99,116,105,111,110,32,102,40,41,32,123,125,41,40,41,32,124,124]
 | .l8=>[123,125,41,46,97,43,43,44]
noncomputable def Ld.tr:Ld→Bool
 | .l0=>true
 | .l1=>true
 | .l2=>true
 | .l3=>false
 | .l4=>true
 | .l5=>true
 | .l6=>false
 | .l7=>true
 | .l8=>true
noncomputable def Ld.E:Ld→Et
 | .l0=>.semi
 | .l1=>.semi
 | .l2=>.rp
 | .l3=>.rb
 | .l4=>.semi
 | .l5=>.col
 | .l6=>.rp
 | .l7=>.semi
 | .l8=>.semi
noncomputable def Ld.rest:Ld→List Nat
 | .l0=>[]
 | .l1=>[]
 | .l2=>[59]
 | .l3=>[59]
 | .l4=>[]
 | .l5=>[58,32,48,59]
 | .l6=>[59]
 | .l7=>[]
 | .l8=>[]
noncomputable def Ld.pre:Ld→List TD
 | .l0=>Fc
 | .l1=>F5
 | .l2=>n0
 | .l3=>FY
 | .l4=>FG
 | .l5=>Fq
 | .l6=>nW
 | .l7=>Ec
 | .l8=>FJ
noncomputable def Ld.post:Ld→List TD
 | .l0=>Gu
 | .l1=>GL
 | .l2=>sS
 | .l3=>GU
 | .l4=>Gq
 | .l5=>GJ
 | .l6=>tB
 | .l7=>Go
 | .l8=>HJ
noncomputable def Ld.base:Ld→Nat
 | .l0=>2
 | .l1=>3
 | .l2=>3
 | .l3=>3
 | .l4=>2
 | .l5=>3
 | .l6=>3
 | .l7=>2
 | .l8=>2
noncomputable def Ld.M (s:Bool) (X:FV):Ld→FV
 | .l0=>M0 s X
 | .l1=>M1 s X
 | .l2=>M2 s X
 | .l3=>M3 s X
 | .l4=>M4 s X
 | .l5=>M5 s X
 | .l6=>M6 s X
 | .l7=>M7 s X
 | .l8=>M8 s X
theorem Js (R:List Nat):∀ l:Ld,bG (l.preT++(bl l.tr++R)) l.pre (bl l.tr++R)
 | .l0=>aB rfl (jL _) (aB rfl (bP _) (aB rfl (aM _) (aJ (w:=[32,43]) rfl (mK _) (rfl))))
 | .l1=>aB rfl (jL _) (aB rfl (bP _) (aB rfl (aM _) (aB rfl (cL _) (aB rfl (FN _) (aJ (w:=[32,61]) rfl (CB _) (rfl))))))
 | .l2=>aJ (w:=[102,117,110,99,116,105,111,110]) rfl (bH _) (aJ (w:=[32,40]) rfl (bL _) (aB rfl (aM _) (aJ (w:=[32,123]) rfl (cS _) (aB rfl (bP _) (aB rfl (aM _) (aB rfl (Co _) (aJ (w:=[99,97,108,108]) rfl (y4 _) (aB rfl (bD _) (aJ (w:=[116,104,105,115]) rfl (wS _) (aB rfl (tW _) (rfl)))))))))))
 | .l3=>aB rfl (jL _) (aB rfl (bP _) (aB rfl (aM _) (aB rfl (pG _) (rfl))))
 | .l4=>aB rfl (jL _) (aB rfl (bP _) (aB rfl (aM _) (aB rfl (tW _) (rfl))))
 | .l5=>aJ (w:=[102,117,110,99,116,105,111,110]) rfl (bH _) (aJ (w:=[32,40]) rfl (bL _) (aB rfl (aM _) (aJ (w:=[32,123]) rfl (cS _) (aB rfl (bP _) (aB rfl (aM _) (aJ (w:=[32,63]) rfl (JB _) (rfl)))))))
 | .l6=>aB rfl (jL _) (aB rfl (bP _) (aB rfl (aM _) (aB rfl (cL _) (aB rfl (lB _) (aB rfl (bD _) (aB rfl (jF _) (aB rfl (aM _) (aB rfl (bD _) (rfl)))))))))
 | .l7=>aJ (w:=[102,117,110,99,116,105,111,110]) rfl (bH _) (aJ (w:=[32,102]) rfl (FQ _) (aB rfl (bD _) (aB rfl (aM _) (aJ (w:=[32,123]) rfl (cS _) (aB rfl (bP _) (aB rfl (aM _) (aB rfl (bD _) (aB rfl (aM _) (aJ (w:=[32,124,124]) rfl (DZ _) (rfl))))))))))
 | .l8=>aB rfl (jL _) (aB rfl (bP _) (aB rfl (aM _) (aB rfl (cL _) (aB rfl (BN _) (aJ (w:=[43,43]) rfl (Af _) (aB rfl (tW _) (rfl)))))))
theorem KL:∀ l:Ld,bG (l.E.hd::l.rest) (l.E.td::(l.post++[a9])) []
 | .l0=>aJ (w:=[59]) rfl (aT _) (aJ (w:=[]) rfl f7 rfl)
 | .l1=>aJ (w:=[59]) rfl (aT _) (aJ (w:=[]) rfl f7 rfl)
 | .l2=>aJ (w:=[41]) rfl (aM _) (aJ (w:=[59]) rfl (aT _) (aJ (w:=[]) rfl f7 rfl))
 | .l3=>aJ (w:=[93]) rfl (oW _) (aJ (w:=[59]) rfl (aT _) (aJ (w:=[]) rfl f7 rfl))
 | .l4=>aJ (w:=[59]) rfl (aT _) (aJ (w:=[]) rfl f7 rfl)
 | .l5=>aJ (w:=[32,58]) rfl (Hg _) (aJ (w:=[32,48]) rfl (qZ _) (aJ (w:=[59]) rfl (aT _) (aJ (w:=[]) rfl f7 rfl)))
 | .l6=>aJ (w:=[41]) rfl (aM _) (aJ (w:=[59]) rfl (aT _) (aJ (w:=[]) rfl f7 rfl))
 | .l7=>aJ (w:=[59]) rfl (aT _) (aJ (w:=[]) rfl f7 rfl)
 | .l8=>aJ (w:=[59]) rfl (aT _) (aJ (w:=[]) rfl f7 rfl)
noncomputable def FT (d:TD):Prop:=d.tok=aK aW (.str [33]) true∨d.tok=aK cA (.int 0) true∨d.tok=aK aL (.str [102,117,110,99,116,105,111,110]) true∨d.tok=aK aL (.str [110,101,119]) true
theorem yP (c:Cr) (b:Bool) (k:Nat):FT (nD c b k):=by
 cases k with
 | zero=>cases c<;>first | exact .inl rfl | exact .inr (.inl rfl) | exact .inr (.inr (.inl rfl)) | exact .inr (.inr (.inr rfl))
 | succ n=>cases b<;>exact .inl rfl
theorem MW (s:Bool) (j:Nat) (tc:TD) (ht:FT tc) (ds:List TD) (X:FV) (s0 e0:Int):∀ l:Ld,(∀ s0 e0,b9 1158 (j + 73) (tc.tok s0 e0) ds l.E.td X s (l.base:Nat))→b9 1259 (j + 113) (aK aW (.str [40]) true s0 e0) ((l.pre++[tc])++((ds++[l.E.td])++l.post)) a9 (l.M s X) s 0
 | .l0,H=>RI s j tc ds X H s0 e0
 | .l1,H=>RG s j tc ds X H s0 e0
 | .l2,H=>by
  obtain⟨tok,b,n⟩:=tc
  rcases ht with h | h | h | h<;>simp only at h<;>subst h
  ·exact Nm s j b n ds X H s0 e0
  ·exact Nw s j b n ds X H s0 e0
  ·exact NJ s j b n ds X H s0 e0
  ·exact NL s j b n ds X H s0 e0
 | .l3,H=>RJ s j tc ds X H s0 e0
 | .l4,H=>Rh s j tc ds X H s0 e0
 | .l5,H=>Rs s j tc ds X H s0 e0
 | .l6,H=>by
  obtain⟨tok,b,n⟩:=tc
  rcases ht with h | h | h | h<;>simp only at h<;>subst h
  ·exact Nb s j b n ds X H s0 e0
  ·exact N8 s j b n ds X H s0 e0
  ·exact Mn s j b n ds X H s0 e0
  ·exact Me s j b n ds X H s0 e0
 | .l7,H=>Ru s j tc ds X H s0 e0
 | .l8,H=>Qv s j tc ds X H s0 e0
theorem G5 (s:Bool) (j:Nat) (tc:TD) (ht:FT tc) (ds:List TD) (s0 e0:Int):∀ l:Ld,(∀ s0 e0,bK 1158 (j + 73) (tc.tok s0 e0) ds s (l.base:Nat))→bK 1259 (j + 113) (aK aW (.str [40]) true s0 e0) ((l.pre++[tc])++ds) s 0
 | .l0,H=>Q0 s j tc ds H s0 e0
 | .l1,H=>RH s j tc ds H s0 e0
 | .l2,H=>by
  obtain⟨tok,b,n⟩:=tc
  rcases ht with h | h | h | h<;>simp only at h<;>subst h
  ·exact MD s j b n ds H s0 e0
  ·exact OA s j b n ds H s0 e0
  ·exact MB s j b n ds H s0 e0
  ·exact N9 s j b n ds H s0 e0
 | .l3,H=>Qk s j tc ds H s0 e0
 | .l4,H=>RZ s j tc ds H s0 e0
 | .l5,H=>QT s j tc ds H s0 e0
 | .l6,H=>by
  obtain⟨tok,b,n⟩:=tc
  rcases ht with h | h | h | h<;>simp only at h<;>subst h
  ·exact Mg s j b n ds H s0 e0
  ·exact NT s j b n ds H s0 e0
  ·exact NE s j b n ds H s0 e0
  ·exact N7 s j b n ds H s0 e0
 | .l7,H=>R4 s j tc ds H s0 e0
 | .l8,H=>Rp s j tc ds H s0 e0
end Mine
end
section
namespace Mine
noncomputable def uU (l:Ld) (c:Cr) (k:Nat):List TD:=(l.pre++[nD c l.tr k])++(((gJ (c.fst false) c.ds k).2++[l.E.td])++l.post)
noncomputable def mR (l:Ld) (c:Cr) (k:Nat):List Nat:=l.preT++(bl l.tr++a8 k (c.txt++(l.E.hd::l.rest)))
theorem Nt:∀ l:Ld,l.E=.rb→l.tr=false
 | .l3,_=>rfl
theorem DI (l:Ld) (c:Cr) (k:Nat):bG (mR l c k) (uU l c k++[a9]) []:=by
 have h1:=Js (a8 k (c.txt++(l.E.hd::l.rest))) l
 have h2:=HI l.rest c l.E k l.tr (fun _ e=>Nt l e)
 have h3:=KL l
 have:=h1.app (h2.app h3)
 have e:l.pre++(nD c l.tr k::(gJ (c.fst false) c.ds k).2++(l.E.td::(l.post++[a9])))=uU l c k++[a9]:=by simp[uU]
 rw[e]at this
 exact this
theorem JE (l:Ld) (c:Cr) (k:Nat) (s:Bool) (h:(l.base:Int) + (k:Nat) + (c.deep:Nat) ≤ 40) (s0 e0:Int):b9 1259 (2 * k + 113) (aK aW (.str [40]) true s0 e0) (uU l c k) a9 (l.M s (fQ (c.X s) k)) s 0:=by
 refine MW s (2 * k) (nD c l.tr k) (yP c l.tr k) _ _ s0 e0 l (fun s0 e0=>?_)
 rw[t5]
 have:=yI (d0:=c.fst false) (ds:=c.ds) (E:=l.E.td) (X:=c.X s) (s:=s) k (l.base:Nat) (by omega) (fun s0 e0=>NS s _ s0 e0 c l.E h) s0 e0
 rw[show 73 + 2 * k=2 * k + 73 by omega]at this
 exact this
theorem Hh (l:Ld) (c:Cr) (k:Nat) (s:Bool) (o:c=.c0∨c.Own) (h:(l.base:Int) + (k:Nat) + (c.deep:Nat)=41) (hk:1 ≤ k):∃ ds,(∃ more,uU l c k=ds++more)∧∀ s0 e0,bK 1259 (2 * k + 113) (aK aW (.str [40]) true s0 e0) ds s 0:=by
 rcases o with rfl | o
 ·obtain⟨k',rfl⟩:∃ k',k=k' + 1:=⟨k - 1,by omega⟩
  refine⟨(l.pre++[nD .c0 l.tr (k' + 1)])++(gJ f9 [] (k' + 1)).2,?_,fun s0 e0=>?_⟩
  ·have e:∀ k,(gJ (Cr.fst .c0 false) (Cr.ds .c0) k).2=(gJ f9 [] k).2:=by
    intro k;induction k with
    | zero=>rfl
    | succ k ih=>show _::_=_::_;rw[ih];rfl
   refine⟨[l.E.td]++l.post,?_⟩
   simp only[uU,e,List.append_assoc]
  ·refine G5 s (2 * (k' + 1)) (nD .c0 l.tr (k' + 1)) (yP _ _ _) _ s0 e0 l (fun s0 e0=>?_)
   rw[t5]
   have:=rY (s:=s) k' (l.base:Nat) (by have:(Cr.deep .c0:Int)=0:=rfl;omega) s0 e0
   rw[show 75 + 2 * k'=2 * (k' + 1) + 73 by omega]at this
   exact this
 ·refine⟨(l.pre++[nD c l.tr k])++(gJ (c.fst false) c.dr k).2,?_,fun s0 e0=>?_⟩
  ·have hd:∃ q,c.ds=c.dr++q:=⟨c.ds.drop c.dr.length,by cases o<;>rfl⟩
   obtain⟨q,hq⟩:=hd
   have e:∀ k,(gJ (c.fst false) c.ds k).2=(gJ (c.fst false) c.dr k).2++q:=by
    intro k;induction k with
    | zero=>exact hq
    | succ k ih =>
     show(gJ _ _ k).1::_=(gJ _ _ k).1::(_++q)
     rw[ih]
     congr 1
     clear ih
     cases k<;>rfl
   refine⟨q++([l.E.td]++l.post),?_⟩
   simp only[uU,e,List.append_assoc]
  ·refine G5 s (2 * k) (nD c l.tr k) (yP _ _ _) _ s0 e0 l (fun s0 e0=>?_)
   rw[show(nD c l.tr k).tok=(gJ (c.fst false) c.dr k).1.tok by rw[t5];cases k<;>rfl]
   have hdp:1 ≤ c.deep:=by cases o<;>decide
   have:=wC (d0:=c.fst false) (ds:=c.dr) (s:=s) k (l.base:Nat) (by omega) (fun s0 e0=>Nz s _ s0 e0 o h) s0 e0
   rw[show 73 + 2 * k=2 * k + 73 by omega]at this
   exact this
noncomputable def aF.rT:aF→List Nat
 | .p=>[34,117,115,101,32,115,116,114,105,99,116,34,41,59]
 | _=>[59]
theorem La (R:List Nat):∀ r:aF,bG (r.rT++R) r.ds R
 | .e=>aJ (w:=[59]) rfl (aT _) rfl
 | .u=>aJ (w:=[59]) rfl (aT _) rfl
 | .a=>aJ (w:=[59]) rfl (aT _) rfl
 | .n=>aJ (w:=[59]) rfl (aT _) rfl
 | .p=>aJ (w:=[34,117,115,101,32,115,116,114,105,99,116,34]) rfl (kQ _) (aJ (w:=[41]) rfl (aM _) (aJ (w:=[59]) rfl (aT _) rfl))
noncomputable def CF (R:List Nat):List aF→List Nat
 | []=>R
 | r::rs=>r.rT++(32::jt rs (40::R))
theorem Dt (R:List Nat):∀ rs:List aF,(jt rs (40::R)).drop (d8 rs).n=CF R rs
 | []=>rfl
 | r::rs=>by cases r<;>rfl
theorem zP (R:List Nat):∀ rs:List aF,(d8 rs).n ≤ (jt rs (40::R)).length
 | []=>by show 1 ≤ _;simp[jt]
 | r::rs=>by cases r<;>simp only[jt,d8,aF.fst,aF.len,aF.txt,List.length_append,List.length_cons]<;>omega
theorem Iq (R:List Nat):∀ rs:List aF,bG (32::jt rs (40::R)) [d6 rs] (CF R rs)
 | []=>aJ (w:=[32,40]) rfl (bL _) rfl
 | .e::rs=>aJ (w:=[32,34,117,115,101,92,120,50,48,115,116,114,105,99,116,34]) (d:=aF.fst .e 1) rfl (xU _) rfl
 | .u::rs=>aJ (w:=[32,34,117,115,101,32,115,116,114,105,99,116,34]) (d:=aF.fst .u 1) rfl (pD _) rfl
 | .a::rs=>aJ (w:=[32,34,97,34]) (d:=aF.fst .a 1) rfl (LU _) rfl
 | .n::rs=>aJ (w:=[32,97]) (d:=aF.fst .n 1) rfl (Bd _) rfl
 | .p::rs=>aJ (w:=[32,40]) (d:=aF.fst .p 1) rfl (bL _) rfl
theorem uG (R:List Nat):∀ rs:List aF,bG (CF R rs) (eG rs) R
 | []=>rfl
 | r::rs=>((La _ r).app (Iq R rs)).app (uG R rs)
theorem C5 (R:List Nat):∀ rs:List aF,oL (jt rs (40::R)) (d8 rs)
 | []=>DT _
 | .e::rs=>JO _
 | .u::rs=>Lf _
 | .a::rs=>Jm _
 | .n::rs=>Az _
 | .p::rs=>DT _
noncomputable def dA (rs:List aF) (l:Ld) (c:Cr) (k:Nat):List Nat:=jt rs (40::mR l c k)
theorem AN {rs:List aF} (hl:rs.length ≤ 3) (l:Ld) (c:Cr) (k:Nat) (h:(l.base:Int) + (k:Nat) + (c.deep:Nat) ≤ 40) (hf:fits (dA rs l c k).length=true)
  (hL:∀ x ∈ cF rs (l.M (bS rs true false) (fQ (c.X (bS rs true false)) k)),t6 x) (n:Nat) :
  run TT 5000 (n + (2 * k + 116)) 1478 [.f (.str (dA rs l c k))] []=.ok (.f (vA (cF rs (l.M (bS rs true false) (fQ (c.X (bS rs true false)) k))) (bS rs true false)),[]) :=
 Fd hl (r0:=dA rs l c k) (r1:=[]) (dsM:=uU l c k) (j:=2 * k) ⟨[],rfl,rfl,hf⟩ (C5 _ rs) (zP _ rs)
  (by rw[show(dA rs l c k).drop (d8 rs).n=CF (mR l c k) rs from Dt _ rs];exact(uG _ rs).app (DI l c k))
  (fun s0 e0=>JE l c k (bS rs true false) h s0 e0) hL n
theorem Hl {rs:List aF} (hl:rs.length ≤ 3) (l:Ld) (c:Cr) (k:Nat) (o:c=.c0∨c.Own) (h:(l.base:Int) + (k:Nat) + (c.deep:Nat)=41) (hk:1 ≤ k) (hf:fits (dA rs l c k).length=true) (n:Nat) :
  run TT 5000 (n + (2 * k + 116)) 1478 [.f (.str (dA rs l c k))] []=.raise:=by
 obtain⟨ds,⟨more,e⟩,hR⟩:=Hh l c k (bS rs true false) o h hk
 have ht:=DI l c k
 rw[e,List.append_assoc]at ht
 obtain⟨r1,h1,_⟩:=ht.cut
 exact Dv hl (r0:=dA rs l c k) (r1:=r1) (dsM:=ds) (j:=2 * k) ⟨[],rfl,rfl,hf⟩ (C5 _ rs) (zP _ rs)
  (by rw[show(dA rs l c k).drop (d8 rs).n=CF (mR l c k) rs from Dt _ rs];exact(uG _ rs).app h1) hR n
end Mine
end
section
namespace Mine
local macro_rules
 | `(tactic| trivial)=>`(tactic| repeat' first
   | exact eR.nil
   | exact iO.nil
   | exact gZ.nil
   | exact Tr.none
   | exact Tr.bool _
   | exact Tr.int _
   | exact Tr.str _
   | apply eR.node
   | (apply eR.leaf;first | exact fT.none | exact fT.bool _ | exact fT.int _ | exact fT.str _)
   | apply eR.lst
   | apply Lo.mk
   | apply iO.cons
   | apply Tr.node
   | apply Tr.lst
   | apply gZ.cons
   | exact Nat.le_of_ble_eq_true rfl)
noncomputable def jC (X:FV):Prop:=(∃ k q,X=nd k q)∧(∃ c,c ≤ 100∧∀ N,Lo X (N + 10) c)∧∃ m,m ≤ 200∧Tr X m
theorem Qe (s:Bool):jC (X0 s):=by
 unfold X0
 refine⟨⟨_,_,rfl⟩,?_,?_⟩
 ·apply Exists.intro
  apply And.intro
  case right=>intro N;trivial
  ·decide
 ·apply Exists.intro
  apply And.intro
  case right=>trivial
  ·decide
theorem Rm (s:Bool):jC (X1 s):=by
 unfold X1
 refine⟨⟨_,_,rfl⟩,?_,?_⟩
 ·apply Exists.intro
  apply And.intro
  case right=>intro N;trivial
  ·decide
 ·apply Exists.intro
  apply And.intro
  case right=>trivial
  ·decide
theorem Qw (s:Bool):jC (X2 s):=by
 unfold X2
 refine⟨⟨_,_,rfl⟩,?_,?_⟩
 ·apply Exists.intro
  apply And.intro
  case right=>intro N;trivial
  ·decide
 ·apply Exists.intro
  apply And.intro
  case right=>trivial
  ·decide
theorem Q8 (s:Bool):jC (X3 s):=by
 unfold X3
 refine⟨⟨_,_,rfl⟩,?_,?_⟩
 ·apply Exists.intro
  apply And.intro
  case right=>intro N;trivial
  ·decide
 ·apply Exists.intro
  apply And.intro
  case right=>trivial
  ·decide
theorem Qt (s:Bool):jC (X4 s):=by
 unfold X4
 refine⟨⟨_,_,rfl⟩,?_,?_⟩
 ·apply Exists.intro
  apply And.intro
  case right=>intro N;trivial
  ·decide
 ·apply Exists.intro
  apply And.intro
  case right=>trivial
  ·decide
theorem RV (s:Bool):jC (X5 s):=by
 unfold X5
 refine⟨⟨_,_,rfl⟩,?_,?_⟩
 ·apply Exists.intro
  apply And.intro
  case right=>intro N;trivial
  ·decide
 ·apply Exists.intro
  apply And.intro
  case right=>trivial
  ·decide
theorem Qo (s:Bool):jC (X6 s):=by
 unfold X6
 refine⟨⟨_,_,rfl⟩,?_,?_⟩
 ·apply Exists.intro
  apply And.intro
  case right=>intro N;trivial
  ·decide
 ·apply Exists.intro
  apply And.intro
  case right=>trivial
  ·decide
theorem Qf (s:Bool):jC (X7 s):=by
 unfold X7
 refine⟨⟨_,_,rfl⟩,?_,?_⟩
 ·apply Exists.intro
  apply And.intro
  case right=>intro N;trivial
  ·decide
 ·apply Exists.intro
  apply And.intro
  case right=>trivial
  ·decide
end Mine
end
section
namespace Mine
local macro_rules
 | `(tactic| trivial)=>`(tactic| repeat' first
   | assumption
   | exact eR.nil
   | exact iO.nil
   | exact gZ.nil
   | exact Tr.none
   | exact Tr.bool _
   | exact Tr.int _
   | exact Tr.str _
   | apply eR.node
   | (apply eR.leaf;first | exact fT.none | exact fT.bool _ | exact fT.int _ | exact fT.str _)
   | apply eR.lst
   | apply Lo.mk
   | apply iO.cons
   | apply Tr.node
   | apply Tr.lst
   | apply gZ.cons
   | exact Nat.le_of_ble_eq_true rfl)
theorem Ch {X:FV} (h:∃ k q,X=nd k q):∀ k,∃ a b,fQ X k=nd a b
 | 0=>h
 | _ + 1=>⟨_,_,rfl⟩
theorem Bu {X:FV}{c:Nat} (hn:∃ k q,X=nd k q) (h:∀ N,Lo X (N + 10) c):∀ k N,Lo (fQ X k) (N + k + 10) (c + k)
 | 0,N=>h N
 | k + 1,N=>by
  have:=Bu hn h k N
  obtain⟨a,b,e⟩:=Ch hn k
  show Lo (tA (fQ X k)) _ _
  rw[e]at this ⊢
  have r:Lo (tA (nd a b)) (N + k + 10 + 1) (c + k + 0 + 1):=Lo.mk (.leaf (.str _) (.node .nil)) (Nat.le_of_ble_eq_true rfl) (Nat.le_of_ble_eq_true rfl) (.cons (c:=c + k) (d:=0) this .nil)
  rw[show N + (k + 1) + 10=N + k + 10 + 1 by omega]
  exact r
theorem DO {X:FV}{m:Nat} (h:Tr X m):∀ k,Tr (fQ X k) (m + 2 * k)
 | 0=>h
 | k + 1=>by
  have r:Tr (tA (fQ X k)) (1 + (m + 2 * k + 0) + 1):=.node (.cons (.str _) (.cons (DO h k) .nil))
  rw[show m + 2 * (k + 1)=1 + (m + 2 * k + 0) + 1 by omega]
  exact r
noncomputable def kL (M:FV):Prop:=(∃ c,c ≤ 300∧Lo M 70 c)∧∃ m,m ≤ 500∧Tr M m
noncomputable def Ct (Y:FV):Prop:=(∃ k q,Y=nd k q)∧(∃ c,c ≤ 200∧∀ N,Lo Y (N + 60) c)∧∃ m,m ≤ 300∧Tr Y m
theorem BG {X:FV} (h:jC X) (k:Nat) (hk:k ≤ 45):Ct (fQ X k):=by
 obtain⟨hn,⟨c,hc,hl⟩,m,hm,ht⟩:=h
 refine⟨Ch hn k,⟨c + k,by omega,fun N=>?_⟩,m + 2 * k,by omega,DO ht k⟩
 have:=Bu hn hl k (N + (50 - k))
 rw[show N + (50 - k) + k + 10=N + 60 by omega]at this
 exact this
theorem En (s:Bool) {Y:FV} (h:Ct Y) (l:Ld):kL (l.M s Y):=by
 obtain⟨⟨k,q,rfl⟩,⟨c,hc,hl⟩,m,hm,ht⟩:=h
 have h6:Lo (nd k q) 66 c:=hl 6
 have h7:Lo (nd k q) 67 c:=hl 7
 have h8:Lo (nd k q) 68 c:=hl 8
 clear hl
 cases l
 all_goals
  refine⟨?_,?_⟩
  ·apply Exists.intro
   apply And.intro
   case right =>
    first | unfold Ld.M M0 | unfold Ld.M M1 | unfold Ld.M M2 | unfold Ld.M M3 | unfold Ld.M M4 | unfold Ld.M M5 | unfold Ld.M M6 | unfold Ld.M M7 | unfold Ld.M M8
    trivial
   ·omega
  ·apply Exists.intro
   apply And.intro
   case right =>
    first | unfold Ld.M M0 | unfold Ld.M M1 | unfold Ld.M M2 | unfold Ld.M M3 | unfold Ld.M M4 | unfold Ld.M M5 | unfold Ld.M M6 | unfold Ld.M M7 | unfold Ld.M M8
    trivial
   ·omega
theorem CW (r:aF):kL r.tree:=by
 cases r
 all_goals
  refine⟨?_,?_⟩
  ·apply Exists.intro
   apply And.intro
   case right =>
    show Lo (nd [69,120,112,114] [nd _ [.str _]]) 70 _
    trivial
   ·decide
  ·apply Exists.intro
   apply And.intro
   case right =>
    show Tr (nd [69,120,112,114] [nd _ [.str _]]) _
    trivial
   ·decide
theorem kL.low {M:FV} (h:kL M):t6 M:=by
 obtain⟨⟨c,hc,hl⟩,_⟩:=h
 exact Hn hl (by omega) (by omega)
theorem Dp {M:FV} (h:kL M):∀ rs:List aF,∃ m,m ≤ 500 + 500 * rs.length∧gZ (cF rs M) m
 | []=>by
  obtain⟨_,m,hm,ht⟩:=h
  exact⟨m + 0,by simp;omega,.cons ht .nil⟩
 | r::rs=>by
  obtain⟨m,hm,ht⟩:=Dp h rs
  obtain⟨_,m',hm',ht'⟩:=CW r
  exact⟨m' + m,by simp only[List.length];omega,.cons ht' ht⟩
theorem JV {M:FV} (h:kL M) {rs:List aF} (hl:rs.length ≤ 3) (s:Bool):∃ m,m ≤ 4000∧Tr (vA (cF rs M) s) m:=by
 obtain⟨m,hm,ht⟩:=Dp h rs
 exact⟨((m + 1) + (1 + 0)) + 1,by omega,.node (.cons (.lst ht) (.cons (.bool s) .nil))⟩
theorem uV {M:FV} (h:kL M) (rs:List aF):∀ x ∈ cF rs M,t6 x:=by
 intro x hx
 rcases List.mem_append.1 hx with hx | hx
 ·obtain⟨r,_,rfl⟩:=List.mem_map.1 hx
  exact(CW r).low
 ·cases hx with
  | head=>exact h.low
  | tail _ h=>cases h
theorem pP (a b:List Nat):∀ k,a8 k (a++b)=a8 k a++b
 | 0=>rfl
 | k + 1=>by show 33::a8 k (a++b)=_;rw[pP a b k];rfl
noncomputable def Ld.sw:Ld→List Nat→List Nat
 | .l0=>LV | .l1=>Ju | .l2=>Jo | .l3=>KY | .l4=>KP | .l5=>Ky | .l6=>LK | .l7=>Jc | .l8=>LT
theorem Na (w:List Nat) (l:Ld):l.sw w=40::(l.preT++(bl l.tr++(w++(l.E.hd::l.rest)))):=by
 cases l<;>simp[Ld.sw,LV,Ju,Jo,KY,KP,Ky,LK,Jc,LT,Ld.preT,Ld.tr,bl,Ld.E,Et.hd,Ld.rest]
theorem MH (l:Ld) (c:Cr) (k:Nat):l.sw (a8 k c.txt)=40::mR l c k:=by
 rw[Na,← pP];rfl
theorem Ou (l:Ld) (s:Bool) (j:Nat) (X:FV) (w:List Nat) (hw:w.length ≤ 2000) (H:∀ b:Int,b ≤ 13→d7 (j + 25) X b w):iI (j + 50) (l.M s X) (l.sw w):=by
 cases l
 ·exact Qp s j X w hw (H _ (by decide))
 ·exact R7 s j X w hw (H _ (by decide))
 ·exact QK s j X w hw (H _ (by decide))
 ·exact QP s j X w hw (H _ (by decide))
 ·exact RQ s j X w hw (H _ (by decide))
 ·exact QU s j X w hw (H _ (by decide))
 ·exact Q9 s j X w hw (H _ (by decide))
 ·exact Rz s j X w hw (H _ (by decide))
 ·exact Qm s j X w hw (H _ (by decide))
inductive e9 where
 | o0 | o1 | o2 | o3 | o4 | o5 | o6 | o7
noncomputable def e9.c:e9→Cr
 | .o0=>.c0 | .o1=>.c1 | .o2=>.c2 | .o3=>.c3 | .o4=>.c4 | .o5=>.c5 | .o6=>.c6 | .o7=>.c7
noncomputable def e9.c2 (s:Bool):e9→Cr
 | .o0=>.c0 | .o1=>(match s with | true=>.c8 | false=>.c1) | .o2=>(match s with | true=>.c10 | false=>.c9) | .o3=>.c3 | .o4=>.c11 | .o5=>.c12 | .o6=>.c6 | .o7=>.c7
theorem LH (o:e9):o.c=.c0∨o.c.Own:=by
 cases o
 ·exact .inl rfl
 all_goals exact .inr (by constructor)
theorem Gr (s:Bool) (o:e9):(o.c2 s).X s=o.c.X s:=by cases o<;>cases s<;>rfl
theorem EM (s:Bool) (o:e9):(o.c2 s).deep ≤ o.c.deep:=by cases o<;>cases s<;>decide
theorem wE (s:Bool) (o:e9):jC (o.c.X s):=by
 cases o
 ·exact Qe s
 ·exact Rm s
 ·exact Qw s
 ·exact Q8 s
 ·exact Qt s
 ·exact RV s
 ·exact Qo s
 ·exact Qf s
theorem LA (s:Bool) (o:e9) (b:Int) (h:b ≤ 13):d7 45 (o.c.X s) b (o.c2 s).txt:=by
 cases o
 ·exact RX s b h
 ·cases s
  ·exact Oh false b h
  ·exact Oh true b h
 ·cases s
  ·exact O5 false b h
  ·exact O5 true b h
 ·exact Qg s b h
 ·exact Q1 s b h
 ·exact RK s b h
 ·exact Qd s b h
 ·exact Qi s b h
theorem rZ (c:Cr):c.txt.length ≤ 100:=by cases c<;>decide
theorem tJ (l:Ld):l.preT.length ≤ 100∧l.rest.length ≤ 100:=by cases l<;>decide
theorem mW (l:Ld) (c:Cr) (k:Nat):(mR l c k).length ≤ 400 + k:=by
 have h1:=rZ c
 have h2:=tJ l
 have h3:(bl l.tr).length ≤ 1:=by cases l<;>decide
 unfold mR
 simp only[List.length_append,fL,List.length_cons]
 omega
theorem Cc (w:List Nat):∀ rs:List aF,(jt rs w).length ≤ 20 * rs.length + w.length
 | []=>by simp[jt]
 | r::rs=>by
  have:=Cc w rs
  have:r.txt.length ≤ 16:=by cases r<;>decide
  simp only[jt,List.length_append,List.length_cons,List.length_nil]
  omega
theorem tV {rs:List aF} (hl:rs.length ≤ 3) (l:Ld) (c:Cr) (k:Nat) (hk:k ≤ 50):fits (dA rs l c k).length=true:=by
 have h1:=Cc (40::mR l c k) rs
 have h2:=mW l c k
 unfold dA
 simp only[List.length_cons]at h1
 exact cM (by omega)
noncomputable def Ld.kd:Ld→List Nat
 | .l0=>[66,105,110,97,114,121] | .l1=>[65,115,115,105,103,110] | .l2=>[67,97,108,108] | .l3=>[73,110,100,101,120] | .l4=>[67,111,109,109,97] | .l5=>[67,111,110,100] | .l6=>[67,97,108,108] | .l7=>[76,111,103,105,99,97,108] | .l8=>[67,111,109,109,97]
theorem JW (s:Bool) (X:FV) (l:Ld):∃ ps,l.M s X=u1 (nd l.kd ps):=by
 cases l<;>exact⟨_,rfl⟩
theorem MR (l:Ld):gE l.kd [83,116,114]=false:=by cases l<;>rfl
theorem Lb:fJ.map (fun rs=>bS (b7 (bS rs true false) true rs) true false)=fJ.map (fun rs=>bS rs true false):=by kernel_rfl
theorem Db (rs:List aF) (h:rs.length ≤ 3):bS (b7 (bS rs true false) true rs) true false=bS rs true false:=List.map_inj_left.mp Lb rs (nM rs h)
theorem DD (s h:Bool) (r:aF):(kX s h r).tree=r.tree:=by cases r<;>cases s<;>cases h<;>rfl
theorem mG (s:Bool) (M:FV):∀ (h:Bool) (rs:List aF),cF (b7 s h rs) M=cF rs M
 | _,[]=>rfl
 | h,r::rs=>by
  show(kX s h r).tree::cF (b7 s (h&&kS r) rs) M=r.tree::cF rs M
  rw[DD,mG s M _ rs]
theorem AV (s:Bool) {rs:List aF} (h:rs.length ≤ 3):(b7 s true rs).length ≤ 3:=by rw[oU];exact h
noncomputable def t0 (rs:List aF):List FV:=rs.map fun r=>.str r.txt
theorem Ax (vs:List FV):fJ.map (fun rs=>dE Pc 10 1519 [.f (.lst (t0 rs))] [.lst vs] [] [] [] [])=fJ.map (fun rs=>some (.ok (.f (.bool (bS rs true false)),[.lst vs]),[],[],[])):=by kernel_rfl
theorem l9 (vs:List FV) (k:Nat) (rs:List aF) (h:rs.length ≤ 3):run TT 5000 (k + 10) 1519 [.f (.lst (t0 rs))] [.lst vs]=.ok (.f (.bool (bS rs true false)),[.lst vs]) :=
 aI (P:=Pc) (n:=10) (List.map_inj_left.mp (Ax vs) rs (nM rs h)) k mn mn mn
theorem Gx (C:bW) (t:List Nat) (vs:List FV):cG TT C 5000 1512 [.f (.str t)] [.lst vs]=cG TT (fun _ _ _=>C 1478 [.f (.str t)] []) 5000 1512 [.f (.str t)] [.lst vs]:=by kernel_rfl
theorem Gs {n:Nat}{t:List Nat}{x:FV} (h:run TT 5000 n 1478 [.f (.str t)] []=.ok (.f x,[])) (vs:List FV):run TT 5000 (n + 1) 1512 [.f (.str t)] [.lst vs]=.ok (.f x,[.lst vs]):=by
 show cG TT (run TT 5000 n) 5000 1512 [.f (.str t)] [.lst vs]=_
 rw[Gx,h]
 kernel_rfl
theorem NK {n:Nat}{t:List Nat} (h:run TT 5000 n 1478 [.f (.str t)] []=.raise) (vs:List FV):run TT 5000 (n + 1) 1512 [.f (.str t)] [.lst vs]=.ok (.f .none,[.lst vs]):=by
 show cG TT (run TT 5000 n) 5000 1512 [.f (.str t)] [.lst vs]=_
 rw[Gx,h]
 kernel_rfl
end Mine
end
section
namespace Mine
theorem cZ {α:Type}{p:α→Prop}:∀ e ∈ ([]:List α),p e:=fun _ h=>nomatch h
theorem Lx (xs:List Int):cut (iL xs) none (some 20)=iL (xs.take 20):=by
 unfold cut
 simp only[Option.elim,List.drop_zero,Nat.sub_zero]
 have:clipAt (iL xs).length 20=min 20 xs.length:=by rw[← kJ xs];exact rQ _ 20
 rw[this]
 unfold iL
 rw[List.map_take]
 rw[List.take_eq_take_iff]
 simp
theorem pV {xs:List Int} (h:xs.length ≤ 63) (st:St):eH false (.f (.lst (iL xs))) none (some 20) st=some (.f (.lst (iL (xs.take 20))),st):=by
 show gd (fits (iL xs).length) (gQ false false (cut (iL xs) none (some 20)) st)=_
 rw[cM (by rw[kJ];omega),Lx]
 show gQ false false (iL (xs.take 20)) st=_
 unfold gQ
 rw[cM (by rw[kJ];simp;omega)];rfl
theorem sC {xs:List Int} (h:xs.length ≤ 63) (st:St):jT TT .list 1428 [.f (.lst (iL xs))] st=some (.f (.lst (iL xs)),st):=by
 have e:jT TT .list 1428 [.f (.lst (iL xs))] st=gQ false false (iL xs) st:=by kernel_rfl
 rw[e]
 unfold gQ
 rw[cM (by rw[kJ];omega)];rfl
theorem DN:∀ xs:List Int,∃ s,xG (iL xs)=some s
 | []=>⟨0,rfl⟩
 | x::xs=>by
  obtain⟨s,e⟩:=DN xs
  refine⟨x + s,?_⟩
  show(xG (iL xs)).bind (fun j=>some (x + j))=_
  rw[e];rfl
theorem MS (xs:List Int):∃ s,∀ st,tX (iL xs) st=some (.f (.int s)):=by
 obtain⟨s,e⟩:=DN xs
 refine⟨s,fun st=>?_⟩
 show(xG (iL xs)).bind (fun i=>some (PV.f (.int i)))=_
 rw[e];rfl
theorem IX (i:Nat) (h:(i:Int) < 9):∃ l:Ld,∀ st,bJ (.f qK) (.f (.int (i:Nat))) st=some (.f (.tup [.str (40::(l.preT++bl l.tr)),.str (l.E.hd::l.rest),.int (l.base:Nat)])):=by
 match i,h with
 | 0,_=>exact⟨.l0,fun st=>by kernel_rfl⟩
 | 1,_=>exact⟨.l1,fun st=>by kernel_rfl⟩
 | 2,_=>exact⟨.l2,fun st=>by kernel_rfl⟩
 | 3,_=>exact⟨.l3,fun st=>by kernel_rfl⟩
 | 4,_=>exact⟨.l4,fun st=>by kernel_rfl⟩
 | 5,_=>exact⟨.l5,fun st=>by kernel_rfl⟩
 | 6,_=>exact⟨.l6,fun st=>by kernel_rfl⟩
 | 7,_=>exact⟨.l7,fun st=>by kernel_rfl⟩
 | 8,_=>exact⟨.l8,fun st=>by kernel_rfl⟩
 | n + 9,h=>omega
theorem Ha (i:Nat) (h:(i:Int) < 8):∃ o:e9,∀ st,bJ (.f qH) (.f (.int (i:Nat))) st=some (.f (.tup [.str o.c.txt,.int (o.c.deep:Nat)])):=by
 match i,h with
 | 0,_=>exact⟨.o0,fun st=>by kernel_rfl⟩
 | 1,_=>exact⟨.o1,fun st=>by kernel_rfl⟩
 | 2,_=>exact⟨.o2,fun st=>by kernel_rfl⟩
 | 3,_=>exact⟨.o3,fun st=>by kernel_rfl⟩
 | 4,_=>exact⟨.o4,fun st=>by kernel_rfl⟩
 | 5,_=>exact⟨.o5,fun st=>by kernel_rfl⟩
 | 6,_=>exact⟨.o6,fun st=>by kernel_rfl⟩
 | 7,_=>exact⟨.o7,fun st=>by kernel_rfl⟩
 | n + 8,h=>omega
theorem yR (i:Nat) (h:(i:Int) < 5):∃ r:aF,∀ st,bJ (.f f0) (.f (.int (i:Nat))) st=some (.f (.str r.txt)):=by
 match i,h with
 | 0,_=>exact⟨.e,fun st=>by kernel_rfl⟩
 | 1,_=>exact⟨.p,fun st=>by kernel_rfl⟩
 | 2,_=>exact⟨.u,fun st=>by kernel_rfl⟩
 | 3,_=>exact⟨.a,fun st=>by kernel_rfl⟩
 | 4,_=>exact⟨.n,fun st=>by kernel_rfl⟩
 | n + 5,h=>omega
theorem JH (i:Nat) (h:(i:Int) < 6) (L:Int) (hL:3 ≤ L):∃ mn:Nat,(mn:Int) ≤ L + 1∧∀ st,bJ (.f (oA L)) (.f (.int (i:Nat))) st=some (.f (.int (Int.ofNat mn))):=by
 have g:∀ (i:Nat) (y:Int),nth [FV.int L,.int (L + 1),.int (L - 1),.int 2,.int 0,.int 1] i=some (.int y)→i < 6→∀ st,bJ (.f (oA L)) (.f (.int (i:Nat))) st=some (.f (.int y)):=by
  intro i y e hi st
  have h1:Nat.blt i [FV.int L,.int (L + 1),.int (L - 1),.int 2,.int 0,.int 1].length=true:=Nat.ble_eq_true_of_le hi
  have h2:fits i=true:=cM (by omega)
  show(gd (Nat.blt i [FV.int L,.int (L + 1),.int (L - 1),.int 2,.int 0,.int 1].length) (gd (fits i) (some i))).bind (fun j=>(nth [FV.int L,.int (L + 1),.int (L - 1),.int 2,.int 0,.int 1] j).bind fun y=>some (PV.f y))=_
  rw[h1,h2]
  show(nth [FV.int L,.int (L + 1),.int (L - 1),.int 2,.int 0,.int 1] i).bind _=_
  rw[e];rfl
 have c:∀ y:Int,0 ≤ y→Int.ofNat y.toNat=y:=fun y h=>Int.toNat_of_nonneg h
 match i,h with
 | 0,_=>exact⟨L.toNat,by omega,by rw[c L (by omega)];exact g 0 _ rfl (by omega)⟩
 | 1,_=>exact⟨(L + 1).toNat,by omega,by rw[c (L + 1) (by omega)];exact g 1 _ rfl (by omega)⟩
 | 2,_=>exact⟨(L - 1).toNat,by omega,by rw[c (L - 1) (by omega)];exact g 2 _ rfl (by omega)⟩
 | 3,_=>exact⟨2,by omega,g 3 _ rfl (by omega)⟩
 | 4,_=>exact⟨0,by omega,g 4 _ rfl (by omega)⟩
 | 5,_=>exact⟨1,by omega,g 5 _ rfl (by omega)⟩
 | n + 6,h=>omega
theorem pU (n:Nat) (h:n ≤ 1000):∀ st,yN (Int.ofNat n) st=some (.f (.str (a8 n []))):=by
 intro st
 show(gd (Nat.blt n 1000000) (some (FV.str ((List.replicate n [33]).flatten)))).bind (fun z=>some (PV.f z))=_
 have h1:Nat.blt n 1000000=true:=Nat.ble_eq_true_of_le (by omega)
 rw[h1]
 have e:∀ n,(List.replicate n [33]).flatten=a8 n []:=by
  intro n;induction n with
  | zero=>rfl
  | succ n ih=>rw[List.replicate_succ,List.flatten_cons,ih];rfl
 rw[e];rfl
theorem pK (l:Ld) (c:Cr) (k:Nat):(((40::(l.preT++bl l.tr))++a8 k [])++c.txt)++(l.E.hd::l.rest)=40::mR l c k:=by
 have:=pP [] (c.txt++(l.E.hd::l.rest)) k
 unfold mR
 rw[List.nil_append]at this
 rw[this]
 simp only[List.cons_append,List.append_assoc]
theorem yA (b:Bool):(bl b).length ≤ 1:=by cases b<;>decide
theorem B1 (l:Ld) (k:Nat) (h:k ≤ 100):fits ((40::(l.preT++bl l.tr)).length + (a8 k []).length)=true:=by
 have h1:=tJ l;have h2:=yA l.tr
 refine cM ?_
 simp only[List.length_append,List.length_cons,fL,List.length_nil];omega
theorem Bq (l:Ld) (c:Cr) (k:Nat) (h:k ≤ 100):fits (((40::(l.preT++bl l.tr))++a8 k []).length + c.txt.length)=true:=by
 have h1:=tJ l;have h2:=yA l.tr;have h3:=rZ c
 refine cM ?_
 simp only[List.length_append,List.length_cons,fL,List.length_nil];omega
theorem BU (l:Ld) (c:Cr) (k:Nat) (h:k ≤ 100):fits ((((40::(l.preT++bl l.tr))++a8 k [])++c.txt).length + (l.E.hd::l.rest).length)=true:=by
 have h1:=tJ l;have h2:=yA l.tr;have h3:=rZ c
 refine cM ?_
 simp only[List.length_append,List.length_cons,fL,List.length_nil];omega
theorem qT (l:Ld) (o:e9):l.base ≤ 3∧2 ≤ l.base∧o.c.deep ≤ 5:=by
 refine⟨?_,?_,?_⟩
 ·cases l<;>decide
 ·cases l<;>decide
 ·cases o<;>decide
theorem jP {a b:Int}{v:Bool} (h:decide (b < a)=v):r9 a b=some v:=by
 show(some (decide (b < a)))=_
 rw[h]
theorem sI (s:Bool):DQ s=some false:=by cases s<;>rfl
theorem tK (s:Bool):Ca s=some true:=by cases s<;>rfl
section
variable {rs:List aF} (hl:rs.length ≤ 3) (l:Ld) (o:e9) (mn:Nat) (h:(l.base:Int) + (mn:Nat) + (o.c.deep:Nat) ≤ 40) (vs:List FV) (k:Nat)
include hl h
theorem vZ:run TT 5000 (k + 219) 1512 [.f (.str (dA rs l o.c mn))] [.lst vs]=.ok (.f (vA (cF rs (l.M (bS rs true false) (fQ (o.c.X (bS rs true false)) mn))) (bS rs true false)),[.lst vs]):=by
 have hb:=qT l o
 have hM:=En (bS rs true false) (BG (wE (bS rs true false) o) mn (by omega)) l
 have:=AN hl l o.c mn h (tV hl l o.c mn (by omega)) (uV hM rs) (k + 218 - (2 * mn + 116))
 rw[show k + 218 - (2 * mn + 116) + (2 * mn + 116)=k + 218 by omega]at this
 exact Gs this vs
theorem vV:run TT 5000 (k + 219) 1512 [.f (.str (dA (b7 (bS rs true false) true rs) l (o.c2 (bS rs true false)) mn))] [.lst vs]=.ok (.f (vA (cF rs (l.M (bS rs true false) (fQ (o.c.X (bS rs true false)) mn))) (bS rs true false)),[.lst vs]):=by
 have hb:=qT l o
 have hd:=EM (bS rs true false) o
 have hl2:=AV (bS rs true false) hl
 have hM:=En (bS rs true false) (BG (wE (bS rs true false) o) mn (by omega)) l
 have:=AN hl2 l (o.c2 (bS rs true false)) mn (by omega) (tV hl2 l _ mn (by omega)) (by
  rw[Db rs hl,Gr,mG];exact uV hM rs) (k + 218 - (2 * mn + 116))
 rw[show k + 218 - (2 * mn + 116) + (2 * mn + 116)=k + 218 by omega,Db rs hl,Gr,mG]at this
 exact Gs this vs
theorem lQ:run TT 5000 (k + 219) 527 [.f (vA (cF rs (l.M (bS rs true false) (fQ (o.c.X (bS rs true false)) mn))) (bS rs true false))] [.lst vs]=.ok (.f (.str (dA (b7 (bS rs true false) true rs) l (o.c2 (bS rs true false)) mn)),[.lst vs]):=by
 have hb:=qT l o
 generalize hs:bS rs true false=s
 have hc:=rZ (o.c2 s)
 have h1:∀ b:Int,b ≤ 13→d7 (20 + 3 * mn + 25) (fQ (o.c.X s) mn) b (a8 mn (o.c2 s).txt):=fun b hb'=>by
  have:=yF (by omega) (LA s o) mn (by omega) b hb'
  rw[show 45 + 3 * mn=20 + 3 * mn + 25 by omega]at this
  exact this
 have h2:=Ou l s (20 + 3 * mn) _ _ (by rw[fL];omega) h1
 rw[MH]at h2
 obtain⟨ps,e⟩:=JW s (fQ (o.c.X s) mn) l
 rw[e]at h2 ⊢
 have hw:(40::mR l (o.c2 s) mn).length ≤ 2000:=by have:=mW l (o.c2 s) mn;simp only[List.length_cons];omega
 have:=Hs hl s (MR l) hw h2 vs (k + 219 - (20 + 3 * mn + 52))
 rw[show k + 219 - (20 + 3 * mn + 52) + (20 + 3 * mn + 52)=k + 219 by omega]at this
 exact this
theorem vW:run TT 5000 (k + 219) 61 [.f (vA (cF rs (l.M (bS rs true false) (fQ (o.c.X (bS rs true false)) mn))) (bS rs true false)),.f (vA (cF rs (l.M (bS rs true false) (fQ (o.c.X (bS rs true false)) mn))) (bS rs true false))] [.lst vs]=.ok (.f (.bool true),[.lst vs]):=by
 have hb:=qT l o
 have hM:=En (bS rs true false) (BG (wE (bS rs true false) o) mn (by omega)) l
 obtain⟨m,hm,ht⟩:=JV hM hl (bS rs true false)
 rw[show k + 219=(k + 212) + 7 by omega]
 exact Ho ht hm vs (k + 212)
end
theorem vQ {rs:List aF} (hl:rs.length ≤ 3) (l:Ld) (o:e9) (mn:Nat) (h:(l.base:Int) + (mn:Nat) + (o.c.deep:Nat)=41) (vs:List FV) (k:Nat):run TT 5000 (k + 219) 1512 [.f (.str (dA rs l o.c mn))] [.lst vs]=.ok (.f .none,[.lst vs]):=by
 have hb:=qT l o
 have:=Hl hl l o.c mn (LH o) h (by omega) (tV hl l o.c mn (by omega)) (k + 218 - (2 * mn + 116))
 rw[show k + 218 - (2 * mn + 116) + (2 * mn + 116)=k + 218 by omega]at this
 exact NK this vs
structure Dc (xs zs:List Int) (sm:Int) (i1 i2 i3:Nat) (l:Ld) (o:e9) (mn:Nat):Prop where
 hzs:zs=xs.take 20
 hx:xs.length ≤ 63
 hsm:∀ st,tX (iL zs) st=some (.f (.int sm))
 p1:∀ n,run TT 5000 (n + 10) 1505 [.ref 0,.f (.int 9)] [.lst (aA zs 0 (Int.fmod sm 997))]=.ok (.f (.int i1),[.lst (aA zs (0 + 1) (Int.fmod sm 997))])
 p2:∀ n,run TT 5000 (n + 10) 1505 [.ref 0,.f (.int 8)] [.lst (aA zs 1 (Int.fmod sm 997))]=.ok (.f (.int i2),[.lst (aA zs (1 + 1) (Int.fmod sm 997))])
 p3:∀ n,run TT 5000 (n + 10) 1505 [.ref 0,.f (.int 6)] [.lst (aA zs 2 (Int.fmod sm 997))]=.ok (.f (.int i3),[.lst (aA zs (2 + 1) (Int.fmod sm 997))])
 hi1:∀ st,bJ (.f qK) (.f (.int (i1:Nat))) st=some (.f (.tup [.str (40::(l.preT++bl l.tr)),.str (l.E.hd::l.rest),.int (l.base:Nat)]))
 hi2:∀ st,bJ (.f qH) (.f (.int (i2:Nat))) st=some (.f (.tup [.str o.c.txt,.int (o.c.deep:Nat)]))
 hi3:∀ st,bJ (.f (oA (40 - (l.base:Nat) - (o.c.deep:Nat)))) (.f (.int (i3:Nat))) st=some (.f (.int (Int.ofNat mn)))
 hmn:(mn:Int) ≤ 40 - (l.base:Nat) - (o.c.deep:Nat) + 1
theorem Kr {xs zs:List Int}{sm:Int}{i1 i2 i3:Nat}{l:Ld}{o:e9}{mn:Nat} (h:Dc xs zs sm i1 i2 i3 l o mn) (p4:∀ n,run TT 5000 (n + 10) 1505 [.ref 0,.f (.int 4)] [.lst (aA zs 3 (Int.fmod sm 997))]=.ok (.f (.int 0),[.lst (aA zs (3 + 1) (Int.fmod sm 997))])) (k:Nat):run TT 5000 (k + 220) 1524 [.f (.lst (iL xs))] []=.ok (.f (.bool true),[]):=by
 obtain⟨hzs,hx,hsm,p1,p2,p3,hi1,hi2,hi3,hmn⟩:=h
 have hb:=qT l o
 have h1:∀ st,eH false (.f (.lst (iL xs))) none (some 20) st=some (.f (.lst (iL zs)),st):=fun st=>by rw[hzs];exact pV hx st
 have h2:∀ st,jT TT .list 1428 [.f (.lst (iL zs))] st=some (.f (.lst (iL zs)),st):=fun st=>sC (by rw[hzs];simp;omega) st
 have hj:oQ [32] [.str ((((40::(l.preT++bl l.tr))++a8 mn [])++o.c.txt)++(l.E.hd::l.rest))]=some (.f (.str ((((40::(l.preT++bl l.tr))++a8 mn [])++o.c.txt)++(l.E.hd::l.rest)))):=by
  rw[pK]
  obtain⟨n,e1,e2⟩:=eU (40::mR l o.c mn) ([]:List aF)
  have e3:=mW l o.c mn
  refine fM (w:=[]) e1 (f8 (40::mR l o.c mn) ([]:List aF)) (by decide) ?_
  simp only[List.length_cons,List.length_nil]at e2 e3 ⊢
  omega
 have hT:((((40::(l.preT++bl l.tr))++a8 mn [])++o.c.txt)++(l.E.hd::l.rest))=(dA ([]:List aF) l o.c mn):=by rw[pK];rfl
 have hD:∀ x ∈ Jj 219 xs zs sm i1 i2 i3 (l.base:Nat) (o.c.deep:Nat) mn (40::(l.preT++bl l.tr)) (l.E.hd::l.rest) o.c.txt (a8 mn []),P0.Holds k x:=mc (h1 _) (mc (h2 _) (mc (h1 _) (mc hsm (mc (p1 _) (mc hi1 (mc (p2 _) (mc hi2 (mc (p3 _) (mc hi3 (mc (p4 _) (mc (pU mn (by omega)) (mc (B1 l mn (by omega)) (mc (Bq l o.c mn (by omega)) (mc (BU l o.c mn (by omega)) (mc hj (cZ))))))))))))))))
 have hl:([]:List aF).length ≤ 3:=Nat.le_of_ble_eq_true rfl
 by_cases hm:(mn:Int) ≤ 40 - (l.base:Nat) - (o.c.deep:Nat)
 ·have hh:(l.base:Int) + (mn:Nat) + (o.c.deep:Nat) ≤ 40:=by omega
  have H:=R8 219 xs zs sm i1 i2 i3 (l.base:Nat) (o.c.deep:Nat) mn (40::(l.preT++bl l.tr)) (l.E.hd::l.rest) o.c.txt (a8 mn []) (cF ([]:List aF) (l.M (bS ([]:List aF) true false) (fQ (o.c.X (bS ([]:List aF) true false)) mn))) (bS ([]:List aF) true false) (dA (b7 (bS ([]:List aF) true false) true ([]:List aF)) l (o.c2 (bS ([]:List aF) true false)) mn)
  rw[hT]at H hj
  exact aI H k cZ cZ (eB hD (mc (vZ hl l o mn hh _ k) (mc (jP (decide_eq_false (by show ¬ (_ < Int.ofNat mn);simp only[Int.ofNat_eq_natCast];omega))) (mc (by show run TT 5000 (k + 219) 1519 [.f (.lst (t0 ([]:List aF)))] _=_;rw[show k + 219=(k + 209) + 10 by omega];exact l9 _ (k + 209) ([]:List aF) hl) (mc (sI _) (mc (lQ hl l o mn hh _ k) (mc (vV hl l o mn hh _ k) (mc (vW hl l o mn hh _ k) (mc (tK _) (mc (lQ hl l o mn hh _ k) (mc (nA (.str _)) cZ)))))))))))
 ·have hh:(l.base:Int) + (mn:Nat) + (o.c.deep:Nat)=41:=by omega
  have H:=Re 219 xs zs sm i1 i2 i3 (l.base:Nat) (o.c.deep:Nat) mn (40::(l.preT++bl l.tr)) (l.E.hd::l.rest) o.c.txt (a8 mn [])
  rw[hT]at H hj
  exact aI H k cZ cZ (eB hD (mc (vQ hl l o mn hh _ k) (mc (jP (decide_eq_true (by show _ < Int.ofNat mn;simp only[Int.ofNat_eq_natCast];omega))) cZ)))
theorem Kb {xs zs:List Int}{sm:Int}{i1 i2 i3:Nat}{l:Ld}{o:e9}{mn:Nat} (h:Dc xs zs sm i1 i2 i3 l o mn) (p4:∀ n,run TT 5000 (n + 10) 1505 [.ref 0,.f (.int 4)] [.lst (aA zs 3 (Int.fmod sm 997))]=.ok (.f (.int 1),[.lst (aA zs (3 + 1) (Int.fmod sm 997))])) (q0:Nat) (hq0:∀ n,run TT 5000 (n + 10) 1505 [.ref 0,.f (.int 5)] [.lst (aA zs 4 (Int.fmod sm 997))]=.ok (.f (.int q0),[.lst (aA zs (4 + 1) (Int.fmod sm 997))])) (r0:aF) (hr0:∀ st,bJ (.f f0) (.f (.int (q0:Nat))) st=some (.f (.str (r0).txt))) (k:Nat):run TT 5000 (k + 220) 1524 [.f (.lst (iL xs))] []=.ok (.f (.bool true),[]):=by
 obtain⟨hzs,hx,hsm,p1,p2,p3,hi1,hi2,hi3,hmn⟩:=h
 have hb:=qT l o
 have h1:∀ st,eH false (.f (.lst (iL xs))) none (some 20) st=some (.f (.lst (iL zs)),st):=fun st=>by rw[hzs];exact pV hx st
 have h2:∀ st,jT TT .list 1428 [.f (.lst (iL zs))] st=some (.f (.lst (iL zs)),st):=fun st=>sC (by rw[hzs];simp;omega) st
 have hj:oQ [32] [.str (r0).txt,.str ((((40::(l.preT++bl l.tr))++a8 mn [])++o.c.txt)++(l.E.hd::l.rest))]=some (.f (.str (((r0).txt++[32])++((((40::(l.preT++bl l.tr))++a8 mn [])++o.c.txt)++(l.E.hd::l.rest))))):=by
  rw[pK]
  obtain⟨n,e1,e2⟩:=eU (40::mR l o.c mn) ([r0]:List aF)
  have e3:=mW l o.c mn
  refine fM (w:=[]) e1 (f8 (40::mR l o.c mn) ([r0]:List aF)) (by decide) ?_
  simp only[List.length_cons,List.length_nil]at e2 e3 ⊢
  omega
 have hT:(((r0).txt++[32])++((((40::(l.preT++bl l.tr))++a8 mn [])++o.c.txt)++(l.E.hd::l.rest)))=(dA ([r0]:List aF) l o.c mn):=by rw[pK];rfl
 have hD:∀ x ∈ KJ 219 xs zs sm i1 i2 i3 (l.base:Nat) (o.c.deep:Nat) mn (40::(l.preT++bl l.tr)) (l.E.hd::l.rest) o.c.txt (a8 mn []) q0 (r0).txt,P0.Holds k x:=mc (h1 _) (mc (h2 _) (mc (h1 _) (mc hsm (mc (p1 _) (mc hi1 (mc (p2 _) (mc hi2 (mc (p3 _) (mc hi3 (mc (p4 _) (mc (hq0 _) (mc hr0 (mc (pU mn (by omega)) (mc (B1 l mn (by omega)) (mc (Bq l o.c mn (by omega)) (mc (BU l o.c mn (by omega)) (mc hj (cZ))))))))))))))))))
 have hl:([r0]:List aF).length ≤ 3:=Nat.le_of_ble_eq_true rfl
 by_cases hm:(mn:Int) ≤ 40 - (l.base:Nat) - (o.c.deep:Nat)
 ·have hh:(l.base:Int) + (mn:Nat) + (o.c.deep:Nat) ≤ 40:=by omega
  have H:=Ql 219 xs zs sm i1 i2 i3 (l.base:Nat) (o.c.deep:Nat) mn (40::(l.preT++bl l.tr)) (l.E.hd::l.rest) o.c.txt (a8 mn []) q0 (r0).txt (cF ([r0]:List aF) (l.M (bS ([r0]:List aF) true false) (fQ (o.c.X (bS ([r0]:List aF) true false)) mn))) (bS ([r0]:List aF) true false) (dA (b7 (bS ([r0]:List aF) true false) true ([r0]:List aF)) l (o.c2 (bS ([r0]:List aF) true false)) mn)
  rw[hT]at H hj
  exact aI H k cZ cZ (eB hD (mc (vZ hl l o mn hh _ k) (mc (jP (decide_eq_false (by show ¬ (_ < Int.ofNat mn);simp only[Int.ofNat_eq_natCast];omega))) (mc (by show run TT 5000 (k + 219) 1519 [.f (.lst (t0 ([r0]:List aF)))] _=_;rw[show k + 219=(k + 209) + 10 by omega];exact l9 _ (k + 209) ([r0]:List aF) hl) (mc (sI _) (mc (lQ hl l o mn hh _ k) (mc (vV hl l o mn hh _ k) (mc (vW hl l o mn hh _ k) (mc (tK _) (mc (lQ hl l o mn hh _ k) (mc (nA (.str _)) cZ)))))))))))
 ·have hh:(l.base:Int) + (mn:Nat) + (o.c.deep:Nat)=41:=by omega
  have H:=R6 219 xs zs sm i1 i2 i3 (l.base:Nat) (o.c.deep:Nat) mn (40::(l.preT++bl l.tr)) (l.E.hd::l.rest) o.c.txt (a8 mn []) q0 (r0).txt
  rw[hT]at H hj
  exact aI H k cZ cZ (eB hD (mc (vQ hl l o mn hh _ k) (mc (jP (decide_eq_true (by show _ < Int.ofNat mn;simp only[Int.ofNat_eq_natCast];omega))) cZ)))
theorem Kj {xs zs:List Int}{sm:Int}{i1 i2 i3:Nat}{l:Ld}{o:e9}{mn:Nat} (h:Dc xs zs sm i1 i2 i3 l o mn) (p4:∀ n,run TT 5000 (n + 10) 1505 [.ref 0,.f (.int 4)] [.lst (aA zs 3 (Int.fmod sm 997))]=.ok (.f (.int 2),[.lst (aA zs (3 + 1) (Int.fmod sm 997))])) (q0:Nat) (hq0:∀ n,run TT 5000 (n + 10) 1505 [.ref 0,.f (.int 5)] [.lst (aA zs 4 (Int.fmod sm 997))]=.ok (.f (.int q0),[.lst (aA zs (4 + 1) (Int.fmod sm 997))])) (r0:aF) (hr0:∀ st,bJ (.f f0) (.f (.int (q0:Nat))) st=some (.f (.str (r0).txt))) (q1:Nat) (hq1:∀ n,run TT 5000 (n + 10) 1505 [.ref 0,.f (.int 5)] [.lst (aA zs 5 (Int.fmod sm 997))]=.ok (.f (.int q1),[.lst (aA zs (5 + 1) (Int.fmod sm 997))])) (r1:aF) (hr1:∀ st,bJ (.f f0) (.f (.int (q1:Nat))) st=some (.f (.str (r1).txt))) (k:Nat):run TT 5000 (k + 220) 1524 [.f (.lst (iL xs))] []=.ok (.f (.bool true),[]):=by
 obtain⟨hzs,hx,hsm,p1,p2,p3,hi1,hi2,hi3,hmn⟩:=h
 have hb:=qT l o
 have h1:∀ st,eH false (.f (.lst (iL xs))) none (some 20) st=some (.f (.lst (iL zs)),st):=fun st=>by rw[hzs];exact pV hx st
 have h2:∀ st,jT TT .list 1428 [.f (.lst (iL zs))] st=some (.f (.lst (iL zs)),st):=fun st=>sC (by rw[hzs];simp;omega) st
 have hj:oQ [32] [.str (r0).txt,.str (r1).txt,.str ((((40::(l.preT++bl l.tr))++a8 mn [])++o.c.txt)++(l.E.hd::l.rest))]=some (.f (.str (((r0).txt++[32])++(((r1).txt++[32])++((((40::(l.preT++bl l.tr))++a8 mn [])++o.c.txt)++(l.E.hd::l.rest)))))):=by
  rw[pK]
  obtain⟨n,e1,e2⟩:=eU (40::mR l o.c mn) ([r0,r1]:List aF)
  have e3:=mW l o.c mn
  refine fM (w:=[]) e1 (f8 (40::mR l o.c mn) ([r0,r1]:List aF)) (by decide) ?_
  simp only[List.length_cons,List.length_nil]at e2 e3 ⊢
  omega
 have hT:(((r0).txt++[32])++(((r1).txt++[32])++((((40::(l.preT++bl l.tr))++a8 mn [])++o.c.txt)++(l.E.hd::l.rest))))=(dA ([r0,r1]:List aF) l o.c mn):=by rw[pK];rfl
 have hD:∀ x ∈ Lp 219 xs zs sm i1 i2 i3 (l.base:Nat) (o.c.deep:Nat) mn (40::(l.preT++bl l.tr)) (l.E.hd::l.rest) o.c.txt (a8 mn []) q0 (r0).txt q1 (r1).txt,P0.Holds k x:=mc (h1 _) (mc (h2 _) (mc (h1 _) (mc hsm (mc (p1 _) (mc hi1 (mc (p2 _) (mc hi2 (mc (p3 _) (mc hi3 (mc (p4 _) (mc (hq0 _) (mc hr0 (mc (hq1 _) (mc hr1 (mc (pU mn (by omega)) (mc (B1 l mn (by omega)) (mc (Bq l o.c mn (by omega)) (mc (BU l o.c mn (by omega)) (mc hj (cZ))))))))))))))))))))
 have hl:([r0,r1]:List aF).length ≤ 3:=Nat.le_of_ble_eq_true rfl
 by_cases hm:(mn:Int) ≤ 40 - (l.base:Nat) - (o.c.deep:Nat)
 ·have hh:(l.base:Int) + (mn:Nat) + (o.c.deep:Nat) ≤ 40:=by omega
  have H:=RR 219 xs zs sm i1 i2 i3 (l.base:Nat) (o.c.deep:Nat) mn (40::(l.preT++bl l.tr)) (l.E.hd::l.rest) o.c.txt (a8 mn []) q0 (r0).txt q1 (r1).txt (cF ([r0,r1]:List aF) (l.M (bS ([r0,r1]:List aF) true false) (fQ (o.c.X (bS ([r0,r1]:List aF) true false)) mn))) (bS ([r0,r1]:List aF) true false) (dA (b7 (bS ([r0,r1]:List aF) true false) true ([r0,r1]:List aF)) l (o.c2 (bS ([r0,r1]:List aF) true false)) mn)
  rw[hT]at H hj
  exact aI H k cZ cZ (eB hD (mc (vZ hl l o mn hh _ k) (mc (jP (decide_eq_false (by show ¬ (_ < Int.ofNat mn);simp only[Int.ofNat_eq_natCast];omega))) (mc (by show run TT 5000 (k + 219) 1519 [.f (.lst (t0 ([r0,r1]:List aF)))] _=_;rw[show k + 219=(k + 209) + 10 by omega];exact l9 _ (k + 209) ([r0,r1]:List aF) hl) (mc (sI _) (mc (lQ hl l o mn hh _ k) (mc (vV hl l o mn hh _ k) (mc (vW hl l o mn hh _ k) (mc (tK _) (mc (lQ hl l o mn hh _ k) (mc (nA (.str _)) cZ)))))))))))
 ·have hh:(l.base:Int) + (mn:Nat) + (o.c.deep:Nat)=41:=by omega
  have H:=Qz 219 xs zs sm i1 i2 i3 (l.base:Nat) (o.c.deep:Nat) mn (40::(l.preT++bl l.tr)) (l.E.hd::l.rest) o.c.txt (a8 mn []) q0 (r0).txt q1 (r1).txt
  rw[hT]at H hj
  exact aI H k cZ cZ (eB hD (mc (vQ hl l o mn hh _ k) (mc (jP (decide_eq_true (by show _ < Int.ofNat mn;simp only[Int.ofNat_eq_natCast];omega))) cZ)))
theorem Lr {xs zs:List Int}{sm:Int}{i1 i2 i3:Nat}{l:Ld}{o:e9}{mn:Nat} (h:Dc xs zs sm i1 i2 i3 l o mn) (p4:∀ n,run TT 5000 (n + 10) 1505 [.ref 0,.f (.int 4)] [.lst (aA zs 3 (Int.fmod sm 997))]=.ok (.f (.int 3),[.lst (aA zs (3 + 1) (Int.fmod sm 997))])) (q0:Nat) (hq0:∀ n,run TT 5000 (n + 10) 1505 [.ref 0,.f (.int 5)] [.lst (aA zs 4 (Int.fmod sm 997))]=.ok (.f (.int q0),[.lst (aA zs (4 + 1) (Int.fmod sm 997))])) (r0:aF) (hr0:∀ st,bJ (.f f0) (.f (.int (q0:Nat))) st=some (.f (.str (r0).txt))) (q1:Nat) (hq1:∀ n,run TT 5000 (n + 10) 1505 [.ref 0,.f (.int 5)] [.lst (aA zs 5 (Int.fmod sm 997))]=.ok (.f (.int q1),[.lst (aA zs (5 + 1) (Int.fmod sm 997))])) (r1:aF) (hr1:∀ st,bJ (.f f0) (.f (.int (q1:Nat))) st=some (.f (.str (r1).txt))) (q2:Nat) (hq2:∀ n,run TT 5000 (n + 10) 1505 [.ref 0,.f (.int 5)] [.lst (aA zs 6 (Int.fmod sm 997))]=.ok (.f (.int q2),[.lst (aA zs (6 + 1) (Int.fmod sm 997))])) (r2:aF) (hr2:∀ st,bJ (.f f0) (.f (.int (q2:Nat))) st=some (.f (.str (r2).txt))) (k:Nat):run TT 5000 (k + 220) 1524 [.f (.lst (iL xs))] []=.ok (.f (.bool true),[]):=by
 obtain⟨hzs,hx,hsm,p1,p2,p3,hi1,hi2,hi3,hmn⟩:=h
 have hb:=qT l o
 have h1:∀ st,eH false (.f (.lst (iL xs))) none (some 20) st=some (.f (.lst (iL zs)),st):=fun st=>by rw[hzs];exact pV hx st
 have h2:∀ st,jT TT .list 1428 [.f (.lst (iL zs))] st=some (.f (.lst (iL zs)),st):=fun st=>sC (by rw[hzs];simp;omega) st
 have hj:oQ [32] [.str (r0).txt,.str (r1).txt,.str (r2).txt,.str ((((40::(l.preT++bl l.tr))++a8 mn [])++o.c.txt)++(l.E.hd::l.rest))]=some (.f (.str (((r0).txt++[32])++(((r1).txt++[32])++(((r2).txt++[32])++((((40::(l.preT++bl l.tr))++a8 mn [])++o.c.txt)++(l.E.hd::l.rest))))))):=by
  rw[pK]
  obtain⟨n,e1,e2⟩:=eU (40::mR l o.c mn) ([r0,r1,r2]:List aF)
  have e3:=mW l o.c mn
  refine fM (w:=[]) e1 (f8 (40::mR l o.c mn) ([r0,r1,r2]:List aF)) (by decide) ?_
  simp only[List.length_cons,List.length_nil]at e2 e3 ⊢
  omega
 have hT:(((r0).txt++[32])++(((r1).txt++[32])++(((r2).txt++[32])++((((40::(l.preT++bl l.tr))++a8 mn [])++o.c.txt)++(l.E.hd::l.rest)))))=(dA ([r0,r1,r2]:List aF) l o.c mn):=by rw[pK];rfl
 have hD:∀ x ∈ KW 219 xs zs sm i1 i2 i3 (l.base:Nat) (o.c.deep:Nat) mn (40::(l.preT++bl l.tr)) (l.E.hd::l.rest) o.c.txt (a8 mn []) q0 (r0).txt q1 (r1).txt q2 (r2).txt,P0.Holds k x:=mc (h1 _) (mc (h2 _) (mc (h1 _) (mc hsm (mc (p1 _) (mc hi1 (mc (p2 _) (mc hi2 (mc (p3 _) (mc hi3 (mc (p4 _) (mc (hq0 _) (mc hr0 (mc (hq1 _) (mc hr1 (mc (hq2 _) (mc hr2 (mc (pU mn (by omega)) (mc (B1 l mn (by omega)) (mc (Bq l o.c mn (by omega)) (mc (BU l o.c mn (by omega)) (mc hj (cZ))))))))))))))))))))))
 have hl:([r0,r1,r2]:List aF).length ≤ 3:=Nat.le_of_ble_eq_true rfl
 by_cases hm:(mn:Int) ≤ 40 - (l.base:Nat) - (o.c.deep:Nat)
 ·have hh:(l.base:Int) + (mn:Nat) + (o.c.deep:Nat) ≤ 40:=by omega
  have H:=Qs 219 xs zs sm i1 i2 i3 (l.base:Nat) (o.c.deep:Nat) mn (40::(l.preT++bl l.tr)) (l.E.hd::l.rest) o.c.txt (a8 mn []) q0 (r0).txt q1 (r1).txt q2 (r2).txt (cF ([r0,r1,r2]:List aF) (l.M (bS ([r0,r1,r2]:List aF) true false) (fQ (o.c.X (bS ([r0,r1,r2]:List aF) true false)) mn))) (bS ([r0,r1,r2]:List aF) true false) (dA (b7 (bS ([r0,r1,r2]:List aF) true false) true ([r0,r1,r2]:List aF)) l (o.c2 (bS ([r0,r1,r2]:List aF) true false)) mn)
  rw[hT]at H hj
  exact aI H k cZ cZ (eB hD (mc (vZ hl l o mn hh _ k) (mc (jP (decide_eq_false (by show ¬ (_ < Int.ofNat mn);simp only[Int.ofNat_eq_natCast];omega))) (mc (by show run TT 5000 (k + 219) 1519 [.f (.lst (t0 ([r0,r1,r2]:List aF)))] _=_;rw[show k + 219=(k + 209) + 10 by omega];exact l9 _ (k + 209) ([r0,r1,r2]:List aF) hl) (mc (sI _) (mc (lQ hl l o mn hh _ k) (mc (vV hl l o mn hh _ k) (mc (vW hl l o mn hh _ k) (mc (tK _) (mc (lQ hl l o mn hh _ k) (mc (nA (.str _)) cZ)))))))))))
 ·have hh:(l.base:Int) + (mn:Nat) + (o.c.deep:Nat)=41:=by omega
  have H:=RA 219 xs zs sm i1 i2 i3 (l.base:Nat) (o.c.deep:Nat) mn (40::(l.preT++bl l.tr)) (l.E.hd::l.rest) o.c.txt (a8 mn []) q0 (r0).txt q1 (r1).txt q2 (r2).txt
  rw[hT]at H hj
  exact aI H k cZ cZ (eB hD (mc (vQ hl l o mn hh _ k) (mc (jP (decide_eq_true (by show _ < Int.ofNat mn;simp only[Int.ofNat_eq_natCast];omega))) cZ)))
theorem C7 (xs:List Int) (hx:xs.length ≤ 63) (k:Nat):run TT 5000 (k + 220) 1524 [.f (.lst (iL xs))] []=.ok (.f (.bool true),[]):=by
 generalize hzs:xs.take 20=zs
 have hz:zs.length ≤ 100:=by rw[← hzs];simp;omega
 obtain⟨sm,hsm⟩:=MS zs
 obtain⟨i1,b1,p1⟩:=Ny zs (Int.fmod sm 997) hz
 obtain⟨i2,b2,p2⟩:=OB zs (Int.fmod sm 997) hz
 obtain⟨i3,b3,p3⟩:=MU zs (Int.fmod sm 997) hz
 obtain⟨i4,b4,p4⟩:=MG zs (Int.fmod sm 997) hz
 obtain⟨q0,c0,hq0⟩:=NI zs (Int.fmod sm 997) hz
 obtain⟨q1,c1,hq1⟩:=Mm zs (Int.fmod sm 997) hz
 obtain⟨q2,c2,hq2⟩:=MM zs (Int.fmod sm 997) hz
 obtain⟨l,hi1⟩:=IX i1 b1
 obtain⟨o,hi2⟩:=Ha i2 b2
 have hb:=qT l o
 obtain⟨mn,hmn,hi3⟩:=JH i3 b3 (40 - (l.base:Nat) - (o.c.deep:Nat)) (by omega)
 obtain⟨r0,hr0⟩:=yR q0 c0
 obtain⟨r1,hr1⟩:=yR q1 c1
 obtain⟨r2,hr2⟩:=yR q2 c2
 have H:Dc xs zs sm i1 i2 i3 l o mn:=⟨hzs.symm,hx,hsm,p1,p2,p3,hi1,hi2,hi3,hmn⟩
 match i4,b4,p4 with
 | 0,_,p4=>exact Kr H p4 k
 | 1,_,p4=>exact Kb H p4 q0 hq0 r0 hr0 k
 | 2,_,p4=>exact Kj H p4 q0 hq0 r0 hr0 q1 hq1 r1 hr1 k
 | 3,_,p4=>exact Lr H p4 q0 hq0 r0 hr0 q1 hq1 r1 hr1 q2 hq2 r2 hr2 k
 | n + 4,b,_=>omega
end Mine
end
section
namespace Mine
abbrev lw:OpenLaw:=PySem.Challenge.rw_rg0187_01
noncomputable def qv:Program:=view pw [162]
noncomputable def v6:List Str:=pw.boundNames.filter fun n=>n != ("law" : Str)
noncomputable def EK (P:Params):BT :=
 ([boot_o_1 P,boot_o_2 P,boot_o_3 P,boot_o_4 P,boot_o_5 P,boot_o_6 P,boot_o_7 P,boot_o_8 P,boot_o_9 P,boot_o_10 P].foldl (fun (x:BT × Nat) o=>(x.1.ins x.2 o,x.2 + 1)) (BT.nil.ins 0 (boot_o_0 P),1)).1
noncomputable def RP (P:Params) (os:OsState):SharedT:=⟨EK P,11,(boot_heap P).life,#[],boot_drawn,boot_toks,os⟩
theorem QJ (P:Params) (os:OsState):(RP P os).abs=⟨boot_heap P,#[],boot_drawn,boot_toks,os⟩:=by kernel_rfl
theorem QI (w:World):(importEnds treeTable (opening pw) w 700 (start (opening pw)).1 (start (opening pw)).2).map (fun s=>(s.heap,s.gens,s.drawn,s.toks))=some (boot_heap w.params,#[],boot_drawn,boot_toks):=by
 rw[PySem.W.Fast.te10274390034422433532,PySem.W.Fast.te14364793385576792824,PySem.W.Fast.te1435165496053646825]
 kernel_rfl
theorem F2 (s:Shared):fenceModules? pw s=some s:=by kernel_rfl
theorem IQ (P:Params):((boot_heap P).isNs mainGlobals&&(#[]:Array GenState).size == 0,(boot_heap P).objs.size,(boot_heap P).nsMap mainGlobals "__annotations__")=(true,11,some (Value.ref 6)):=by kernel_rfl
theorem SD:importedModules pw.main.body=[]:=by kernel_rfl
theorem QY:chainsOk qv=true:=by kernel_rfl
theorem Rk:(opening pw).tameTopW=true:=by kernel_rfl
theorem QN:(bearImports (behindTheImports pw))=false:=by kernel_rfl
theorem RN:frees lw.row.toRowW=true:=by kernel_rfl
theorem df:(defOf qv lw.row.name).isSome=true:=by kernel_rfl
noncomputable def dd:DefRec × List (Str × Expr):=(defOf qv lw.row.name).get df
theorem Ji:defOf qv lw.row.name=some (dd.1,dd.2):=by kernel_rfl
theorem hp:pw.theDef lw.row.name=some (dd.1.params,dd.1.body,dd.1.scope):=by kernel_rfl
theorem hk:kwWritten? dd.1.params.kwonlyargs dd.1.params.kw_defaults=some dd.2:=by kernel_rfl
end Mine
end
section
namespace Mine
open TablesWhole
theorem b0 {a b:Bool} (h:a=true) (h':b=true):(a&&b)=true:=by rw[h,h'];rfl
theorem KG {A:Alg Bool} (hb:A.both=fun a b=>a&&b) {t:Scope}{cx:TablesWhole.Ctx}{sc:Scope}{r:List Stmt} (h':wSs A t cx sc r=true) (l:List Stmt):wSs A t cx sc l=true→wSs A t cx sc (l++r)=true:=by
 induction l with
 | nil=>exact fun _=>h'
 | cons s l ih =>
  intro h
  rw[wSs,hb]at h
  show wSs A t cx sc (s::(l++r))=true
  rw[wSs,hb]
  exact b0 (Bool.and_eq_true_iff.mp h).1 (ih (Bool.and_eq_true_iff.mp h).2)
theorem J4 {A:Alg Bool} (hb:A.both=fun a b=>a&&b) {t:Scope}{cx:TablesWhole.Ctx}{sc:Scope}{l:List Stmt} (n:Nat) (h:wSs A t cx sc (l.take n)=true) (h':wSs A t cx sc (l.drop n)=true):wSs A t cx sc l=true:=by
 have q:=KG hb h' _ h
 rwa [List.take_append_drop]at q
theorem I6:wSs gather pw.main.scope ⟨pw.main.scope,[],[],[],none⟩ pw.main.scope pw.main.body=[]:=by
 rw[PySem.W.Fast.te16421684217811934046,PySem.W.Fast.te12652042256554560961]
 kernel_rfl
theorem Ei:noTwice pw.main.scope=true:=by rw[PySem.W.Fast.te8331962902438777018];kernel_rfl
noncomputable def dP (A:Alg Bool) (i n:Nat):Prop:=wSs A pw.main.scope ⟨pw.main.scope,[],[],[],none⟩ pw.main.scope ((pw.main.body.drop i).take n)=true
theorem kF {A:Alg Bool} (hb:A.both=fun a b=>a&&b) {i n:Nat} (h:dP A i n) (h':wSs A pw.main.scope ⟨pw.main.scope,[],[],[],none⟩ pw.main.scope (pw.main.body.drop (i + n))=true):wSs A pw.main.scope ⟨pw.main.scope,[],[],[],none⟩ pw.main.scope (pw.main.body.drop i)=true :=
 J4 hb n h (by rw[List.drop_drop];exact h')
theorem Gh {A:Alg Bool} (hb:A.both=fun a b=>a&&b) (hu:A.unit=true) (h1:∀ s,A.enter s=true) (h2:∀ x s n,A.check x s n true=true) (h3:wSs A pw.main.scope ⟨pw.main.scope,[],[],[],none⟩ pw.main.scope (pw.main.body.drop 0)=true):wModule A pw.main=true:=by
 unfold wModule
 rw[I6,Ei]
 show A.both _ (A.both _ (A.both _ A.unit))=true
 rw[h1,h2,hb,hu]
 exact b0 rfl (b0 rfl (b0 h3 rfl))
theorem DJ {A:Alg Bool} (hu:A.unit=true) {n:Nat} (h:(pw.main.body.drop n).isEmpty=true):wSs A pw.main.scope ⟨pw.main.scope,[],[],[],none⟩ pw.main.scope (pw.main.body.drop n)=true:=by
 rw[List.isEmpty_iff.mp h,wSs,hu]
end Mine
end
section
namespace Mine
theorem Ow:dP TablesWhole.holds 0 100:=by unfold dP;rw[PySem.W.Fast.te16421684217811934046];kernel_rfl
theorem PJ:dP TablesWhole.holds 100 38:=by unfold dP;rw[PySem.W.Fast.te16421684217811934046];kernel_rfl
theorem PY:dP TablesWhole.holds 138 15:=by unfold dP;rw[PySem.W.Fast.te16421684217811934046];kernel_rfl
theorem PE:dP TablesWhole.holds 153 20:=by unfold dP;rw[PySem.W.Fast.te16421684217811934046];kernel_rfl
theorem Nf {p:Program} (h:TablesWhole.wModule TablesWhole.holds p.main=true) (h1:p.modules=[]) (h2:p.parses=[]) (h3:p.harvested=[]):p.tablesWhole=true:=by
 unfold Program.tablesWhole TablesWhole.wProgram
 rw[h1,h2,h3,h]
 rfl
theorem Oy:TablesWhole.wSs TablesWhole.holds pw.main.scope ⟨pw.main.scope,[],[],[],none⟩ pw.main.scope (pw.main.body.drop 0)=true :=
 kF rfl Ow (kF rfl PJ (kF rfl PY (kF rfl PE (DJ rfl (by kernel_rfl)))))
theorem PX:TablesWhole.wModule TablesWhole.holds pw.main=true:=Gh (A:=TablesWhole.holds) rfl rfl (fun _=>rfl) (fun _ _ _=>rfl) Oy
theorem Mu:pw.tablesWhole=true :=
 Nf PX (by kernel_rfl) (by kernel_rfl) (by kernel_rfl)
theorem Ir:pw.bare:=⟨by kernel_rfl,by kernel_rfl,by kernel_rfl,by kernel_rfl,by kernel_rfl,Mu⟩
theorem MF:lw.row.toRowW.promised:=by w_witness2
end Mine
end
section
namespace Mine
noncomputable def fS (i:Nat) (j:Option Nat):Stmt:=match nth pw.main.body i with
 | some s=>(match j with
  | none=>s
  | some j=>(match nth (jG s) j with
   | some t=>t
   | none=>.Pass default))
 | none=>.Pass default
noncomputable def fD (s:Stmt) (name qual:Str) (g:Addr) (de dc mo co ct:Value) (b:Addr):FuncData:=match s with
 | .FunctionDef _ a bd _ _ _ sc _ _ _=>⟨name,qual,a,.stmts bd,sc,g,[],de,.none,dc,mo,none,co,ct,b⟩
 | _=>default
noncomputable def vs (t:Nat):List Str→List Value
 | []=>[]
 | x::r=>.str x t::vs (t + 1) r
noncomputable def wv:List Int→List Value
 | []=>[]
 | .ofNat n::r=>.int n 0::wv r
 | .negSucc n::r=>.ref (n + 1)::wv r
noncomputable def tp (l:List Value):Obj:=⟨.type "tuple",none,.seq l.toArray 0,#[]⟩
noncomputable def fl (l:List Value):Obj:=⟨.none,none,.fields l.toArray,#[]⟩
noncomputable def fN (s:Stmt):Str:=match s with
 | .FunctionDef n _ _ _ _ _ _ _ _ _=>n
 | _=>default
noncomputable def de (P:Params) (x:Str) (t:Nat) (v:Value):DictEntry:=⟨PyData.keyHash P x,.str x t,v⟩
noncomputable def db (P:Params) (x:String) (t:Nat):DictEntry:=⟨PyData.keyHash P (Str.ofString x),.str (Str.ofString x) t,.builtin x⟩
noncomputable def gr (i:Nat) (j:Option Nat) (q:Str) (A:Nat) (mo:Value) (t:Nat) (V:List Str) (L c k:Int) (W:List Value):List Obj :=
 let s:=fS i j
 let z:=V.length
 let co (a b:Value) (d:Nat):Obj:=⟨.type "code",none,.fields #[.str (fN s) t,.str q (t + 1),.str "/claim/cut.py" (t + 2),.int L 0,.int c 0,.int 0 0,.int 0 0,.int 3 0,.ref A,.bool true,.int k 0,.ref (A + 1),.none,a,b,.ref (A + d),.int (t + 3 + z:Nat) 0,.int L 0,.str "/claim/cut.py" (t + 4 + z)],#[]⟩
 let fd:Obj:=⟨.none,none,.func (fD s (fN s) q 0 .none .none .none .none .none 0),#[]⟩
 let fu (d:Nat):Obj:=⟨.type "function",none,.func (fD s (fN s) q 3 .none .none mo (.ref (A + d)) .none 0),#[]⟩
 match V with
 | []=>[tp [],fl W,fd,co .none .none 2,fu 3]
 | _::_=>[tp [],fl W,tp (vs (t + 3) V),tp [],fd,co (.ref (A + 2)) (.ref (A + 3)) 4,fu 5]
noncomputable def gf (i:Nat) (A:Nat) (mo:Value) (t:Nat) (V:List Str) (L c k:Int) (W:List Value):List Obj:=gr i none (fN (fS i none)) A mo t V L c k W
noncomputable def m0:Value:=.str "js.nodes" 187
noncomputable def m1:Value:=.str "js.chars" 258
noncomputable def m2:Value:=.str "js.dbits" 422
noncomputable def m3:Value:=.str "js.numshow" 556
noncomputable def m4:Value:=.str "js.printwords" 674
noncomputable def m5:Value:=.str "js.printer" 845
noncomputable def m6:Value:=.str "js.escapes" 1064
noncomputable def m7:Value:=.str "js.numparse" 1137
noncomputable def m8:Value:=.str "js.tokens" 1171
noncomputable def m9:Value:=.str "js.values" 1417
noncomputable def iK:Value:=.str "js.lexer" 1450
noncomputable def lX:Value:=.str "js.strictness" 1653
noncomputable def iQ:Value:=.str "js.parse_base" 1802
noncomputable def gH:Value:=.str "js.parse_expr" 1971
noncomputable def mU:Value:=.str "js.parse_simple" 2247
noncomputable def zO:Value:=.str "js.parse_literal" 2386
noncomputable def pH:Value:=.str "js.parse_stmt" 2468
noncomputable def Ra:Value:=.str "js.parser" 2595
noncomputable def Cq:Value:=.str "law_rg0187_01" 2606
noncomputable def Rl (P:Params):List Obj:=[⟨.type "dict",none,.dict #[de P "__name__" 1 (.str "builtins" 160),de P "__doc__" 2 (.builtin "builtins.__doc__:str#opaque"),de P "__package__" 3 (.builtin "builtins.__package__:str#opaque"),de P "__loader__" 4 (.builtin "builtins.__loader__:shared#opaque"),de P "__spec__" 5 (.builtin "builtins.__spec__#opaque"),db P "__build_class__" 6,db P "__import__" 7,db P "abs" 8,db P "all" 9,db P "any" 10,db P "ascii" 11,db P "bin" 12,db P "breakpoint" 13,db P "callable" 14,db P "chr" 15,db P "compile" 16,db P "delattr" 17,db P "dir" 18,db P "divmod" 19,db P "eval" 20,db P "exec" 21,db P "format" 22,db P "getattr" 23,db P "globals" 24,db P "hasattr" 25,db P "hash" 26,db P "hex" 27,db P "id" 28,db P "input" 29,db P "isinstance" 30,db P "issubclass" 31,db P "iter" 32,db P "aiter" 33,db P "len" 34,db P "locals" 35,db P "max" 36,db P "min" 37,db P "next" 38,db P "anext" 39,db P "oct" 40,db P "ord" 41,db P "pow" 42,db P "print" 43,db P "repr" 44,db P "round" 45,db P "setattr" 46,db P "sorted" 47,db P "sum" 48,db P "vars" 49,de P "None" 50 .none,de P "Ellipsis" 51 .ellipsis,de P "NotImplemented" 52 .notImplemented,de P "False" 53 (.bool false),de P "True" 54 (.bool true),de P "bool" 55 (.type "bool"),de P "memoryview" 56 (.type "memoryview"),de P "bytearray" 57 (.type "bytearray"),de P "bytes" 58 (.type "bytes"),de P "classmethod" 59 (.type "classmethod"),de P "complex" 60 (.type "complex"),de P "dict" 61 (.type "dict"),de P "enumerate" 62 (.type "enumerate"),de P "filter" 63 (.type "filter"),de P "float" 64 (.type "float"),de P "frozenset" 65 (.type "frozenset"),de P "property" 66 (.type "property"),de P "int" 67 (.type "int"),de P "list" 68 (.type "list"),de P "map" 69 (.type "map"),de P "object" 70 (.type "object"),de P "range" 71 (.type "range"),de P "reversed" 72 (.type "reversed"),de P "set" 73 (.type "set"),de P "slice" 74 (.type "slice"),de P "staticmethod" 75 (.type "staticmethod"),de P "str" 76 (.type "str"),de P "super" 77 (.type "super"),de P "tuple" 78 (.type "tuple"),de P "type" 79 (.type "type"),de P "zip" 80 (.type "zip"),de P "__debug__" 81 (.bool true),de P "BaseException" 82 (.type "BaseException"),de P "BaseExceptionGroup" 83 (.type "BaseExceptionGroup"),de P "Exception" 84 (.type "Exception"),de P "GeneratorExit" 85 (.type "GeneratorExit"),de P "KeyboardInterrupt" 86 (.type "KeyboardInterrupt"),de P "SystemExit" 87 (.type "SystemExit"),de P "ArithmeticError" 88 (.type "ArithmeticError"),de P "AssertionError" 89 (.type "AssertionError"),de P "AttributeError" 90 (.type "AttributeError"),de P "BufferError" 91 (.type "BufferError"),de P "EOFError" 92 (.type "EOFError"),de P "ImportError" 93 (.type "ImportError"),de P "LookupError" 94 (.type "LookupError"),de P "MemoryError" 95 (.type "MemoryError"),de P "NameError" 96 (.type "NameError"),de P "OSError" 97 (.type "OSError"),de P "ReferenceError" 98 (.type "ReferenceError"),de P "RuntimeError" 99 (.type "RuntimeError"),de P "StopAsyncIteration" 100 (.type "StopAsyncIteration"),de P "StopIteration" 101 (.type "StopIteration"),de P "SyntaxError" 102 (.type "SyntaxError"),de P "SystemError" 103 (.type "SystemError"),de P "TypeError" 104 (.type "TypeError"),de P "ValueError" 105 (.type "ValueError"),de P "Warning" 106 (.type "Warning"),de P "FloatingPointError" 107 (.type "FloatingPointError"),de P "OverflowError" 108 (.type "OverflowError"),de P "ZeroDivisionError" 109 (.type "ZeroDivisionError"),de P "BytesWarning" 110 (.type "BytesWarning"),de P "DeprecationWarning" 111 (.type "DeprecationWarning"),de P "EncodingWarning" 112 (.type "EncodingWarning"),de P "FutureWarning" 113 (.type "FutureWarning"),de P "ImportWarning" 114 (.type "ImportWarning"),de P "PendingDeprecationWarning" 115 (.type "PendingDeprecationWarning"),de P "ResourceWarning" 116 (.type "ResourceWarning"),de P "RuntimeWarning" 117 (.type "RuntimeWarning"),de P "SyntaxWarning" 118 (.type "SyntaxWarning"),de P "UnicodeWarning" 119 (.type "UnicodeWarning"),de P "UserWarning" 120 (.type "UserWarning"),de P "BlockingIOError" 121 (.type "BlockingIOError"),de P "ChildProcessError" 122 (.type "ChildProcessError"),de P "ConnectionError" 123 (.type "ConnectionError"),de P "FileExistsError" 124 (.type "FileExistsError"),de P "FileNotFoundError" 125 (.type "FileNotFoundError"),de P "InterruptedError" 126 (.type "InterruptedError"),de P "IsADirectoryError" 127 (.type "IsADirectoryError"),de P "NotADirectoryError" 128 (.type "NotADirectoryError"),de P "PermissionError" 129 (.type "PermissionError"),de P "ProcessLookupError" 130 (.type "ProcessLookupError"),de P "TimeoutError" 131 (.type "TimeoutError"),de P "IndentationError" 132 (.type "IndentationError"),de P "_IncompleteInputError" 133 (.type "_IncompleteInputError"),de P "IndexError" 134 (.type "IndexError"),de P "KeyError" 135 (.type "KeyError"),de P "ModuleNotFoundError" 136 (.type "ModuleNotFoundError"),de P "NotImplementedError" 137 (.type "NotImplementedError"),de P "PythonFinalizationError" 138 (.type "PythonFinalizationError"),de P "RecursionError" 139 (.type "RecursionError"),de P "UnboundLocalError" 140 (.type "UnboundLocalError"),de P "UnicodeError" 141 (.type "UnicodeError"),de P "BrokenPipeError" 142 (.type "BrokenPipeError"),de P "ConnectionAbortedError" 143 (.type "ConnectionAbortedError"),de P "ConnectionRefusedError" 144 (.type "ConnectionRefusedError"),de P "ConnectionResetError" 145 (.type "ConnectionResetError"),de P "TabError" 146 (.type "TabError"),de P "UnicodeDecodeError" 147 (.type "UnicodeDecodeError"),de P "UnicodeEncodeError" 148 (.type "UnicodeEncodeError"),de P "UnicodeTranslateError" 149 (.type "UnicodeTranslateError"),de P "ExceptionGroup" 150 (.type "ExceptionGroup"),de P "EnvironmentError" 151 (.type "OSError"),de P "IOError" 152 (.type "OSError"),db P "open" 153,de P "quit" 154 (.builtin "builtins.quit#opaque"),de P "exit" 155 (.builtin "builtins.exit#opaque"),de P "copyright" 156 (.builtin "builtins.copyright#opaque"),de P "credits" 157 (.builtin "builtins.credits#opaque"),de P "license" 158 (.builtin "builtins.license#opaque"),de P "help" 159 (.builtin "builtins.help#opaque")] 159,#[]⟩,⟨.type "dict",none,.dict #[de P "builtins" 162 (.ref 4),de P "__main__" 163 (.ref 5)] 2,#[]⟩,⟨.none,none,.dict #[de P "type.__subclasses__.Exception.0" 1446 (.int (697) 0),de P "type.__subclasses__.Exception.n" 1447 (.int (1) 0)] 2,#[]⟩,⟨.type "dict",none,.dict #[de P "__name__" 165 (.str "law_rg0187_01" 2606),de P "__doc__" 166 .none,de P "__package__" 167 .none,de P "__loader__" 168 (.builtin "__main__.__loader__#opaque"),de P "__spec__" 169 .none,de P "__annotations__" 170 (.ref 6),de P "__builtins__" 171 (.ref 4),de P "__file__" 173 (.str "/claim/cut.py" 172),de P "__cached__" 174 .none,de P "Node" 222 (.ref 31),de P "children" 232 (.ref 42),de P "is_too_high" 238 (.ref 47),de P "same_kind" 246 (.ref 54),de P "same_tree" 257 (.ref 61),de P "BLANKS" 271 (.ref 62),de P "LINE_ENDS" 276 (.ref 63),de P "LETTERS" 341 (.ref 96),de P "PARTS" 354 (.ref 103),de P "is_among" 364 (.ref 110),de P "is_white" 371 (.ref 117),de P "is_line_end" 378 (.ref 124),de P "is_digit" 385 (.ref 131),de P "is_octal_digit" 392 (.ref 138),de P "hex_value" 399 (.ref 145),de P "is_id_start" 406 (.ref 152),de P "is_id_part" 413 (.ref 159),de P "is_name" 421 (.ref 166),de P "SIGN_BIT" 427 (.int (9223372036854775808) 426),de P "FRACTION_BITS" 429 (.int (52) 428),de P "FRACTION_MASK" 435 (.int (4503599627370495) 434),de P "HIDDEN_BIT_dbits" 439 (.int (4503599627370496) 438),de P "EXPONENT_MASK" 441 (.int (2047) 440),de P "EXPONENT_SHIFT" 443 (.int (1075) 442),de P "LEAST_POWER_dbits" 446 (.int (-1074) 445),de P "ZERO" 448 (.int (0) 447),de P "INF" 452 (.int (9218868437227405312) 451),de P "width" 461 (.ref 173),de P "pack" 470 (.ref 180),de P "is_negative" 477 (.ref 187),de P "is_nan" 484 (.ref 194),de P "is_inf" 491 (.ref 201),de P "is_zero" 498 (.ref 208),de P "signed" 506 (.ref 215),de P "parts" 516 (.ref 222),de P "quotient" 525 (.ref 229),de P "round_ratio" 538 (.ref 236),de P "assembled" 548 (.ref 243),de P "from_int" 555 (.ref 250),de P "LEAST_POWER_numshow" 560 (.int (-1074) 559),de P "HIDDEN_BIT_numshow" 564 (.int (4503599627370496) 563),de P "scaled" 575 (.ref 257),de P "decimal_place" 584 (.ref 264),de P "first_place" 597 (.ref 482),de P "first_place_numshow" 598 (.ref 271),de P "shortest" 619 (.ref 278),de P "last_figure" 630 (.ref 285),de P "signed_exponent" 637 (.ref 292),de P "with_exponent" 646 (.ref 299),de P "laid_out" 655 (.ref 306),de P "without_figures" 662 (.ref 313),de P "show" 672 (.ref 527),de P "show_numshow" 673 (.ref 320),de P "ESCAPED" 700 (.ref 321),de P "FIGURES" 702 (.str "0123456789abcdef" 701),de P "STRENGTHS" 772 (.ref 322),de P "COMMA" 780 (.int (0) 773),de P "ASSIGN" 781 (.int (1) 774),de P "COND" 782 (.int (2) 775),de P "UNARY" 783 (.int (13) 776),de P "POSTFIX" 784 (.int (14) 777),de P "CALL" 785 (.int (15) 778),de P "MEMBER" 786 (.int (16) 779),de P "OTHERS" 797 (.ref 328),de P "hex_figures" 807 (.ref 335),de P "show_text" 817 (.ref 342),de P "show_name" 823 (.ref 347),de P "show_key" 830 (.ref 354),de P "show_bits" 837 (.ref 361),de P "strength" 844 (.ref 368),de P "PLAIN" 853 (.ref 369),de P "FIRST_PLACES" 871 (.ref 370),de P "show_expression" 881 (.ref 382),de P "show_bare" 887 (.ref 387),de P "show_array" 893 (.ref 392),de P "show_property" 903 (.ref 399),de P "show_list" 909 (.ref 404),de P "show_access" 920 (.ref 411),de P "show_taken" 927 (.ref 418),de P "show_made" 934 (.ref 425),de P "show_operation" 940 (.ref 430),de P "show_unary" 949 (.ref 437),de P "show_function" 957 (.ref 444),de P "show_body" 963 (.ref 449),de P "show_code" 974 (.ref 456),de P "show_statements" 980 (.ref 461),de P "show_vars" 992 (.ref 468),de P "show_free" 999 (.ref 475),de P "first_place_printer" 1007 (.ref 482),de P "guarded" 1016 (.ref 489),de P "show_statement" 1026 (.ref 496),de P "show_leave" 1035 (.ref 503),de P "show_loop" 1041 (.ref 508),de P "show_switch" 1047 (.ref 513),de P "show_try" 1055 (.ref 520),de P "show_printer" 1063 (.ref 527),de P "SINGLE" 1084 (.ref 528),de P "code_at" 1092 (.ref 535),de P "hex_at" 1104 (.ref 542),de P "line_end_size" 1112 (.ref 549),de P "octal_escape" 1123 (.ref 556),de P "read_escape" 1136 (.ref 563),de P "FARTHEST" 1140 (.int (400) 1139),de P "figure_of" 1147 (.ref 570),de P "worth" 1159 (.ref 577),de P "from_decimal" 1170 (.ref 584),de P "KEYWORDS" 1209 (.ref 585),de P "PUNCTS" 1258 (.ref 586),de P "PUNCT_TABLE" 1358 (.ref 640),de P "Token" 1399 (.ref 662),de P "is_keyword" 1406 (.ref 673),de P "punct_at" 1416 (.ref 680),de P "SyntaxFail" 1449 (.ref 697),de P "Lexer" 1652 (.ref 843),de P "STRICT_WORDS" 1664 (.ref 848),de P "RESTRICTED" 1667 (.ref 849),de P "TARGETS" 1671 (.ref 850),de P "name_fault" 1679 (.ref 857),de P "binding_fault" 1687 (.ref 864),de P "first_twice" 1696 (.ref 871),de P "params_fault" 1708 (.ref 878),de P "target_fault" 1717 (.ref 885),de P "delete_fault" 1725 (.ref 892),de P "octal_fault" 1733 (.ref 899),de P "entry_fault" 1744 (.ref 906),de P "accessor_fault" 1753 (.ref 913),de P "Jumps" 1801 (.ref 945),de P "MOST_NESTED" 1805 (.int (40) 1804),de P "MOST_LEVELS" 1807 (.int (120) 1806),de P "TokenTaker" 1970 (.ref 1085),de P "PRIORITY" 2042 (.ref 1090),de P "ASSIGNING" 2055 (.ref 1092),de P "UNARY_SIGNS" 2060 (.ref 1093),de P "UNARY_WORDS" 2064 (.ref 1094),de P "STEPS" 2067 (.ref 1095),de P "ExprParser" 2246 (.ref 1231),de P "SimpleParser" 2385 (.ref 1332),de P "LiteralParser" 2467 (.ref 1386),de P "LOOP_WORDS" 2473 (.ref 1389),de P "StmtParser" 2594 (.ref 1469),de P "parse" 2605 (.ref 1478),de P "_law_leads" 2635 (.ref 1488),de P "_law_cores" 2652 (.ref 1497),de P "_law_ahead" 2658 (.ref 1498),de P "_law_pick" 2666 (.ref 1505),de P "_law_read" 2673 (.ref 1512),de P "_law_is_strict" 2681 (.ref 1519),de P "law" 2687 (.ref 1524)] 157,#[]⟩,⟨.type "module",(some 0),.plain,#[]⟩,⟨.type "module",(some 3),.plain,#[]⟩,⟨.type "dict",none,.dict #[] 0,#[]⟩,tp [],fl [],⟨.type "code",none,.fields #[.str "<module>" 176,.str "<module>" 177,.str "/claim/cut.py" 178,.int (1) 0,.int (0) 0,.int (0) 0,.int (0) 0,.int (0) 0,.ref 7,.bool false,.int (175) 0,.ref 8,.none,.none,.none,.none,.int (179) 0,.int (1) 0,.str "/claim/cut.py" 180],#[]⟩,⟨.type "frame",none,.plain,#[some (.ref 9),some (.ref 3),some (.ref 3),none,some (.str "__main__" 164),none,some (.ref 0)]⟩,tp [],fl (wv [2,0,-20,9,0,-41,18,0,-46,24,0,-53,32,0,-60,50,0,-109,55,0,-116,57,0,-123,59,0,-130,61,0,-137,63,0,-144,69,0,-151,73,0,-158,75,0,-165,92,0,-172,102,0,-179,104,0,-186,106,0,-193,108,0,-200,110,0,-207,112,0,-214,114,0,-221,119,0,-228,125,0,-235,136,0,-242,145,0,-249,150,0,-256,157,0,-263,162,0,-270,171,0,-277,192,0,-284,198,0,-291,200,0,-298,203,0,-305,212,0,-312,218,0,-319,233,0,-334,239,0,-341,250,0,-346,252,0,-353,254,0,-360,256,0,-367,265,0,-381,270,0,-386,295,0,-391,299,0,-398,304,0,-403,306,0,-410,312,0,-417,316,0,-424,320,0,-429,340,0,-436,343,0,-443,346,0,-448,349,0,-455,358,0,-460,360,0,-467,366,0,-474,368,0,-481,375,0,-488,389,0,-495,411,0,-502,420,0,-507,434,0,-512,440,0,-519,445,0,-526,450,0,-534,452,0,-541,460,0,-548,462,0,-555,471,0,-562,492,0,-569,498,0,-576,503,0,-583,518,0,-651,529,0,-672,531,0,-679,538,0,-686,544,0,-706,753,0,-856,757,0,-863,761,0,-870,768,0,-877,777,0,-884,781,0,-891,783,0,-898,785,0,-905,795,0,-912,798,0,-919,822,0,-955,916,0,-1101,1084,0,-1239,1215,0,-1340,1283,0,-1395,1402,0,-1477,1410,0,-1504,1415,0,-1511,1420,0,-1518,1427,0,-1523]),⟨.type "code",none,.fields #[.str "<module>" 182,.str "<module>" 183,.str "/claim/cut.py" 184,.int (1) 0,.int (0) 0,.int (0) 0,.int (0) 0,.int (0) 0,.ref 11,.bool false,.int (181) 0,.ref 12,.none,.none,.none,.none,.int (185) 0,.int (1) 0,.str "/claim/cut.py" 186],#[]⟩,⟨.type "frame",none,.plain,#[some (.ref 13),some (.ref 3),some (.ref 3),none,some (.str "__main__" 164),none,some (.ref 0)]⟩,tp [],⟨.type "builtin_function_or_method",none,.fields #[.builtin "type.__prepare__",.type "type"],#[]⟩,⟨.type "dict",none,.dict #[de P "__module__" 196 (.str "js.nodes" 187),de P "__qualname__" 198 (.str "Node" 197),de P "__firstlineno__" 200 (.int (2) 199),de P "__init__" 210 (.ref 28),de P "__static_attributes__" 215 (.ref 29)] 5,#[]⟩,tp [],fl (wv [4,4,-27]),⟨.type "code",none,.fields #[.str "Node" 191,.str "Node" 192,.str "/claim/cut.py" 193,.int (2) 0,.int (0) 0,.int (0) 0,.int (0) 0,.int (0) 0,.ref 18,.bool false,.int (181) 0,.ref 19,.none,.none,.none,.none,.int (194) 0,.int (2) 0,.str "/claim/cut.py" 195],#[]⟩,⟨.type "frame",none,.plain,#[some (.ref 20),some (.ref 3),some (.ref 17),none,some (.str "js.nodes" 187),none,some (.ref 0)]⟩]++(gr 1 (some 0) "Node.__init__" 22 m0 201 ["self","kind","line","parts"] 4 4 181 []++([tp (vs 211 ["kind","line","parts","scope"]),⟨.type "dict",none,.dict #[de P "__module__" 196 (.str "js.nodes" 187),de P "__firstlineno__" 200 (.int (2) 199),de P "__init__" 210 (.ref 28),de P "__static_attributes__" 215 (.ref 29),de P "__dict__" 217 (.ref 32),de P "__weakref__" 219 (.ref 33),de P "__doc__" 220 .none] 4,#[]⟩,⟨.type "type",none,.cls ⟨"Node",[.type "object"],[.ref 31,.type "object"],30,"Node",true,[],[],false,none,false⟩,#[none,none,some (.str "Node" 189),some (.str "Node" 197),some (.builtin "object.__new__"),some (.bool true)]⟩,⟨.type "getset_descriptor",none,.fields #[.str "__dict__" 216,.ref 31,.builtin "function.__dict__",.builtin "function.__dict__#set"],#[]⟩,⟨.type "getset_descriptor",none,.fields #[.str "__weakref__" 218,.ref 31,.builtin "ExceptionGroup.__weakref__",.none],#[]⟩,⟨.type "super",none,.fields #[.ref 31,.ref 31,.ref 31],#[]⟩,⟨.type "builtin_function_or_method",none,.fields #[.builtin "object.__init_subclass__",.ref 31],#[]⟩]++(gf 2 36 m0 223 ["node","found","waiting","part"] 9 1 181 []++(gf 3 43 m0 233 [] 18 2 181 []++(gf 4 48 m0 239 ["one","other"] 24 2 181 []++(gf 5 55 m0 247 ["one","other","waiting","here","there"] 32 2 181 []++([⟨.type "list",none,.seq #[.int (9) 260,.int (11) 261,.int (12) 262,.int (32) 263,.int (160) 264,.int (5760) 265,.int (6158) 266,.int (8239) 267,.int (8287) 268,.int (12288) 269,.int (65279) 270] 0,#[]⟩,⟨.type "list",none,.seq #[.int (10) 272,.int (13) 273,.int (8232) 274,.int (8233) 275] 0,#[]⟩,tp [.int (170) 277,.int (170) 278],tp [.int (181) 279,.int (181) 280],tp [.int (186) 281,.int (186) 282],tp [.int (192) 283,.int (214) 284],tp [.int (216) 285,.int (246) 286],tp [.int (248) 287,.int (705) 288],tp [.int (880) 289,.int (883) 290],tp [.int (886) 291,.int (887) 292],tp [.int (891) 293,.int (893) 294],tp [.int (902) 295,.int (902) 296],tp [.int (904) 297,.int (906) 298],tp [.int (908) 299,.int (908) 300],tp [.int (910) 301,.int (929) 302],tp [.int (931) 303,.int (1013) 304],tp [.int (1015) 305,.int (1153) 306],tp [.int (1162) 307,.int (1315) 308],tp [.int (1329) 309,.int (1366) 310],tp [.int (1377) 311,.int (1415) 312],tp [.int (1488) 313,.int (1514) 314],tp [.int (1569) 315,.int (1594) 316],tp [.int (1601) 317,.int (1610) 318],tp [.int (2308) 319,.int (2361) 320],tp [.int (4256) 321,.int (4293) 322],tp [.int (4304) 323,.int (4346) 324],tp [.int (7680) 325,.int (7835) 326],tp [.int (7840) 327,.int (7929) 328],tp [.int (8544) 329,.int (8578) 330],tp [.int (12353) 331,.int (12438) 332],tp [.int (12449) 333,.int (12538) 334],tp [.int (12549) 335,.int (12588) 336],tp [.int (19968) 337,.int (40891) 338],tp [.int (44032) 339,.int (55203) 340],⟨.type "list",none,.seq #[.ref 64,.ref 65,.ref 66,.ref 67,.ref 68,.ref 69,.ref 70,.ref 71,.ref 72,.ref 73,.ref 74,.ref 75,.ref 76,.ref 77,.ref 78,.ref 79,.ref 80,.ref 81,.ref 82,.ref 83,.ref 84,.ref 85,.ref 86,.ref 87,.ref 88,.ref 89,.ref 90,.ref 91,.ref 92,.ref 93,.ref 94,.ref 95] 0,#[]⟩,tp [.int (768) 342,.int (879) 343],tp [.int (1632) 344,.int (1641) 345],tp [.int (2406) 346,.int (2415) 347],tp [.int (8204) 348,.int (8205) 349],tp [.int (8255) 350,.int (8256) 351]]++([tp [.int (8276) 352,.int (8276) 353],⟨.type "list",none,.seq #[.ref 97,.ref 98,.ref 99,.ref 100,.ref 101,.ref 102] 0,#[]⟩]++(gf 11 104 m1 355 ["code","ranges","first","last"] 50 2 181 []++(gf 12 111 m1 365 ["code"] 55 1 181 []++(gf 13 118 m1 372 ["code"] 57 1 181 []++(gf 14 125 m1 379 ["code"] 59 1 181 []++(gf 15 132 m1 386 ["code"] 61 1 181 []++(gf 16 139 m1 393 ["code"] 63 1 181 []++(gf 17 146 m1 400 ["code"] 69 1 181 []++(gf 18 153 m1 407 ["code"] 73 1 181 []++(gf 19 160 m1 414 ["text","sign"] 75 1 181 []++(gf 30 167 m2 453 ["n","many","step"] 92 1 181 []++(gf 31 174 m2 462 ["sign","exponent","fraction"] 102 3 181 []++(gf 32 181 m2 471 ["bits"] 104 1 181 []++(gf 33 188 m2 478 ["bits"] 106 1 181 []++(gf 34 195 m2 485 ["bits"] 108 1 181 []++(gf 35 202 m2 492 ["bits"] 110 1 181 []++(gf 36 209 m2 499 ["sign","bits"] 112 2 181 []++(gf 37 216 m2 507 ["bits","sign","exponent","fraction"] 114 1 181 []++(gf 38 223 m2 517 ["top","bottom","power"] 119 3 181 []++(gf 39 230 m2 526 ["sign","top","bottom","power","whole","rest","unit"] 125 3 181 []++(gf 40 237 m2 539 ["sign","whole","power","exponent"] 136 3 181 []++(gf 41 244 m2 549 ["n"] 145 1 181 []++(gf 45 251 m3 565 ["mantissa","power","is_edge","factor","above"] 150 2 181 []++(gf 46 258 m3 576 ["top","bottom","found"] 157 2 181 []++(gf 47 265 m3 585 ["number","above","unit","is_even","found","edge","limit"] 162 4 181 []++(gf 49 272 m3 599 ["bits","sign","mantissa","power","is_even","number","above","below","unit","place","factor","found","figure","is_low","is_high"] 171 1 181 []++(gf 50 279 m3 620 ["figure","rest","unit","is_low","is_high"] 192 5 181 []++(gf 51 286 m3 631 ["exponent"] 198 1 181 []++(gf 52 293 m3 638 ["figures","exponent","rest"] 200 2 181 []++(gf 53 300 m3 647 ["figures","place","size"] 203 2 181 []++(gf 54 307 m3 656 ["bits"] 212 1 181 []++(gf 55 314 m3 663 ["bits","told","figures","place"] 218 1 181 []++([⟨.type "dict",none,.dict #[⟨(8),.int (8) 676,.str "\\b" 677⟩,⟨(9),.int (9) 678,.str "\\t" 679⟩,⟨(10),.int (10) 680,.str "\\n" 681⟩,⟨(11),.int (11) 682,.str "\\v" 683⟩,⟨(12),.int (12) 684,.str "\\f" 685⟩,⟨(13),.int (13) 686,.str "\\r" 687⟩,⟨(34),.int (34) 688,.str "\\\"" 689⟩,⟨(92),.int (92) 690,.str "\\\\" 691⟩] 8,#[]⟩,⟨.type "dict",none,.dict #[de P "||" 703 (.int (3) 704),de P "&&" 706 (.int (4) 707),de P "|" 709 (.int (5) 710),de P "^" 712 (.int (6) 713),de P "&" 715 (.int (7) 716),de P "==" 718 (.int (8) 719),de P "!=" 721 (.int (8) 722),de P "===" 724 (.int (8) 725),de P "!==" 727 (.int (8) 728),de P "<" 730 (.int (9) 731),de P ">" 733 (.int (9) 734),de P "<=" 736 (.int (9) 737),de P ">=" 739 (.int (9) 740),de P "in" 742 (.int (9) 743),de P "instanceof" 745 (.int (9) 746),de P "<<" 748 (.int (10) 749),de P ">>" 751 (.int (10) 752),de P ">>>" 754 (.int (10) 755),de P "+" 756 (.int (11) 757),de P "-" 758 (.int (11) 759),de P "*" 760 (.int (12) 761),de P "/" 762 (.int (12) 763),de P "%" 764 (.int (12) 765)] 23,#[]⟩,⟨.type "dict",none,.dict #[de P ">>>" 754 (.int (10) 755),de P "+" 756 (.int (11) 757),de P "-" 758 (.int (11) 759),de P "*" 760 (.int (12) 761),de P "/" 762 (.int (12) 763),de P "%" 764 (.int (12) 765)] 6,#[]⟩,tp [.int (0) 773,.int (1) 774,.int (2) 775,.int (13) 776,.int (14) 777,.int (15) 778,.int (16) 779],⟨.type "tuple_iterator",none,.fields #[.none,.int (7) 0],#[]⟩,tp [],⟨.type "StopIteration",none,.fields #[.ref 326,.none,.none,.none,.bool false,.none],#[]⟩,⟨.type "dict",none,.dict #[de P "Comma" 787 (.int (0) 773),de P "Assign" 788 (.int (1) 774),de P "Cond" 789 (.int (2) 775),de P "Unary" 790 (.int (13) 776),de P "Call" 791 (.int (15) 778)] 5,#[]⟩]++(gf 63 329 m4 798 ["code","many","found","step"] 233 2 181 []++(gf 64 336 m4 808 ["text","found","sign","code"] 239 1 181 []++(gf 65 343 m4 818 [] 250 1 181 []++(gf 66 348 m4 824 ["key"] 252 1 181 []++(gf 67 355 m4 831 ["bits"] 254 1 181 []++(gf 68 362 m4 838 ["node"] 256 1 181 []++([⟨.type "dict",none,.dict #[de P "Null" 847 (.str "null" 848),de P "This" 849 (.str "this" 850)] 2,#[]⟩,⟨.type "dict",none,.dict #[de P "Assign" 854 (.ref 371),de P "Cond" 856 (.ref 372),de P "Member" 860 (.ref 373),de P "Index" 862 (.ref 374),de P "Call" 864 (.ref 375)] 5,#[]⟩,tp [.int (1) 855,.int (15) 778],tp [.int (0) 857,.int (3) 859],tp [.int (0) 861,.int (15) 778],tp [.int (0) 863,.int (15) 778],tp [.int (0) 865,.int (15) 778]]++(gf 72 376 m5 872 ["node","least","has_no_in","is_in"] 265 3 181 []++(gf 73 383 m5 882 [] 270 2 181 []++(gf 74 388 m5 888 [] 295 1 181 []++(gf 75 393 m5 894 ["triple","sort","key","node"] 299 1 181 []++(gf 76 400 m5 904 [] 304 1 181 []++(gf 77 405 m5 910 ["node","has_no_in","kind","parts","owner"] 306 2 181 []++(gf 78 412 m5 921 ["node"] 312 1 181 []++(gf 79 419 m5 928 ["node"] 316 1 181 []++(gf 80 426 m5 935 [] 320 2 181 []++(gf 81 431 m5 941 ["word","operand","is_word"] 340 2 181 []++(gf 82 438 m5 950 ["node","name"] 343 1 181 []++(gf 83 445 m5 958 [] 346 1 181 [])))))))))))))))))))))))))))))))))))))))))))))))))))))))))))
noncomputable def RW (P:Params):List Obj:=gf 84 450 m5 964 ["body","is_strict","texts","is_ahead","node"] 349 2 181 []++(gf 85 457 m5 975 [] 358 1 181 []++(gf 86 462 m5 981 ["pairs","has_no_in","found","name","value","behind"] 360 2 181 []++(gf 87 469 m5 993 ["node"] 366 1 181 []++(gf 88 476 m5 1000 ["node"] 368 1 181 []++(gf 90 483 m5 1008 ["node","parts","spot"] 375 1 181 []++(gf 91 490 m5 1017 ["node","kind","parts","text"] 389 1 181 []++(gf 92 497 m5 1027 ["kind","parts","word"] 411 2 181 []++(gf 93 504 m5 1036 [] 420 2 181 []++(gf 94 509 m5 1042 [] 434 1 181 []++(gf 95 514 m5 1048 ["parts","text"] 440 1 181 []++(gf 96 521 m5 1056 ["program"] 445 1 181 []++([⟨.type "dict",none,.dict #[de P "b" 1066 (.int (8) 1067),de P "t" 1068 (.int (9) 1069),de P "n" 1070 (.int (10) 1071),de P "v" 1072 (.int (11) 1073),de P "f" 1074 (.int (12) 1075),de P "r" 1076 (.int (13) 1077)] 6,#[]⟩]++(gf 100 529 m6 1085 ["text","at"] 450 2 181 []++(gf 101 536 m6 1093 ["text","at","many","value","step","figure"] 452 3 181 []++(gf 102 543 m6 1105 ["text","at"] 460 2 181 []++(gf 103 550 m6 1113 ["text","at","most","many","value"] 462 2 181 []++(gf 104 557 m6 1124 ["text","at","code","many","value","found","sign"] 471 2 181 []++(gf 107 564 m7 1141 ["sign"] 492 1 181 []++(gf 108 571 m7 1148 ["text","begin","end","radix","found","at"] 498 4 181 []++(gf 109 578 m7 1160 ["figures","exponent","told","place","number"] 503 2 181 []++([⟨.type "list",none,.seq #[.str "break" 1173,.str "case" 1174,.str "catch" 1175,.str "continue" 1176,.str "debugger" 1177,.str "default" 1178,.str "delete" 1179,.str "do" 1180,.str "else" 1181,.str "finally" 1182,.str "for" 1183,.str "function" 1184,.str "if" 1185,.str "in" 1186,.str "instanceof" 1187,.str "new" 1188,.str "return" 1189,.str "switch" 1190,.str "this" 1191,.str "throw" 1192,.str "try" 1193,.str "typeof" 1194,.str "var" 1195,.str "void" 1196,.str "while" 1197,.str "with" 1198,.str "class" 1199,.str "const" 1200,.str "enum" 1201,.str "export" 1202,.str "extends" 1203,.str "\x69mport" 1204,.str "super" 1205,.str "null" 1206,.str "true" 1207,.str "false" 1208] 0,#[]⟩,⟨.type "list",none,.seq #[.str ">>>=" 1210,.str "===" 1211,.str "!==" 1212,.str ">>>" 1213,.str "<<=" 1214,.str ">>=" 1215,.str "<=" 1216,.str ">=" 1217,.str "==" 1218,.str "!=" 1219,.str "++" 1220,.str "--" 1221,.str "<<" 1222,.str ">>" 1223,.str "&&" 1224,.str "||" 1225,.str "+=" 1226,.str "-=" 1227,.str "*=" 1228,.str "%=" 1229,.str "&=" 1230,.str "|=" 1231,.str "^=" 1232,.str "/=" 1233,.str "{" 1234,.str "}" 1235,.str "(" 1236,.str ")" 1237,.str "[" 1238,.str "]" 1239,.str "." 1240,.str ";" 1241,.str "," 1242,.str "<" 1243,.str ">" 1244,.str "+" 1245,.str "-" 1246,.str "*" 1247,.str "%" 1248,.str "&" 1249,.str "|" 1250,.str "^" 1251,.str "!" 1252,.str "~" 1253,.str "?" 1254,.str ":" 1255,.str "=" 1256,.str "/" 1257] 0,#[]⟩,⟨.type "list_iterator",none,.fields #[.none,.int (48) 0],#[]⟩,⟨.type "list",none,.seq #[.ref 590,.ref 591,.ref 592,.ref 593,.ref 594,.ref 595,.ref 596,.ref 597,.ref 598,.ref 599,.ref 600,.ref 601,.ref 602,.ref 603,.ref 604,.ref 605,.ref 606,.ref 607,.ref 608,.ref 609,.ref 610,.ref 611,.ref 612,.ref 613,.ref 614,.ref 615,.ref 616,.ref 617,.ref 618,.ref 619,.ref 620,.ref 621,.ref 622,.ref 623,.ref 624,.ref 625,.ref 626,.ref 627,.ref 628,.ref 629,.ref 630,.ref 631,.ref 632,.ref 633,.ref 634,.ref 635,.ref 636,.ref 637] 48,#[]⟩,⟨.type "dict",none,.dict #[] 2,#[]⟩,tp [.str ">>>=" 1210,.bool true],tp [.str "===" 1211,.bool true],tp [.str "!==" 1212,.bool true],tp [.str ">>>" 1213,.bool true],tp [.str "<<=" 1214,.bool true],tp [.str ">>=" 1215,.bool true],tp [.str "<=" 1216,.bool true],tp [.str ">=" 1217,.bool true],tp [.str "==" 1218,.bool true],tp [.str "!=" 1219,.bool true],tp [.str "++" 1220,.bool true],tp [.str "--" 1221,.bool true],tp [.str "<<" 1222,.bool true],tp [.str ">>" 1223,.bool true],tp [.str "&&" 1224,.bool true],tp [.str "||" 1225,.bool true],tp [.str "+=" 1226,.bool true],tp [.str "-=" 1227,.bool true],tp [.str "*=" 1228,.bool true],tp [.str "%=" 1229,.bool true],tp [.str "&=" 1230,.bool true],tp [.str "|=" 1231,.bool true],tp [.str "^=" 1232,.bool true],tp [.str "/=" 1233,.bool true],tp [.str "{" 1234,.bool true],tp [.str "}" 1235,.bool true],tp [.str "(" 1236,.bool true],tp [.str ")" 1237,.bool true],tp [.str "[" 1238,.bool true],tp [.str "]" 1239,.bool true],tp [.str "." 1240,.bool true],tp [.str ";" 1241,.bool true],tp [.str "," 1242,.bool true],tp [.str "<" 1243,.bool true],tp [.str ">" 1244,.bool true]]++([tp [.str "+" 1245,.bool true],tp [.str "-" 1246,.bool true],tp [.str "*" 1247,.bool true],tp [.str "%" 1248,.bool true],tp [.str "&" 1249,.bool true],tp [.str "|" 1250,.bool true],tp [.str "^" 1251,.bool true],tp [.str "!" 1252,.bool true],tp [.str "~" 1253,.bool true],tp [.str "?" 1254,.bool true],tp [.str ":" 1255,.bool true],tp [.str "=" 1256,.bool true],tp [.str "/" 1257,.bool true],tp [],⟨.type "StopIteration",none,.fields #[.ref 638,.none,.none,.none,.bool false,.none],#[]⟩,⟨.type "dict",none,.dict #[de P ">>>=" 1210 (.bool true),de P "===" 1211 (.bool true),de P "!==" 1212 (.bool true),de P ">>>" 1213 (.bool true),de P "<<=" 1214 (.bool true),de P ">>=" 1215 (.bool true),de P "<=" 1216 (.bool true),de P ">=" 1217 (.bool true),de P "==" 1218 (.bool true),de P "!=" 1219 (.bool true),de P "++" 1220 (.bool true),de P "--" 1221 (.bool true),de P "<<" 1222 (.bool true),de P ">>" 1223 (.bool true),de P "&&" 1224 (.bool true),de P "||" 1225 (.bool true),de P "+=" 1226 (.bool true),de P "-=" 1227 (.bool true),de P "*=" 1228 (.bool true),de P "%=" 1229 (.bool true),de P "&=" 1230 (.bool true),de P "|=" 1231 (.bool true),de P "^=" 1232 (.bool true),de P "/=" 1233 (.bool true),de P "{" 1234 (.bool true),de P "}" 1235 (.bool true),de P "(" 1236 (.bool true),de P ")" 1237 (.bool true),de P "[" 1238 (.bool true),de P "]" 1239 (.bool true),de P "." 1240 (.bool true),de P ";" 1241 (.bool true),de P "," 1242 (.bool true),de P "<" 1243 (.bool true),de P ">" 1244 (.bool true),de P "+" 1245 (.bool true),de P "-" 1246 (.bool true),de P "*" 1247 (.bool true),de P "%" 1248 (.bool true),de P "&" 1249 (.bool true),de P "|" 1250 (.bool true),de P "^" 1251 (.bool true),de P "!" 1252 (.bool true),de P "~" 1253 (.bool true),de P "?" 1254 (.bool true),de P ":" 1255 (.bool true),de P "=" 1256 (.bool true),de P "/" 1257 (.bool true)] 48,#[]⟩,tp (vs 1308 ["'list' object has no attribute 'keys'"]),⟨.type "AttributeError",none,.fields #[.ref 641,.none,.none,.none,.bool false,.none,.str "keys" 1309,.ref 588],#[]⟩,⟨.type "list_iterator",none,.fields #[.none,.int (48) 0],#[]⟩,tp [],⟨.type "StopIteration",none,.fields #[.ref 644,.none,.none,.none,.bool false,.none],#[]⟩,tp [],⟨.type "builtin_function_or_method",none,.fields #[.builtin "type.__prepare__",.type "type"],#[]⟩,⟨.type "dict",none,.dict #[de P "__module__" 1366 (.str "js.tokens" 1171),de P "__qualname__" 1368 (.str "Token" 1367),de P "__firstlineno__" 1370 (.int (518) 1369),de P "__init__" 1383 (.ref 659),de P "__static_attributes__" 1392 (.ref 660)] 5,#[]⟩,tp [],fl (wv [520,4,-658]),⟨.type "code",none,.fields #[.str "Token" 1361,.str "Token" 1362,.str "/claim/cut.py" 1363,.int (518) 0,.int (0) 0,.int (0) 0,.int (0) 0,.int (0) 0,.ref 649,.bool false,.int (181) 0,.ref 650,.none,.none,.none,.none,.int (1364) 0,.int (518) 0,.str "/claim/cut.py" 1365],#[]⟩,⟨.type "frame",none,.plain,#[some (.ref 651),some (.ref 3),some (.ref 648),none,some (.str "js.tokens" 1171),none,some (.ref 0)]⟩]++(gr 114 (some 0) "Token.__init__" 653 m8 1371 ["self","kind","value","line","is_behind_line","start","end"] 520 7 181 []++([tp (vs 1384 ["end","is_behind_line","is_octal","is_plain","kind","line","start","value"]),⟨.type "dict",none,.dict #[de P "__module__" 1366 (.str "js.tokens" 1171),de P "__firstlineno__" 1370 (.int (518) 1369),de P "__init__" 1383 (.ref 659),de P "__static_attributes__" 1392 (.ref 660),de P "__dict__" 1394 (.ref 663),de P "__weakref__" 1396 (.ref 664),de P "__doc__" 1397 .none] 4,#[]⟩,⟨.type "type",none,.cls ⟨"Token",[.type "object"],[.ref 662,.type "object"],661,"Token",true,[],[],false,none,false⟩,#[none,none,some (.str "Token" 1359),some (.str "Token" 1367),some (.builtin "object.__new__"),some (.bool true)]⟩,⟨.type "getset_descriptor",none,.fields #[.str "__dict__" 1393,.ref 662,.builtin "function.__dict__",.builtin "function.__dict__#set"],#[]⟩,⟨.type "getset_descriptor",none,.fields #[.str "__weakref__" 1395,.ref 662,.builtin "ExceptionGroup.__weakref__",.none],#[]⟩,⟨.type "super",none,.fields #[.ref 662,.ref 662,.ref 662],#[]⟩,⟨.type "builtin_function_or_method",none,.fields #[.builtin "object.__init_subclass__",.ref 662],#[]⟩]++(gf 115 667 m8 1400 ["word"] 529 1 181 []++(gf 116 674 m8 1407 ["text","at","size","piece"] 531 2 181 []++([tp [.type "Exception"],⟨.type "builtin_function_or_method",none,.fields #[.builtin "type.__prepare__",.type "type"],#[]⟩,⟨.type "dict",none,.dict #[de P "__module__" 1426 (.str "js.values" 1417),de P "__qualname__" 1428 (.str "SyntaxFail" 1427),de P "__firstlineno__" 1430 (.int (538) 1429),de P "__init__" 1439 (.ref 694),de P "__static_attributes__" 1442 (.ref 695)] 5,#[]⟩,tp [],fl (wv [540,4,-693]),⟨.type "code",none,.fields #[.str "SyntaxFail" 1421,.str "SyntaxFail" 1422,.str "/claim/cut.py" 1423,.int (538) 0,.int (0) 0,.int (0) 0,.int (0) 0,.int (0) 0,.ref 684,.bool false,.int (181) 0,.ref 685,.none,.none,.none,.none,.int (1424) 0,.int (538) 0,.str "/claim/cut.py" 1425],#[]⟩,⟨.type "frame",none,.plain,#[some (.ref 686),some (.ref 3),some (.ref 683),none,some (.str "js.values" 1417),none,some (.ref 0)]⟩]++(gr 118 (some 0) "SyntaxFail.__init__" 688 m9 1431 ["self","text","line"] 540 3 181 []++([tp (vs 1440 ["line","text"]),⟨.type "dict",none,.dict #[de P "__module__" 1426 (.str "js.values" 1417),de P "__firstlineno__" 1430 (.int (538) 1429),de P "__init__" 1439 (.ref 694),de P "__static_attributes__" 1442 (.ref 695),de P "__weakref__" 1444 (.ref 698),de P "__doc__" 1445 .none] 3,#[]⟩,⟨.type "type",none,.cls ⟨"SyntaxFail",[.type "Exception"],[.ref 697,.type "Exception",.type "BaseException",.type "object"],696,"SyntaxFail",true,[],[],false,none,false⟩,#[some (.ref 681),none,some (.str "SyntaxFail" 1419),some (.str "SyntaxFail" 1427),some (.builtin "Exception.__new__"),some (.bool true)]⟩,⟨.type "getset_descriptor",none,.fields #[.str "__weakref__" 1443,.ref 697,.builtin "ExceptionGroup.__weakref__",.none],#[]⟩,⟨.type "super",none,.fields #[.ref 697,.ref 697,.ref 697],#[]⟩,⟨.type "builtin_function_or_method",none,.fields #[.builtin "object.__init_subclass__",.ref 697],#[]⟩,tp [],⟨.type "builtin_function_or_method",none,.fields #[.builtin "type.__prepare__",.type "type"],#[]⟩,⟨.type "dict",none,.dict #[de P "__module__" 1459 (.str "js.lexer" 1450),de P "__qualname__" 1461 (.str "Lexer" 1460),de P "__firstlineno__" 1463 (.int (544) 1462),de P "__init__" 1471 (.ref 714),de P "next" 1482 (.ref 721),de P "fail" 1490 (.ref 728),de P "end_line" 1497 (.ref 735),de P "skip_blanks" 1506 (.ref 742),de P "skip_comment" 1513 (.ref 749),de P "name_sign" 1525 (.ref 756),de P "read_name" 1535 (.ref 763),de P "skip_digits" 1543 (.ref 770),de P "read_number" 1554 (.ref 777),de P "read_hex" 1563 (.ref 784),de P "read_octal" 1571 (.ref 791),de P "read_decimal" 1580 (.ref 798),de P "read_exponent" 1591 (.ref 805),de P "regex" 1602 (.ref 812),de P "regex_body" 1612 (.ref 819),de P "read_text" 1623 (.ref 826),de P "escaped" 1632 (.ref 833),de P "read_punct" 1641 (.ref 840),de P "__static_attributes__" 1645 (.ref 841)] 23,#[]⟩,tp [],fl (wv [546,4,-713,551,4,-720,568,4,-727,571,4,-734,575,4,-741,591,4,-748,602,4,-755,613,4,-762,624,4,-769,630,4,-776,644,4,-783,655,4,-790,662,4,-797,674,4,-804,688,4,-811,699,4,-818,715,4,-825,731,4,-832,742,4,-839]),⟨.type "code",none,.fields #[.str "Lexer" 1454,.str "Lexer" 1455,.str "/claim/cut.py" 1456,.int (544) 0,.int (0) 0,.int (0) 0,.int (0) 0,.int (0) 0,.ref 704,.bool false,.int (181) 0,.ref 705,.none,.none,.none,.none,.int (1457) 0,.int (544) 0,.str "/claim/cut.py" 1458],#[]⟩,⟨.type "frame",none,.plain,#[some (.ref 706),some (.ref 3),some (.ref 703),none,some (.str "js.lexer" 1450),none,some (.ref 0)]⟩]++(gr 120 (some 0) "Lexer.__init__" 708 iK 1464 ["self","text"] 546 2 181 []++(gr 120 (some 1) "Lexer.next" 715 iK 1472 ["self","is_behind_line","start","code","token"] 551 1 181 []++(gr 120 (some 2) "Lexer.fail" 722 iK 1483 ["self","text"] 568 2 181 []++(gr 120 (some 3) "Lexer.end_line" 729 iK 1491 ["self"] 571 1 181 []++(gr 120 (some 4) "Lexer.skip_blanks" 736 iK 1498 ["self","line","code"] 575 1 181 []++(gr 120 (some 5) "Lexer.skip_comment" 743 iK 1507 ["self"] 591 1 181 []++(gr 120 (some 6) "Lexer.name_sign" 750 iK 1514 ["self","is_first","code","behind","is_escape","is_right"] 602 2 181 []++(gr 120 (some 7) "Lexer.read_name" 757 iK 1526 ["self","token","found","told"] 613 2 181 []++(gr 120 (some 8) "Lexer.skip_digits" 764 iK 1536 ["self","start"] 624 1 181 []++(gr 120 (some 9) "Lexer.read_number" 771 iK 1544 ["self","token","ahead","sign","code"] 630 2 181 []++(gr 120 (some 10) "Lexer.read_hex" 778 iK 1555 ["self","value","many"] 644 1 181 []++(gr 120 (some 11) "Lexer.read_octal" 785 iK 1564 ["self","value"] 655 1 181 []++(gr 120 (some 12) "Lexer.read_decimal" 792 iK 1572 ["self","whole","part"] 662 1 181 []++(gr 120 (some 13) "Lexer.read_exponent" 799 iK 1581 ["self","sign","figures","shown","power"] 674 1 181 []++(gr 120 (some 14) "Lexer.regex" 806 iK 1592 ["self","token","body","start","found"] 688 2 181 []++(gr 120 (some 15) "Lexer.regex_body" 813 iK 1603 ["self","start","is_class","code"] 699 1 181 []++(gr 120 (some 16) "Lexer.read_text" 820 iK 1613 ["self","token","quote","found","code"] 715 3 181 []++(gr 120 (some 17) "Lexer.escaped" 827 iK 1624 ["self","token","told"] 731 2 181 []++(gr 120 (some 18) "Lexer.read_punct" 834 iK 1633 ["self","token","punct"] 742 2 181 []++([tp (vs 1642 ["at","line","text"]),⟨.type "dict",none,.dict #[de P "__module__" 1459 (.str "js.lexer" 1450),de P "__firstlineno__" 1463 (.int (544) 1462),de P "__init__" 1471 (.ref 714),de P "next" 1482 (.ref 721),de P "fail" 1490 (.ref 728),de P "end_line" 1497 (.ref 735),de P "skip_blanks" 1506 (.ref 742),de P "skip_comment" 1513 (.ref 749),de P "name_sign" 1525 (.ref 756),de P "read_name" 1535 (.ref 763),de P "skip_digits" 1543 (.ref 770),de P "read_number" 1554 (.ref 777),de P "read_hex" 1563 (.ref 784),de P "read_octal" 1571 (.ref 791),de P "read_decimal" 1580 (.ref 798),de P "read_exponent" 1591 (.ref 805),de P "regex" 1602 (.ref 812),de P "regex_body" 1612 (.ref 819),de P "read_text" 1623 (.ref 826),de P "escaped" 1632 (.ref 833),de P "read_punct" 1641 (.ref 840),de P "__static_attributes__" 1645 (.ref 841),de P "__dict__" 1647 (.ref 844),de P "__weakref__" 1649 (.ref 845),de P "__doc__" 1650 .none] 4,#[]⟩,⟨.type "type",none,.cls ⟨"Lexer",[.type "object"],[.ref 843,.type "object"],842,"Lexer",true,[],[],false,none,false⟩,#[none,none,some (.str "Lexer" 1452),some (.str "Lexer" 1460),some (.builtin "object.__new__"),some (.bool true)]⟩,⟨.type "getset_descriptor",none,.fields #[.str "__dict__" 1646,.ref 843,.builtin "function.__dict__",.builtin "function.__dict__#set"],#[]⟩,⟨.type "getset_descriptor",none,.fields #[.str "__weakref__" 1648,.ref 843,.builtin "ExceptionGroup.__weakref__",.none],#[]⟩,⟨.type "super",none,.fields #[.ref 843,.ref 843,.ref 843],#[]⟩,⟨.type "builtin_function_or_method",none,.fields #[.builtin "object.__init_subclass__",.ref 843],#[]⟩,tp (vs 1655 ["implements","interface","let","package","private","protected","public","static","yield"]),tp (vs 1665 ["arguments","eval"]),tp (vs 1668 ["Name","Member","Index"])]++(gf 125 851 lX 1672 ["name","is_strict"] 753 2 181 []++(gf 126 858 lX 1680 ["name","is_strict"] 757 2 181 []++(gf 127 865 lX 1688 ["names","seen","name"] 761 1 181 []++(gf 128 872 lX 1697 ["name","params","is_strict","word","fault","twice"] 768 3 181 []++(gf 129 879 lX 1709 ["kind","name","is_strict"] 777 3 181 []++(gf 130 886 lX 1718 ["kind","is_strict"] 781 2 181 []++(gf 131 893 lX 1726 ["is_octal","is_strict"] 783 2 181 []++(gf 132 900 lX 1734 ["known","sort","key","is_strict","sorts"] 785 4 181 []++(gf 133 907 lX 1745 ["sort","params","wanted"] 795 2 181 []++([tp [],⟨.type "builtin_function_or_method",none,.fields #[.builtin "type.__prepare__",.type "type"],#[]⟩,⟨.type "dict",none,.dict #[de P "__module__" 1761 (.str "js.strictness" 1653),de P "__qualname__" 1763 (.str "Jumps" 1762),de P "__firstlineno__" 1765 (.int (798) 1764),de P "__init__" 1772 (.ref 927),de P "label_fault" 1778 (.ref 932),de P "break_fault" 1784 (.ref 937),de P "continue_fault" 1790 (.ref 942),de P "__static_attributes__" 1794 (.ref 943)] 8,#[]⟩,tp [],fl (wv [800,4,-926,805,4,-931,808,4,-936,813,4,-941]),⟨.type "code",none,.fields #[.str "Jumps" 1756,.str "Jumps" 1757,.str "/claim/cut.py" 1758,.int (798) 0,.int (0) 0,.int (0) 0,.int (0) 0,.int (0) 0,.ref 917,.bool false,.int (181) 0,.ref 918,.none,.none,.none,.none,.int (1759) 0,.int (798) 0,.str "/claim/cut.py" 1760],#[]⟩,⟨.type "frame",none,.plain,#[some (.ref 919),some (.ref 3),some (.ref 916),none,some (.str "js.strictness" 1653),none,some (.ref 0)]⟩])))))))))))))))))))))))))))))))))))))))))))))))))))))))))))
noncomputable def RS (P:Params):List Obj:=gr 134 (some 0) "Jumps.__init__" 921 lX 1766 ["self"] 800 1 181 []++(gr 134 (some 1) "Jumps.label_fault" 928 lX 1773 [] 805 2 181 []++(gr 134 (some 2) "Jumps.break_fault" 933 lX 1779 [] 808 2 181 []++(gr 134 (some 3) "Jumps.continue_fault" 938 lX 1785 [] 813 2 181 []++([tp (vs 1791 ["labels","loops","switches"]),⟨.type "dict",none,.dict #[de P "__module__" 1761 (.str "js.strictness" 1653),de P "__firstlineno__" 1765 (.int (798) 1764),de P "__init__" 1772 (.ref 927),de P "label_fault" 1778 (.ref 932),de P "break_fault" 1784 (.ref 937),de P "continue_fault" 1790 (.ref 942),de P "__static_attributes__" 1794 (.ref 943),de P "__dict__" 1796 (.ref 946),de P "__weakref__" 1798 (.ref 947),de P "__doc__" 1799 .none] 4,#[]⟩,⟨.type "type",none,.cls ⟨"Jumps",[.type "object"],[.ref 945,.type "object"],944,"Jumps",true,[],[],false,none,false⟩,#[none,none,some (.str "Jumps" 1754),some (.str "Jumps" 1762),some (.builtin "object.__new__"),some (.bool true)]⟩,⟨.type "getset_descriptor",none,.fields #[.str "__dict__" 1795,.ref 945,.builtin "function.__dict__",.builtin "function.__dict__#set"],#[]⟩,⟨.type "getset_descriptor",none,.fields #[.str "__weakref__" 1797,.ref 945,.builtin "ExceptionGroup.__weakref__",.none],#[]⟩,⟨.type "super",none,.fields #[.ref 945,.ref 945,.ref 945],#[]⟩,⟨.type "builtin_function_or_method",none,.fields #[.builtin "object.__init_subclass__",.ref 945],#[]⟩,tp [],⟨.type "builtin_function_or_method",none,.fields #[.builtin "type.__prepare__",.type "type"],#[]⟩,⟨.type "dict",none,.dict #[de P "__module__" 1815 (.str "js.parse_base" 1802),de P "__qualname__" 1817 (.str "TokenTaker" 1816),de P "__firstlineno__" 1819 (.int (822) 1818),de P "__init__" 1827 (.ref 963),de P "take" 1835 (.ref 970),de P "peek" 1842 (.ref 977),de P "is_sign" 1850 (.ref 984),de P "is_word" 1858 (.ref 991),de P "eat" 1866 (.ref 998),de P "need" 1874 (.ref 1005),de P "need_word" 1882 (.ref 1012),de P "fail" 1890 (.ref 1019),de P "fail_for" 1898 (.ref 1026),de P "unexpected" 1905 (.ref 1033),de P "go_in" 1912 (.ref 1040),de P "go_out" 1919 (.ref 1047),de P "need_name" 1926 (.ref 1054),de P "need_binding" 1933 (.ref 1061),de P "property_name" 1940 (.ref 1068),de P "can_end" 1947 (.ref 1075),de P "end_statement" 1954 (.ref 1082),de P "__static_attributes__" 1963 (.ref 1083)] 22,#[]⟩,tp [],fl (wv [824,4,-962,834,4,-969,843,4,-976,848,4,-983,851,4,-990,854,4,-997,860,4,-1004,864,4,-1011,869,4,-1018,872,4,-1025,876,4,-1032,879,4,-1039,884,4,-1046,887,4,-1053,893,4,-1060,899,4,-1067,904,4,-1074,907,4,-1081]),⟨.type "code",none,.fields #[.str "TokenTaker" 1810,.str "TokenTaker" 1811,.str "/claim/cut.py" 1812,.int (822) 0,.int (0) 0,.int (0) 0,.int (0) 0,.int (0) 0,.ref 953,.bool false,.int (181) 0,.ref 954,.none,.none,.none,.none,.int (1813) 0,.int (822) 0,.str "/claim/cut.py" 1814],#[]⟩,⟨.type "frame",none,.plain,#[some (.ref 955),some (.ref 3),some (.ref 952),none,some (.str "js.parse_base" 1802),none,some (.ref 0)]⟩]++(gr 138 (some 0) "TokenTaker.__init__" 957 iQ 1820 ["self","text"] 824 2 181 []++(gr 138 (some 1) "TokenTaker.take" 964 iQ 1828 ["self","taken"] 834 1 181 []++(gr 138 (some 2) "TokenTaker.peek" 971 iQ 1836 ["self"] 843 1 181 []++(gr 138 (some 3) "TokenTaker.is_sign" 978 iQ 1843 ["self","sign"] 848 2 181 []++(gr 138 (some 4) "TokenTaker.is_word" 985 iQ 1851 ["self","word"] 851 2 181 []++(gr 138 (some 5) "TokenTaker.eat" 992 iQ 1859 ["self","sign"] 854 2 181 []++(gr 138 (some 6) "TokenTaker.need" 999 iQ 1867 ["self","sign"] 860 2 181 []++(gr 138 (some 7) "TokenTaker.need_word" 1006 iQ 1875 ["self","word"] 864 2 181 []++(gr 138 (some 8) "TokenTaker.fail" 1013 iQ 1883 ["self","text"] 869 2 181 []++(gr 138 (some 9) "TokenTaker.fail_for" 1020 iQ 1891 ["self","fault"] 872 2 181 []++(gr 138 (some 10) "TokenTaker.unexpected" 1027 iQ 1899 ["self"] 876 1 181 []++(gr 138 (some 11) "TokenTaker.go_in" 1034 iQ 1906 ["self"] 879 1 181 []++(gr 138 (some 12) "TokenTaker.go_out" 1041 iQ 1913 ["self"] 884 1 181 []++(gr 138 (some 13) "TokenTaker.need_name" 1048 iQ 1920 ["self"] 887 1 181 []++(gr 138 (some 14) "TokenTaker.need_binding" 1055 iQ 1927 ["self"] 893 1 181 []++(gr 138 (some 15) "TokenTaker.property_name" 1062 iQ 1934 ["self"] 899 1 181 []++(gr 138 (some 16) "TokenTaker.can_end" 1069 iQ 1941 ["self"] 904 1 181 []++(gr 138 (some 17) "TokenTaker.end_statement" 1076 iQ 1948 ["self"] 907 1 181 []++([tp (vs 1955 ["depth","is_strict","jumps","later","lexer","nested","pending","token"]),⟨.type "dict",none,.dict #[de P "__module__" 1815 (.str "js.parse_base" 1802),de P "__firstlineno__" 1819 (.int (822) 1818),de P "__init__" 1827 (.ref 963),de P "take" 1835 (.ref 970),de P "peek" 1842 (.ref 977),de P "is_sign" 1850 (.ref 984),de P "is_word" 1858 (.ref 991),de P "eat" 1866 (.ref 998),de P "need" 1874 (.ref 1005),de P "need_word" 1882 (.ref 1012),de P "fail" 1890 (.ref 1019),de P "fail_for" 1898 (.ref 1026),de P "unexpected" 1905 (.ref 1033),de P "go_in" 1912 (.ref 1040),de P "go_out" 1919 (.ref 1047),de P "need_name" 1926 (.ref 1054),de P "need_binding" 1933 (.ref 1061),de P "property_name" 1940 (.ref 1068),de P "can_end" 1947 (.ref 1075),de P "end_statement" 1954 (.ref 1082),de P "__static_attributes__" 1963 (.ref 1083),de P "__dict__" 1965 (.ref 1086),de P "__weakref__" 1967 (.ref 1087),de P "__doc__" 1968 .none] 4,#[]⟩,⟨.type "type",none,.cls ⟨"TokenTaker",[.type "object"],[.ref 1085,.type "object"],1084,"TokenTaker",true,[],[.ref 1231],false,none,false⟩,#[none,none,some (.str "TokenTaker" 1808),some (.str "TokenTaker" 1816),some (.builtin "object.__new__"),some (.bool true)]⟩,⟨.type "getset_descriptor",none,.fields #[.str "__dict__" 1964,.ref 1085,.builtin "function.__dict__",.builtin "function.__dict__#set"],#[]⟩,⟨.type "getset_descriptor",none,.fields #[.str "__weakref__" 1966,.ref 1085,.builtin "ExceptionGroup.__weakref__",.none],#[]⟩,⟨.type "super",none,.fields #[.ref 1085,.ref 1085,.ref 1085],#[]⟩,⟨.type "builtin_function_or_method",none,.fields #[.builtin "object.__init_subclass__",.ref 1085],#[]⟩,⟨.type "dict",none,.dict #[de P "||" 1973 (.int (1) 1974),de P "&&" 1976 (.int (2) 1977),de P "|" 1979 (.int (3) 1980),de P "^" 1982 (.int (4) 1983),de P "&" 1985 (.int (5) 1986),de P "==" 1988 (.int (6) 1989),de P "!=" 1991 (.int (6) 1992),de P "===" 1994 (.int (6) 1995),de P "!==" 1997 (.int (6) 1998),de P "<" 2000 (.int (7) 2001),de P ">" 2003 (.int (7) 2004),de P "<=" 2006 (.int (7) 2007),de P ">=" 2009 (.int (7) 2010),de P "instanceof" 2012 (.int (7) 2013),de P "in" 2015 (.int (7) 2016),de P "<<" 2018 (.int (8) 2019),de P ">>" 2021 (.int (8) 2022),de P ">>>" 2024 (.int (8) 2025),de P "+" 2026 (.int (9) 2027),de P "-" 2028 (.int (9) 2029),de P "*" 2030 (.int (10) 2031),de P "/" 2032 (.int (10) 2033),de P "%" 2034 (.int (10) 2035)] 23,#[]⟩,⟨.type "dict",none,.dict #[de P ">>>" 2024 (.int (8) 2025),de P "+" 2026 (.int (9) 2027),de P "-" 2028 (.int (9) 2029),de P "*" 2030 (.int (10) 2031),de P "/" 2032 (.int (10) 2033),de P "%" 2034 (.int (10) 2035)] 6,#[]⟩,tp (vs 2043 ["=","+=","-=","*=","/=","%=","<<=",">>=",">>>=","&=","^=","|="]),tp (vs 2056 ["-","+","!","~"]),tp (vs 2061 ["typeof","void","delete"]),tp (vs 2065 ["++","--"]),tp (wv [-1085]),⟨.type "builtin_function_or_method",none,.fields #[.builtin "type.__prepare__",.type "type"],#[]⟩,⟨.type "dict",none,.dict #[de P "__module__" 2075 (.str "js.parse_expr" 1971),de P "__qualname__" 2077 (.str "ExprParser" 2076),de P "__firstlineno__" 2079 (.int (916) 2078),de P "function" 2087 (.ref 1109),de P "expression" 2097 (.ref 1116),de P "assignment" 2107 (.ref 1123),de P "need_target" 2115 (.ref 1130),de P "conditional" 2125 (.ref 1137),de P "priority" 2133 (.ref 1144),de P "binary" 2146 (.ref 1151),de P "unary" 2158 (.ref 1158),de P "operand_behind" 2166 (.ref 1165),de P "postfix" 2174 (.ref 1172),de P "left_hand" 2182 (.ref 1179),de P "with_members" 2191 (.ref 1186),de P "creation" 2200 (.ref 1193),de P "arguments" 2208 (.ref 1200),de P "primary" 2217 (.ref 1207),de P "word_operand" 2225 (.ref 1214),de P "array" 2234 (.ref 1221),de P "object" 2241 (.ref 1228),de P "__static_attributes__" 2243 (.ref 1229)] 22,#[]⟩,tp [],fl (wv [918,4,-1108,921,4,-1115,930,4,-1122,940,4,-1129,943,4,-1136,951,4,-1143,958,4,-1150,967,4,-1157,982,4,-1164,989,4,-1171,996,4,-1178,1002,4,-1185,1012,4,-1192,1019,4,-1199,1031,4,-1206,1054,4,-1213,1068,4,-1220,1081,4,-1227]),⟨.type "code",none,.fields #[.str "ExprParser" 2070,.str "ExprParser" 2071,.str "/claim/cut.py" 2072,.int (916) 0,.int (0) 0,.int (0) 0,.int (0) 0,.int (0) 0,.ref 1099,.bool false,.int (181) 0,.ref 1100,.none,.none,.none,.none,.int (2073) 0,.int (916) 0,.str "/claim/cut.py" 2074],#[]⟩,⟨.type "frame",none,.plain,#[some (.ref 1101),some (.ref 3),some (.ref 1098),none,some (.str "js.parse_expr" 1971),none,some (.ref 0)]⟩]++(gr 145 (some 0) "ExprParser.function" 1103 gH 2080 ["self","sort"] 918 2 181 []++(gr 145 (some 1) "ExprParser.expression" 1110 gH 2088 ["self","can_in","first","found"] 921 2 181 []++(gr 145 (some 2) "ExprParser.assignment" 1117 gH 2098 ["self","can_in","found","op"] 930 2 181 []++(gr 145 (some 3) "ExprParser.need_target" 1124 gH 2108 ["self","node"] 940 2 181 []++(gr 145 (some 4) "ExprParser.conditional" 1131 gH 2116 ["self","can_in","test","then"] 943 2 181 []++(gr 145 (some 5) "ExprParser.priority" 1138 gH 2126 ["self","can_in"] 951 2 181 []++(gr 145 (some 6) "ExprParser.binary" 1145 gH 2134 ["self","least","can_in","left","strength","op","right"] 958 3 181 []++(gr 145 (some 7) "ExprParser.unary" 1152 gH 2147 ["self","token","target","is_sign","is_word","operand"] 967 1 181 []++(gr 145 (some 8) "ExprParser.operand_behind" 1159 gH 2159 ["self","found"] 982 1 181 []++(gr 145 (some 9) "ExprParser.postfix" 1166 gH 2167 ["self","node"] 989 1 181 []++(gr 145 (some 10) "ExprParser.left_hand" 1173 gH 2175 ["self","node"] 996 1 181 []++(gr 145 (some 11) "ExprParser.with_members" 1180 gH 2183 ["self","node","key"] 1002 2 181 []++(gr 145 (some 12) "ExprParser.creation" 1187 gH 2192 ["self","line","made"] 1012 1 181 []++(gr 145 (some 13) "ExprParser.arguments" 1194 gH 2201 ["self","found"] 1019 1 181 []++(gr 145 (some 14) "ExprParser.primary" 1201 gH 2209 ["self","token","found"] 1031 1 181 []++(gr 145 (some 15) "ExprParser.word_operand" 1208 gH 2218 ["self","token"] 1054 1 181 []++(gr 145 (some 16) "ExprParser.array" 1215 gH 2226 ["self","line","found"] 1068 1 181 []++(gr 145 (some 17) "ExprParser.object" 1222 gH 2235 ["self"] 1081 1 181 []++([tp (vs 2242 ["token"]),⟨.type "dict",none,.dict #[de P "__module__" 2075 (.str "js.parse_expr" 1971),de P "__firstlineno__" 2079 (.int (916) 2078),de P "function" 2087 (.ref 1109),de P "expression" 2097 (.ref 1116),de P "assignment" 2107 (.ref 1123),de P "need_target" 2115 (.ref 1130),de P "conditional" 2125 (.ref 1137),de P "priority" 2133 (.ref 1144),de P "binary" 2146 (.ref 1151),de P "unary" 2158 (.ref 1158),de P "operand_behind" 2166 (.ref 1165),de P "postfix" 2174 (.ref 1172),de P "left_hand" 2182 (.ref 1179),de P "with_members" 2191 (.ref 1186),de P "creation" 2200 (.ref 1193),de P "arguments" 2208 (.ref 1200),de P "primary" 2217 (.ref 1207),de P "word_operand" 2225 (.ref 1214),de P "array" 2234 (.ref 1221),de P "object" 2241 (.ref 1228),de P "__static_attributes__" 2243 (.ref 1229),de P "__doc__" 2244 .none] 2,#[]⟩,⟨.type "type",none,.cls ⟨"ExprParser",[.ref 1085],[.ref 1231,.ref 1085,.type "object"],1230,"ExprParser",true,[],[.ref 1332],false,none,false⟩,#[some (.ref 1096),none,some (.str "ExprParser" 2068),some (.str "ExprParser" 2076),some (.builtin "object.__new__"),some (.bool true)]⟩,⟨.type "super",none,.fields #[.ref 1231,.ref 1231,.ref 1231],#[]⟩,⟨.type "builtin_function_or_method",none,.fields #[.builtin "object.__init_subclass__",.ref 1231],#[]⟩,tp (wv [-1231]),⟨.type "builtin_function_or_method",none,.fields #[.builtin "type.__prepare__",.type "type"],#[]⟩,⟨.type "dict",none,.dict #[de P "__module__" 2256 (.str "js.parse_simple" 2247),de P "__qualname__" 2258 (.str "SimpleParser" 2257),de P "__firstlineno__" 2260 (.int (1084) 2259),de P "body" 2266 (.ref 1245),de P "at_end" 2274 (.ref 1252),de P "element" 2281 (.ref 1259),de P "statement" 2289 (.ref 1266),de P "bare_statement" 2299 (.ref 1273),de P "plain_expression" 2308 (.ref 1280),de P "word_statement" 2319 (.ref 1287),de P "large_statement" 2329 (.ref 1294),de P "block" 2337 (.ref 1301),de P "variables" 2347 (.ref 1308),de P "labelled" 2359 (.ref 1315),de P "jump" 2369 (.ref 1322),de P "leaving" 2379 (.ref 1329),de P "__static_attributes__" 2382 (.ref 1330)] 17,#[]⟩,tp [],fl (wv [1086,4,-1244,1105,4,-1251,1108,4,-1258,1114,4,-1265,1120,4,-1272,1135,4,-1279,1141,4,-1286,1162,4,-1293,1165,4,-1300,1173,4,-1307,1181,4,-1314,1193,4,-1321,1202,4,-1328]),⟨.type "code",none,.fields #[.str "SimpleParser" 2251,.str "SimpleParser" 2252,.str "/claim/cut.py" 2253,.int (1084) 0,.int (0) 0,.int (0) 0,.int (0) 0,.int (0) 0,.ref 1237,.bool false,.int (181) 0,.ref 1238,.none,.none,.none,.none,.int (2254) 0,.int (1084) 0,.str "/claim/cut.py" 2255],#[]⟩,⟨.type "frame",none,.plain,#[some (.ref 1239),some (.ref 3),some (.ref 1236),none,some (.str "js.parse_simple" 2247),none,some (.ref 0)]⟩]++(gr 147 (some 0) "SimpleParser.body" 1241 mU 2261 [] 1086 2 181 []++(gr 147 (some 1) "SimpleParser.at_end" 1246 mU 2267 ["self","is_end"] 1105 2 181 []++(gr 147 (some 2) "SimpleParser.element" 1253 mU 2275 ["self"] 1108 1 181 []++(gr 147 (some 3) "SimpleParser.statement" 1260 mU 2282 ["self","found"] 1114 1 181 []++(gr 147 (some 4) "SimpleParser.bare_statement" 1267 mU 2290 ["self","token","pending","later"] 1120 1 181 []++(gr 147 (some 5) "SimpleParser.plain_expression" 1274 mU 2300 ["self","line","found"] 1135 1 181 []++(gr 147 (some 6) "SimpleParser.word_statement" 1281 mU 2309 ["self","word","pending","line","found"] 1141 3 181 []++(gr 147 (some 7) "SimpleParser.large_statement" 1288 mU 2320 ["self","word","line","pending"] 1162 4 181 []++(gr 147 (some 8) "SimpleParser.block" 1295 mU 2330 ["self","found"] 1165 1 181 []++(gr 147 (some 9) "SimpleParser.variables" 1302 mU 2338 ["self","can_in","found","name"] 1173 2 181 []++(gr 147 (some 10) "SimpleParser.labelled" 1309 mU 2348 ["self","pending","line","name","label","found"] 1181 2 181 []++(gr 147 (some 11) "SimpleParser.jump" 1316 mU 2360 ["self","word","line","name"] 1193 3 181 []++(gr 147 (some 12) "SimpleParser.leaving" 1323 mU 2370 ["self","word","line","found"] 1202 3 181 []++([tp (vs 2380 ["is_strict","pending"]),⟨.type "dict",none,.dict #[de P "__module__" 2256 (.str "js.parse_simple" 2247),de P "__firstlineno__" 2260 (.int (1084) 2259),de P "body" 2266 (.ref 1245),de P "at_end" 2274 (.ref 1252),de P "element" 2281 (.ref 1259),de P "statement" 2289 (.ref 1266),de P "bare_statement" 2299 (.ref 1273),de P "plain_expression" 2308 (.ref 1280),de P "word_statement" 2319 (.ref 1287),de P "large_statement" 2329 (.ref 1294),de P "block" 2337 (.ref 1301),de P "variables" 2347 (.ref 1308),de P "labelled" 2359 (.ref 1315),de P "jump" 2369 (.ref 1322),de P "leaving" 2379 (.ref 1329),de P "__static_attributes__" 2382 (.ref 1330),de P "__doc__" 2383 .none] 2,#[]⟩,⟨.type "type",none,.cls ⟨"SimpleParser",[.ref 1231],[.ref 1332,.ref 1231,.ref 1085,.type "object"],1331,"SimpleParser",true,[],[.ref 1386],false,none,false⟩,#[some (.ref 1234),none,some (.str "SimpleParser" 2249),some (.str "SimpleParser" 2257),some (.builtin "object.__new__"),some (.bool true)]⟩,⟨.type "super",none,.fields #[.ref 1332,.ref 1332,.ref 1332],#[]⟩,⟨.type "builtin_function_or_method",none,.fields #[.builtin "object.__init_subclass__",.ref 1332],#[]⟩,tp (wv [-1332]),⟨.type "builtin_function_or_method",none,.fields #[.builtin "type.__prepare__",.type "type"],#[]⟩,⟨.type "dict",none,.dict #[de P "__module__" 2395 (.str "js.parse_literal" 2386),de P "__qualname__" 2397 (.str "LiteralParser" 2396),de P "__firstlineno__" 2399 (.int (1215) 2398),de P "object" 2410 (.ref 1348),de P "entry" 2421 (.ref 1355),de P "entry_key" 2429 (.ref 1362),de P "function" 2444 (.ref 1369),de P "function_name" 2452 (.ref 1376),de P "parameters" 2460 (.ref 1383),de P "__static_attributes__" 2464 (.ref 1384)] 10,#[]⟩,tp [],fl (wv [1217,4,-1347,1229,4,-1354,1243,4,-1361,1251,4,-1368,1267,4,-1375,1272,4,-1382]),⟨.type "code",none,.fields #[.str "LiteralParser" 2390,.str "LiteralParser" 2391,.str "/claim/cut.py" 2392,.int (1215) 0,.int (0) 0,.int (0) 0,.int (0) 0,.int (0) 0,.ref 1338,.bool false,.int (181) 0,.ref 1339,.none,.none,.none,.none,.int (2393) 0,.int (1215) 0,.str "/claim/cut.py" 2394],#[]⟩,⟨.type "frame",none,.plain,#[some (.ref 1340),some (.ref 3),some (.ref 1337),none,some (.str "js.parse_literal" 2386),none,some (.ref 0)]⟩]++(gr 149 (some 0) "LiteralParser.object" 1342 zO 2400 ["self","line","found","known","entry"] 1217 1 181 []++(gr 149 (some 1) "LiteralParser.entry" 1349 zO 2411 ["self","word","later","key","made"] 1229 1 181 []++(gr 149 (some 2) "LiteralParser.entry_key" 1356 zO 2422 ["self","token"] 1243 1 181 [])))))))))))))))))))))))))))))))))))))))))))))))))))))))))))
noncomputable def Qx (P:Params):List Obj:=gr 149 (some 3) "LiteralParser.function" 1363 zO 2430 ["self","sort","line","is_strict","jumps","name","params","found","made"] 1251 2 181 []++(gr 149 (some 4) "LiteralParser.function_name" 1370 zO 2445 ["self","sort"] 1267 2 181 []++(gr 149 (some 5) "LiteralParser.parameters" 1377 zO 2453 ["self","found"] 1272 1 181 []++([tp (vs 2461 ["depth","is_strict","jumps"]),⟨.type "dict",none,.dict #[de P "__module__" 2395 (.str "js.parse_literal" 2386),de P "__firstlineno__" 2399 (.int (1215) 2398),de P "object" 2410 (.ref 1348),de P "entry" 2421 (.ref 1355),de P "entry_key" 2429 (.ref 1362),de P "function" 2444 (.ref 1369),de P "function_name" 2452 (.ref 1376),de P "parameters" 2460 (.ref 1383),de P "__static_attributes__" 2464 (.ref 1384),de P "__doc__" 2465 .none] 2,#[]⟩,⟨.type "type",none,.cls ⟨"LiteralParser",[.ref 1332],[.ref 1386,.ref 1332,.ref 1231,.ref 1085,.type "object"],1385,"LiteralParser",true,[],[.ref 1469],false,none,false⟩,#[some (.ref 1335),none,some (.str "LiteralParser" 2388),some (.str "LiteralParser" 2396),some (.builtin "object.__new__"),some (.bool true)]⟩,⟨.type "super",none,.fields #[.ref 1386,.ref 1386,.ref 1386],#[]⟩,⟨.type "builtin_function_or_method",none,.fields #[.builtin "object.__init_subclass__",.ref 1386],#[]⟩,tp (vs 2470 ["do","while","for"]),tp (wv [-1386]),⟨.type "builtin_function_or_method",none,.fields #[.builtin "type.__prepare__",.type "type"],#[]⟩,⟨.type "dict",none,.dict #[de P "__module__" 2481 (.str "js.parse_stmt" 2468),de P "__qualname__" 2483 (.str "StmtParser" 2482),de P "__firstlineno__" 2485 (.int (1283) 2484),de P "large_statement" 2495 (.ref 1403),de P "condition" 2503 (.ref 1410),de P "choice" 2514 (.ref 1417),de P "loop" 2527 (.ref 1424),de P "loop_body" 2535 (.ref 1431),de P "for_loop" 2548 (.ref 1438),de P "key_loop" 2558 (.ref 1445),de P "switch" 2570 (.ref 1452),de P "case_body" 2578 (.ref 1459),de P "attempt" 2590 (.ref 1466),de P "__static_attributes__" 2591 (.ref 1467)] 14,#[]⟩,tp [],fl (wv [1285,4,-1402,1294,4,-1409,1300,4,-1416,1309,4,-1423,1324,4,-1430,1330,4,-1437,1351,4,-1444,1357,4,-1451,1379,4,-1458,1385,4,-1465]),⟨.type "code",none,.fields #[.str "StmtParser" 2476,.str "StmtParser" 2477,.str "/claim/cut.py" 2478,.int (1283) 0,.int (0) 0,.int (0) 0,.int (0) 0,.int (0) 0,.ref 1393,.bool false,.int (181) 0,.ref 1394,.none,.none,.none,.none,.int (2479) 0,.int (1283) 0,.str "/claim/cut.py" 2480],#[]⟩,⟨.type "frame",none,.plain,#[some (.ref 1395),some (.ref 3),some (.ref 1392),none,some (.str "js.parse_stmt" 2468),none,some (.ref 0)]⟩]++(gr 152 (some 0) "StmtParser.large_statement" 1397 pH 2486 ["self","word","line","pending"] 1285 4 181 []++(gr 152 (some 1) "StmtParser.condition" 1404 pH 2496 ["self","found"] 1294 1 181 []++(gr 152 (some 2) "StmtParser.choice" 1411 pH 2504 ["self","line","test","then","other"] 1300 2 181 []++(gr 152 (some 3) "StmtParser.loop" 1418 pH 2515 ["self","word","line","pending","label","test","body"] 1309 4 181 []++(gr 152 (some 4) "StmtParser.loop_body" 1425 pH 2528 ["self","found"] 1324 1 181 []++(gr 152 (some 5) "StmtParser.for_loop" 1432 pH 2536 ["self","line","first","begin","name","test","step"] 1330 2 181 []++(gr 152 (some 6) "StmtParser.key_loop" 1439 pH 2549 ["self","line","target","walked"] 1351 3 181 []++(gr 152 (some 7) "StmtParser.switch" 1446 pH 2559 ["self","line","value","found","has_default","test"] 1357 2 181 []++(gr 152 (some 8) "StmtParser.case_body" 1453 pH 2571 ["self","found"] 1379 1 181 []++(gr 152 (some 9) "StmtParser.attempt" 1460 pH 2579 ["self","line","block","name","caught","last"] 1385 2 181 []++([tp [],⟨.type "dict",none,.dict #[de P "__module__" 2481 (.str "js.parse_stmt" 2468),de P "__firstlineno__" 2485 (.int (1283) 2484),de P "large_statement" 2495 (.ref 1403),de P "condition" 2503 (.ref 1410),de P "choice" 2514 (.ref 1417),de P "loop" 2527 (.ref 1424),de P "loop_body" 2535 (.ref 1431),de P "for_loop" 2548 (.ref 1438),de P "key_loop" 2558 (.ref 1445),de P "switch" 2570 (.ref 1452),de P "case_body" 2578 (.ref 1459),de P "attempt" 2590 (.ref 1466),de P "__static_attributes__" 2591 (.ref 1467),de P "__doc__" 2592 .none] 2,#[]⟩,⟨.type "type",none,.cls ⟨"StmtParser",[.ref 1386],[.ref 1469,.ref 1386,.ref 1332,.ref 1231,.ref 1085,.type "object"],1468,"StmtParser",true,[],[],false,none,false⟩,#[some (.ref 1390),none,some (.str "StmtParser" 2474),some (.str "StmtParser" 2482),some (.builtin "object.__new__"),some (.bool true)]⟩,⟨.type "super",none,.fields #[.ref 1469,.ref 1469,.ref 1469],#[]⟩,⟨.type "builtin_function_or_method",none,.fields #[.builtin "object.__init_subclass__",.ref 1469],#[]⟩]++(gf 154 1472 Ra 2597 ["text","reader","body"] 1402 1 181 []++([tp [.str "({}) + " 2608,.str ";" 2609,.int (2) 2610],tp [.str "({}).a = " 2611,.str ";" 2612,.int (3) 2613],tp [.str "(function () {}).call(this, " 2614,.str ");" 2615,.int (3) 2616],tp [.str "({})[" 2617,.str "];" 2618,.int (3) 2619],tp [.str "({}), " 2620,.str ";" 2621,.int (2) 2622],tp [.str "(function () {}) ? " 2623,.str " : 0;" 2624,.int (3) 2625],tp [.str "({}).a(1)(" 2626,.str ");" 2627,.int (3) 2628],tp [.str "(function f() {})() || " 2629,.str ";" 2630,.int (2) 2631],tp [.str "({}).a++, " 2632,.str ";" 2633,.int (2) 2634],tp (wv [-1479,-1480,-1481,-1482,-1483,-1484,-1485,-1486,-1487]),tp [.str "0" 2636,.int (0) 2637],tp [.str "function () {\"use\\x20strict\";}" 2638,.int (3) 2639],tp [.str "function () {(\"use strict\"); \"use strict\";}" 2640,.int (4) 2641],tp [.str "function g() {({}) + 1;}" 2642,.int (4) 2643],tp [.str "new (f().a)(1)" 2644,.int (2) 2645],tp [.str "new (new (f().a)().b)()" 2646,.int (4) 2647],tp [.str "function () {(function () {}).a;}" 2648,.int (5) 2649],tp [.str "new (f())[[0]]()" 2650,.int (3) 2651],tp (wv [-1489,-1490,-1491,-1492,-1493,-1494,-1495,-1496]),tp (vs 2653 ["\"use\\x20strict\";","(\"use strict\");","\"use strict\";","\"a\";","a;"])]++(gf 159 1499 Cq 2659 ["pen","many"] 1410 2 181 []++(gf 160 1506 Cq 2667 ["text"] 1415 1 181 []++(gf 161 1513 Cq 2674 ["rows","row"] 1420 1 181 []++(gf 162 1520 Cq 2682 [] 1427 1 181 []))))))))))))))))))))
noncomputable def nO (P:Params):List Obj:=Rl P++(RW P++(RS P++(Qx P)))
noncomputable def Oj (l:List Obj):Bool→List Obj:=@List.rec Obj (fun _=>Bool→List Obj) (fun _=>[]) (fun x _ k b=>@Bool.rec (fun _=>List Obj) (k true) (x::k false) b) l
noncomputable def Rf (n:Nat):List Obj→BT:=@Nat.rec (fun _=>List Obj→BT) (fun _=>.nil) (fun _ k l=>@List.rec Obj (fun _=>BT) .nil (fun x r _=>.node x (k (Oj r true)) (k (Oj r false))) l) n
noncomputable def LL (l:List Obj):BT:=Rf 12 l
noncomputable def SF (P:Params) (os:OsState):SharedT:=⟨LL (nO P),1525,(boot_heap P).life,#[],boot_drawn,2688,os⟩
end Mine
end
section
namespace Mine
noncomputable def SA (P:Params) (os:OsState):Shared:=⟨⟨(nO P).toArray,(boot_heap P).life⟩,#[],boot_drawn,2688,os⟩
theorem Jl (P:Params) (os:OsState):(staticsOk (importedModules pw.main.body) (boot_heap P) (SA P os).heap&&namesBound pw (SA P os).heap&&gensDone (SA P os)&&laidKept (boot_heap P) (SA P os).heap)=true:=by kernel_rfl
theorem KU (P:Params) (os:OsState):openSeen qv v6 (importedModules pw.main.body) (fun _=>true) true (SA P os)=openGood qv v6:=by
 rw[PySem.W.Fast.te4187177175401517315]
 kernel_rfl
end Mine
end
section
namespace Mine
noncomputable def sL:Nat→List Obj→List Addr→Frag
 | _,[],_=>[]
 | _,_::_,[]=>[]
 | i,o::os,a::as=>match Nat.beq a i with
  | true=>(a,o)::sL (i + 1) os as
  | false=>sL (i + 1) os (a::as)
noncomputable def MC:List Addr:=[0,1,2,3,27,28,30,31,41,42,46,47,53,54,60,61,62,63,64,65,66,67,68,69,70,71,72,73,74,75,76,77,78,79,80,81,82,83,84,85,86,87,88,89,90,91,92,93,94,95,96,97,98,99,100,101,102,103,109,110,116,117,123,124,130,131,137,138,144,145,151,152,158,159,165,166,172,173,179,180,186,187,193,194,200,201,207,208,214,215,221,222,228,229,235,236,242,243,249,250,256,257,263,264,270,271,277,278,284,285,291,292,298,299,305,306,312,313,319,320,321,322,328,334,335,341,342,346,347,353,354,360,361,367,368,369,370,371,372,373,374,375,381,382,386,387,391,392,398,399,403,404,410,411,417,418,424,425,429,430,436,437,443,444,448,449,455,456,460,461,467,468,474,475,481,482,488,489,495,496,502,503,507,508,512,513,519,520,526,527,528,534,535,541,542,548,549,555,556,562,563,569,570,576,577,583,584,585,586,640,658,659,661,662,672,673,679,680,693,694,696,697,713,714,720,721,727,728,734,735,741,742,748,749,755,756,762,763,769,770,776,777,783,784,790,791,797,798,804,805,811,812,818,819,825,826,832,833,839,840,842,843,848,849,850,856,857,863,864,870,871,877,878,884,885,891,892,898,899,905,906,912,913,926,927,931,932,936,937,941,942,944,945,962,963,969,970,976,977,983,984,990,991,997,998,1004,1005,1011,1012,1018,1019,1025,1026,1032,1033,1039,1040,1046,1047,1053,1054,1060,1061,1067,1068,1074,1075,1081,1082,1084,1085,1090,1092,1093,1094,1095,1108,1109,1115,1116,1122,1123,1129,1130,1136,1137,1143,1144,1150,1151,1157,1158,1164,1165,1171,1172,1178,1179,1185,1186,1192,1193,1199,1200,1206,1207,1213,1214,1220,1221,1227,1228,1230,1231,1244,1245,1251,1252,1258,1259,1265,1266,1272,1273,1279,1280,1286,1287,1293,1294,1300,1301,1307,1308,1314,1315,1321,1322,1328,1329,1331,1332,1347,1348,1354,1355,1361,1362,1368,1369,1375,1376,1382,1383,1385,1386,1389,1402,1403,1409,1410,1416,1417,1423,1424,1430,1431,1437,1438,1444,1445,1451,1452,1458,1459,1465,1466,1468,1469,1477,1478,1479,1480,1481,1482,1483,1484,1485,1486,1487,1488,1489,1490,1491,1492,1493,1494,1495,1496,1497,1498,1504,1505,1511,1512,1518,1519,1523,1524]
noncomputable def KF (P:Params):Frag:=sL 0 (nO P) MC
theorem Ni (P:Params):EW (KF P) TT=some ():=by kernel_rfl
theorem MP (P:Params):AZ (KF P) TT=some ():=by kernel_rfl
theorem Mb (P:Params):(keepIn (KF P) (.ref TT.fail),ktsIn (KF P) TT.fail "BaseException",nsIn (KF P) mainGlobals "law")=(true,true,some (some (.ref 1524))):=by kernel_rfl
theorem Mk (P:Params):Bi (KF P) TT=BF TT:=by kernel_rfl
theorem NB (P:Params):((mS (KF P) TT.glob).isSome,(mS (KF P) TT.glob).map (fun l=>l.map (·.1)))=(true,(mS (KF P) TT.glob).map (fun l=>l.map (fun p=>PyData.keyHash P p.2))):=by kernel_rfl
end Mine
end
section
namespace Mine
noncomputable def w2 (w:World) (b c:Bool):World:=(w.withFollow "comprehension-iter-twice" b).withFollow "special-get-raises" c
end Mine
end
section
namespace Mine
structure iT where
 i:Nat
 n:Nat
 m:Nat
 f:Nat
 t:Nat
 v:Value
 p:Pos
 b:Bool
 c:Bool
noncomputable def oM (m:Nat) (v:Value):Obj→Obj
 | ⟨c,d,.dict ⟨e::l⟩ _,S⟩=>⟨c,d,.dict ⟨{ e with val:=v }::l.take (m - 1)⟩ m,S⟩
 | o=>o
noncomputable def oF (f:Nat):Obj→Obj
 | ⟨c,d,.fields ⟨l⟩,S⟩=>⟨c,d,.fields ⟨l.take f⟩,S⟩
 | o=>o
noncomputable def oS:Obj→Obj
 | ⟨c,d,.cls q,S⟩=>⟨c,d,.cls { q with subclasses:=[] },S⟩
 | o=>o
noncomputable def SK (x:iT) (P:Params) (os:OsState):SharedT :=
 let l:=(((nO P).take x.n).modify 3 (oM x.m x.v)).modify 12 (oF x.f)
 let l:=bif x.b then l.modify 2 (fun _=>⟨.none,none,.dict #[] 0,#[]⟩) else l
 ⟨LL (bif x.c then l.modify 1085 oS else l),x.n,(boot_heap P).life,#[],boot_drawn,x.t,os⟩
noncomputable def BB:List Stmt:=behindTheImports pw
noncomputable def EN:Env:={ scope:=pw.main.scope,locals:=mainNs,globals:=mainNs,cells:=[],code:=.ref 13,frame:=some 14 }
abbrev tF:List Frame:=[topFrame ⟨0,0,0,0⟩]
noncomputable def Sg (x y:iT) (w:World):Prop:=∀ os,segRunT treeTable pw w 11 (some (.ref 6)) 1 5000 (SK x w.params os) (piecesOf ((BB.drop x.i).take (y.i - x.i)) EN (.body BB EN) x.p tF)=some (.next,SK y w.params os,.body BB EN,y.p)
noncomputable def k0:iT:=⟨0,15,9,0,187,(.str "__main__" 164),⟨0,0,0,0⟩,true,false⟩
noncomputable def k1:iT:=⟨47,265,52,84,585,m3,⟨157,0,161,82⟩,true,false⟩
noncomputable def k2:iT:=⟨97,528,104,198,1063,m5,⟨445,0,446,56⟩,true,false⟩
noncomputable def k3:iT:=⟨99,528,105,198,1066,m6,⟨448,0,448,8⟩,true,false⟩
noncomputable def k4:iT:=⟨100,529,106,198,1085,m6,⟨449,0,449,6⟩,true,false⟩
noncomputable def k5:iT:=⟨113,587,117,222,1259,m8,⟨516,0,516,6⟩,true,false⟩
noncomputable def k6:iT:=⟨114,646,118,222,1359,m8,⟨517,0,517,11⟩,true,false⟩
noncomputable def k7:iT:=⟨126,858,127,240,1680,lX,⟨753,0,756,15⟩,false,false⟩
noncomputable def k8:iT:=⟨138,950,138,267,1808,iQ,⟨821,0,821,11⟩,false,false⟩
noncomputable def k9:iT:=⟨140,1090,139,270,1973,gH,⟨910,0,910,8⟩,false,true⟩
noncomputable def yC:iT:=⟨141,1092,140,270,2043,gH,⟨911,0,911,8⟩,false,true⟩
noncomputable def HO:iT:=⟨145,1096,144,270,2068,gH,⟨915,0,915,5⟩,false,true⟩
noncomputable def HA:iT:=⟨153,1472,149,282,2595,pH,⟨1283,0,1400,61⟩,false,false⟩
noncomputable def kE:iT:=⟨163,1525,157,297,2688,Cq,⟨1427,0,1440,127⟩,false,false⟩
theorem g0 (w:World):Sg k0 k1 w:=by
 unfold Sg piecesOf
 intro os
 rw[PySem.W.Fast.te10110043849684766642,PySem.W.Fast.te14364793385576792824,PySem.W.Fast.te12563942051412417395]
 kernel_rfl
theorem Rv (w:World):Sg k1 k2 (w.withFollow "special-get-raises" false):=by
 unfold Sg piecesOf
 intro os
 rw[PySem.W.Fast.te10110043849684766642,PySem.W.Fast.te14364793385576792824,PySem.W.Fast.te12563942051412417395]
 kernel_rfl
theorem Rt (w:World):Sg k1 k2 (w.withFollow "special-get-raises" true):=by
 unfold Sg piecesOf
 intro os
 rw[PySem.W.Fast.te10110043849684766642,PySem.W.Fast.te14364793385576792824,PySem.W.Fast.te12563942051412417395]
 kernel_rfl
theorem g1 (w:World):Sg k1 k2 w:=byRow2 "special-get-raises" (P:=Sg k1 k2) Rv Rt w
theorem g2 (w:World):Sg k2 k3 w:=by
 unfold Sg piecesOf
 intro os
 rw[PySem.W.Fast.te10110043849684766642,PySem.W.Fast.te14364793385576792824,PySem.W.Fast.te12563942051412417395]
 kernel_rfl
theorem SC (w:World):Sg k3 k4 (w.withFollow "special-get-raises" false):=by
 unfold Sg piecesOf
 intro os
 rw[PySem.W.Fast.te10110043849684766642,PySem.W.Fast.te14364793385576792824,PySem.W.Fast.te12563942051412417395]
 kernel_rfl
theorem Qq (w:World):Sg k3 k4 (w.withFollow "special-get-raises" true):=by
 unfold Sg piecesOf
 intro os
 rw[PySem.W.Fast.te10110043849684766642,PySem.W.Fast.te14364793385576792824,PySem.W.Fast.te12563942051412417395]
 kernel_rfl
theorem g3 (w:World):Sg k3 k4 w:=byRow2 "special-get-raises" (P:=Sg k3 k4) SC Qq w
theorem g4 (w:World):Sg k4 k5 w:=by
 unfold Sg piecesOf
 intro os
 rw[PySem.W.Fast.te10110043849684766642,PySem.W.Fast.te14364793385576792824,PySem.W.Fast.te12563942051412417395]
 kernel_rfl
theorem PL (w:World):Sg k5 k6 ((w.withFollow "special-get-raises" false).withFollow "comprehension-iter-twice" false):=by
 unfold Sg piecesOf
 intro os
 rw[PySem.W.Fast.te10110043849684766642,PySem.W.Fast.te14364793385576792824,PySem.W.Fast.te12563942051412417395]
 kernel_rfl
theorem PH (w:World):Sg k5 k6 ((w.withFollow "special-get-raises" false).withFollow "comprehension-iter-twice" true):=by
 unfold Sg piecesOf
 intro os
 rw[PySem.W.Fast.te10110043849684766642,PySem.W.Fast.te14364793385576792824,PySem.W.Fast.te12563942051412417395]
 kernel_rfl
theorem Ox (w:World):Sg k5 k6 ((w.withFollow "special-get-raises" true).withFollow "comprehension-iter-twice" false):=by
 unfold Sg piecesOf
 intro os
 rw[PySem.W.Fast.te10110043849684766642,PySem.W.Fast.te14364793385576792824,PySem.W.Fast.te12563942051412417395]
 kernel_rfl
theorem Px (w:World):Sg k5 k6 ((w.withFollow "special-get-raises" true).withFollow "comprehension-iter-twice" true):=by
 unfold Sg piecesOf
 intro os
 rw[PySem.W.Fast.te10110043849684766642,PySem.W.Fast.te14364793385576792824,PySem.W.Fast.te12563942051412417395]
 kernel_rfl
theorem g5 (w:World):Sg k5 k6 w:=byRow2 "comprehension-iter-twice" (P:=Sg k5 k6) (byRow2 "special-get-raises" (P:=fun w=>Sg k5 k6 (w.withFollow "comprehension-iter-twice" false)) PL Ox) (byRow2 "special-get-raises" (P:=fun w=>Sg k5 k6 (w.withFollow "comprehension-iter-twice" true)) PH Px) w
theorem g6 (w:World):Sg k6 k7 w:=by
 unfold Sg piecesOf
 intro os
 rw[PySem.W.Fast.te10110043849684766642,PySem.W.Fast.te14364793385576792824,PySem.W.Fast.te12563942051412417395]
 kernel_rfl
theorem g7 (w:World):Sg k7 k8 w:=by
 unfold Sg piecesOf
 intro os
 rw[PySem.W.Fast.te10110043849684766642,PySem.W.Fast.te14364793385576792824,PySem.W.Fast.te12563942051412417395]
 kernel_rfl
theorem g8 (w:World):Sg k8 k9 w:=by
 unfold Sg piecesOf
 intro os
 rw[PySem.W.Fast.te10110043849684766642,PySem.W.Fast.te14364793385576792824,PySem.W.Fast.te12563942051412417395]
 kernel_rfl
theorem QQ (w:World):Sg k9 yC (w.withFollow "special-get-raises" false):=by
 unfold Sg piecesOf
 intro os
 rw[PySem.W.Fast.te10110043849684766642,PySem.W.Fast.te14364793385576792824,PySem.W.Fast.te12563942051412417395]
 kernel_rfl
theorem Rg (w:World):Sg k9 yC (w.withFollow "special-get-raises" true):=by
 unfold Sg piecesOf
 intro os
 rw[PySem.W.Fast.te10110043849684766642,PySem.W.Fast.te14364793385576792824,PySem.W.Fast.te12563942051412417395]
 kernel_rfl
theorem g9 (w:World):Sg k9 yC w:=byRow2 "special-get-raises" (P:=Sg k9 yC) QQ Rg w
theorem OL (w:World):Sg yC HO w:=by
 unfold Sg piecesOf
 intro os
 rw[PySem.W.Fast.te10110043849684766642,PySem.W.Fast.te14364793385576792824,PySem.W.Fast.te12563942051412417395]
 kernel_rfl
theorem OR (w:World):Sg HO HA w:=by
 unfold Sg piecesOf
 intro os
 rw[PySem.W.Fast.te10110043849684766642,PySem.W.Fast.te14364793385576792824,PySem.W.Fast.te12563942051412417395]
 kernel_rfl
theorem Oe (w:World):Sg HA kE w:=by
 unfold Sg piecesOf
 intro os
 rw[PySem.W.Fast.te10110043849684766642,PySem.W.Fast.te14364793385576792824,PySem.W.Fast.te12563942051412417395]
 kernel_rfl
end Mine
end
section
namespace Mine
theorem P5:(sreFenced pw.main&&((moduleNames pw.main.body).isEmpty||lookedIntoSs (moduleNames pw.main.body) pw.main.body))=true:=by kernel_rfl
end Mine
end
section
namespace Mine
abbrev qA (f:Scope→Str→Bool):TablesWhole.Alg Bool:=⟨fun sc n _=>f sc n,fun _ _ _ _=>true,fun _=>true,true,false,fun a b=>a&&b⟩
theorem Gd {f:Scope→Str→Bool} (h:dP (qA f) 0 138) (h':dP (qA f) 138 30) (e:(pw.main.body.drop (0 + 138 + 30)).isEmpty=true):TablesWhole.wModule (qA f) pw.main=true :=
 Gh rfl rfl (fun _=>rfl) (fun _ _ _=>rfl) (kF rfl h (kF rfl h' (DJ rfl e)))
theorem wP:(pw.main.body.drop (0 + 138 + 30)).isEmpty=true:=by kernel_rfl
theorem MQ:dP (qA fun _ n=>attrL n) 0 138:=by unfold dP;rw[PySem.W.Fast.te16421684217811934046];kernel_rfl
theorem Ml:dP (qA fun _ n=>attrL n) 138 30:=by unfold dP;rw[PySem.W.Fast.te16421684217811934046];kernel_rfl
theorem H9 {f:Scope→Str→Bool} (h:TablesWhole.wModule (qA f) pw.main=true):namesMeet pw pw.main.body f=true:=h
theorem QE:namesMeet pw pw.main.body (fun _ n=>attrL n)=true:=H9 (Gd MQ Ml wP)
end Mine
end
section
namespace Mine
noncomputable def Oc (sc:Scope) (n:Str):Bool:=match sc.names.lookup n with
  | some .globalImplicit | some .globalExplicit=>pw.boundNames.contains n||n == ("__name__" : Str)||n == ("__debug__" : Str)||(builtinNamed n&&!worldNames.contains n&&!n.opensWith "__")
  | _=>true
theorem NC:dP (qA Oc) 0 138:=by unfold dP;rw[PySem.W.Fast.te16421684217811934046];kernel_rfl
theorem Nr:dP (qA Oc) 138 30:=by unfold dP;rw[PySem.W.Fast.te16421684217811934046];kernel_rfl
theorem Pe:namesResolve pw=true:=Gd NC Nr wP
end Mine
end
section
namespace Mine
theorem PO:pw.boundNames.all (fun n=>!worldNames.contains n)=true:=by kernel_rfl
end Mine
end
section
namespace Mine
theorem QC:readsOut pw pw.main.body "vars" = false:=by rw[PySem.W.Fast.te13343964577679436407];kernel_rfl
theorem PB:readsOut pw pw.main.body "dir" = false:=by rw[PySem.W.Fast.te13343964577679436407];kernel_rfl
theorem Py:readsOut pw pw.main.body "locals" = false:=by rw[PySem.W.Fast.te13343964577679436407];kernel_rfl
theorem Nx:(["vars","dir","locals"]:List Str).filter (readsOut pw pw.main.body)=[]:=by
 rw[List.filter_cons_of_neg (by rw[QC];exact nofun),List.filter_cons_of_neg (by rw[PB];exact nofun),List.filter_cons_of_neg (by rw[Py];exact nofun),List.filter_nil]
theorem ND:(!(importedModules pw.main.body).all cThrough.contains)=false:=by kernel_rfl
theorem QH:noRoadLSs { strict:=!(importedModules pw.main.body).all cThrough.contains,foot:=none,bare:=(["vars","dir","locals"]:List Str).filter (readsOut pw pw.main.body) } pw.main.body=true:=by rw[Nx,ND,PySem.W.Fast.te8326940854005059898];kernel_rfl
end Mine
end
section
namespace Mine
theorem II:noRoadLSs { strict:=true,foot:=some lw.bound',writes:=lw.writes,may:=lw.may } lw.footing=true:=by rw[PySem.W.Fast.te8326940854005059898];kernel_rfl
end Mine
end
section
namespace Mine
theorem Eo:namesMeet lw.prog lw.footing (fun sc n=>(!(["type","isinstance","issubclass","getattr","hasattr"]:List Str).contains n||sc.names.lookup n == some .globalImplicit)&&(lw.may != some n||sc.kind == .module||sc.names.lookup n == some .globalImplicit))=true:=by rw[PySem.W.Fast.te17119622794617984870];kernel_rfl
end Mine
end
section
namespace Mine
theorem FA:namesMeet lw.prog lw.above (fun _ n=>!lw.own.contains n)=true:=by rw[PySem.W.Fast.te17119622794617984870];kernel_rfl
end Mine
end
section
namespace Mine
theorem EU:namesMeet lw.prog lw.footing (fun sc n=>sc.kind == .module||sc.names.lookup n != some .globalExplicit)=true:=by rw[PySem.W.Fast.te17119622794617984870];kernel_rfl
end Mine
end
section
namespace Mine
noncomputable def jA:List WData→Option (List Int)
 | []=>some []
 | .int i::r=>match jA r with
  | some l=>some (i::l)
  | none=>none
 | _::_=>none
theorem Km {R:WRecords}{d:WData} (h:WShape.has R d .int=true):∃ i,d=.int i:=by
 cases d with
 | int i=>exact⟨i,rfl⟩
 | _=>exact nk6 h
theorem zM {R:WRecords}:∀ {xs:List WData},WShape.hasItems R xs .int=true→∃ l,jA xs=some l
 | [],_=>⟨[],rfl⟩
 | d::r,h=>by
  unfold WShape.hasItems at h
  obtain⟨h1,h2⟩:=Bool.and_eq_true_iff.1 h
  obtain⟨l,e⟩:=zM h2
  obtain⟨i,rfl⟩:=Km h1
  exact⟨i::l,by show(match jA r with | some l=>some (i::l) | none=>none)=_;rw[e]⟩
theorem D9 {xs:List WData}:∀ {l:List Int},jA xs=some l→l.length=xs.length:=by
 induction xs with
 | nil=>intro l e;cases e;rfl
 | cons d r ih =>
  intro l e
  cases d with
  | int i =>
   replace e:(match jA r with | some l=>some (i::l) | none=>none)=some l:=e
   cases e2:jA r with
   | none=>rw[e2]at e;exact nk3 e
   | some l'=>rw[e2]at e;cases e;exact congrArg (· + 1) (ih e2)
  | _=>exact nk3 e
theorem IF {w:World}{B:PM}{P:Params}{h:Heap}{xs:List WData}:∀ {vs:List Value}{l:List Int},WellAll P h vs xs→jA xs=some l→aQ w B vs (l.map .int):=by
 induction xs with
 | nil=>intro vs l hw e;cases hw;cases e;exact .nil
 | cons d r ih =>
  intro vs l hw e
  cases d with
  | int i =>
   replace e:(match jA r with | some l=>some (i::l) | none=>none)=some l:=e
   cases e2:jA r with
   | none=>rw[e2]at e;exact nk3 e
   | some l' =>
    rw[e2]at e;cases e
    cases hw with
    | cons h1 h2=>cases h1;exact .cons (.int _ _) (ih h2 e2)
  | _=>exact nk3 e
theorem Ef {args:List WData} (h:lw.row.toRowW.claim.pre args=true):∃ xs l,args=[.list xs]∧jA xs=some l∧l.length ≤ 63:=by
 have h:(WShape.hasAll [] args [.list .int]&&lw.row.pre.holds [] { args:=args })=true:=h
 obtain⟨h1,h2⟩:=Bool.and_eq_true_iff.1 h
 match args,h1,h2 with
 | [],h1,_=>exact nk6 h1
 | _::_::_,h1,_=>exact nk6 ((Bool.and_false _).symm.trans h1)
 | [d],h1,h2 =>
  have h1:WShape.has [] d (.list .int)=true:=(Bool.and_eq_true_iff.1 h1).1
  have:∃ xs,d=.list xs:=by
   cases d with
   | list xs=>exact⟨xs,rfl⟩
   | _=>exact nk6 h1
  obtain⟨xs,rfl⟩:=this
  have h3:WShape.hasItems [] xs .int=true:=(Bool.or_false _).symm.trans h1
  obtain⟨l,e⟩:=zM h3
  refine⟨xs,l,rfl,e,?_⟩
  rw[D9 e]
  have h2:WTm.holds [] (.and (.not (.lt (.lit (.int 63)) (.len (.arg 0)))) (.lit (.bool true))) { args:=[.list xs] }=true:=h2
  by_cases hx:xs.length ≤ 63
  ·exact hx
  ·exfalso
   have:(63:Int) < xs.length:=by omega
   have e1:PySem.W.less? (.int 63) (.int xs.length)=some true:=by
    show some (decide ((63:Int) < (xs.length:Int)))=_
    rw[decide_eq_true this]
   revert h2
   simp[WTm.holds,WTm.value,e1]
end Mine
end
section
namespace Mine
noncomputable def HR (w:World) (h:Heap):Prop:=∃ K:Frag,K.In h∧iW w K TT∧nsIn K mainGlobals "law" = some (some (.ref 1524))
theorem DM (w:World) (h h':Heap) (y:HR w h) (k:∀ b o,h.get? b=some o→h'.get? b=some o):HR w h':=by
 obtain⟨K,a,b,c⟩:=y
 exact⟨K,a.keeps k,b,c⟩
theorem Hb:dd.1.name = "law" := defOf_name Ji
noncomputable def Pr (l:List Int):FI × List (Str × PV) × List (Str × PV):=(wW 1524,[(Str.ofString "script",.f (.lst (l.map .int)))],[])
theorem LE (l:List Int):i0 TT 1524 ([FV.lst (l.map .int)].map .f) []=some (Pr l):=by kernel_rfl
theorem IR {l:List Int} (h:l.length ≤ 63):cG TT (run TT 5000 219) 5000 1524 ([FV.lst (l.map .int)].map .f) []=.ok (.f (.bool true),[]):=C7 l h 0
theorem ES:WalkO qv v6 (fun _ _=>True) HR lw.row.toRowW dd.1 dd.2 (fun f vs=>PySem.call f vs):=by
 intro w s₀ s₁ mg mb G Y a o pm cd doc dV kV h1 h2 h3 h4 hmg hg args vals as hpre hlay hrd hwl hlo
 obtain⟨K,KI,Bs,hK⟩:=Y
 obtain⟨xs,l,rfl,hi,hlen⟩:=Ef hpre
 have ha:mg "law" = some (.ref 1524):=mg_of KI G.T.g hK
 rw[Hb]at hmg
 have ea:a=1524:=by
  have:=hmg.symm.trans ha
  injection this with this
  injection this
 subst ea
 cases hwl with
 | cons hw hn =>
  cases hn
  cases hw with
  | @list b vs _ hget hws =>
   let B:PM:=fun x=>if x=b then some { cls:=.type "list",data:=.seq vs.toArray } else K.lookup x
   have hB:∀ x o,B x=some o→s₁.heap.get? x=some o:=fun x o e=>by
    by_cases hx:x=b
    ·subst hx
     have e:some _=some o:=(if_pos rfl).symm.trans e
     rw[hget];exact e
    ·exact KI x o ((if_neg hx).symm.trans e)
   have hKB:∀ x o,K.lookup x=some o→B x=some o:=fun x o e=>by
    by_cases hx:x=b
    ·subst hx
     have:=KI _ _ e
     rw[hget]at this
     exact(if_pos rfl).trans this
    ·exact(if_neg hx).trans e
   have ps:aQ w B [.ref b] [.lst (l.map .int)]:=.cons (.lst (n:=0) (if_pos rfl) (IF hws hi)) .nil
   refine C0 Bs (n:=219) (m:=5000) (A:=callerA) rfl rfl (by decide +kernel) (by decide +kernel) hB hKB ps (LE l) (by kernel_rfl) (by kernel_rfl) (IR hlen) (fun s' hs hgr=>?_)
   refine GoodW.toG ⟨.inl ⟨.bool true,.bool true,[],rfl,fun cls=>rfl,.bool true,?_,fun _=>⟨.nil,fun a h=>nomatch h⟩⟩,hgr,hs.2,hs.1.trans hg⟩
   show(WShape.has [] (.bool true) .bool&&WTm.holds [] (.eq .res (.lit (.bool true))) { args:=[.list xs],res:=some (.bool true),after:=[.list xs] })=true
   simp[WShape.has,WShape.arms,WTm.holds,WTm.value,same]
end Mine
end
section
namespace Mine
theorem FU (w:World):(importEnds treeTable (opening pw) w 65030 (start (opening pw)).1 (start (opening pw)).2).map (fun s=>(s.heap,s.gens,s.drawn,s.toks))=some (boot_heap w.params,#[],boot_drawn,boot_toks):=by
 rw[PySem.W.Fast.te10274390034422433532,PySem.W.Fast.te14364793385576792824,PySem.W.Fast.te1435165496053646825]
 kernel_rfl
noncomputable def Tp (x:iT) (w:World) (os:OsState) (N:Nat):Prop:=topRun treeTable pw w 11 (some (.ref 6)) N (SK x w.params os).abs (restOf (BB.drop x.i) EN (.body BB EN) x.p tF)=some (SA w.params os)
theorem eT {x y:iT}{w:World}{N:Nat}{os:OsState} (h:Sg x y w) (hi:x.i ≤ y.i) (k:Tp y w os N):Tp x w os (5000 + N):=by
 have k:=piece_app (segRun_of (h os)) k
 have e:=List.take_append_drop (y.i - x.i) (BB.drop x.i)
 rw[List.drop_drop,Nat.add_sub_cancel' hi]at e
 rwa [e]at k
theorem KS (P:Params) (os:OsState):(SK kE P os).abs=SA P os:=by kernel_rfl
theorem Kg (w:World) (os:OsState):Tp kE w os 9:=by
 unfold Tp
 rw[show BB.drop kE.i=[] by kernel_rfl,KS]
 exact piece_nil (by kernel_rfl)
theorem L1 (w:World) (os:OsState):segRunT treeTable pw w 11 (some (.ref 6)) 1 9 (SK k0 w.params os) (blockOf BB EN (.body BB EN) ⟨0,0,0,0⟩ tF)=some (.next,SK k0 w.params os,.body BB EN,⟨0,0,0,0⟩):=by
 rw[PySem.W.Fast.te10110043849684766642,PySem.W.Fast.te14364793385576792824]
 kernel_rfl
theorem KH (w:World) (os:OsState):topGo treeTable pw w 11 (some (.ref 6)) 12 ⟨boot_heap w.params,#[],boot_drawn,boot_toks,os⟩ (topStub pw)=some ((SK k0 w.params os).abs,⟨denote treeTable (.body BB EN),.body BB EN,⟨0,0,0,0⟩,tF⟩):=by
 rw[PySem.W.Fast.te15667345088766844465,PySem.W.Fast.te14364793385576792824,PySem.W.Fast.te11892475500146522536]
 kernel_rfl
theorem Jv (w:World) (os:OsState):topRun treeTable pw w 11 (some (Value.ref 6)) 65030 ⟨boot_heap w.params,#[],boot_drawn,boot_toks,os⟩ (topStub pw)=some (SA w.params os):=by
 have h:=eT (g0 w) (by decide) (eT (g1 w) (by decide) (eT (g2 w) (by decide) (eT (g3 w) (by decide) (eT (g4 w) (by decide) (eT (g5 w) (by decide) (eT (g6 w) (by decide) (eT (g7 w) (by decide) (eT (g8 w) (by decide) (eT (g9 w) (by decide) (eT (OL w) (by decide) (eT (OR w) (by decide) (eT (Oe w) (by decide) (Kg w os)))))))))))))
 unfold Tp at h
 rw[show BB.drop k0.i=BB from List.drop_zero]at h
 exact go_top (KH w os) (piece_block (segRun_of (L1 w os)) h)
theorem B2 {tb:String→Option Builtin}{p:Program}{w:World}{N n:Nat}{s s':Shared}{ann:Option Value} (z:(s.heap.isNs mainGlobals&&s.gens.size == 0,s.heap.objs.size,s.heap.nsMap mainGlobals "__annotations__")=(true,n,ann))
  (h:topRun tb p w n ann N s (topStub p)=some s') (l:(staticsOk (importedModules p.main.body) s.heap s'.heap&&namesBound p s'.heap&&gensDone s'&&laidKept s.heap s'.heap)=true):topFrom tb p w N s=some s':=by
 simp only[Prod.mk.injEq]at z
 obtain⟨z1,rfl,rfl⟩:=z
 unfold topFrom
 rw[z1]
 simp only[h,Option.bind_some,l]
theorem Ov (w:World) (os:OsState):topFrom treeTable pw w 65030 ⟨boot_heap w.params,#[],boot_drawn,boot_toks,os⟩=some (SA w.params os):=B2 (IQ w.params) (Jv w os) (Jl w.params os)
theorem I2:LeftO pw qv v6 (fun _=>true) (fun s=>s.heap) (fun w=>(⟨(nO w.params).toArray,(boot_heap w.params).life⟩:Heap)) 65030:=fun w=>by
 obtain⟨⟨h,gs,d,k,os⟩,e,e'⟩:=Option.map_eq_some_iff.mp (FU w)
 obtain⟨rfl,rfl,rfl,rfl⟩:h=boot_heap w.params∧gs = #[]∧d=boot_drawn∧k=boot_toks:=by simpa using e'
 have f1:fencedOpening treeTable pw w 65030=some ⟨boot_heap w.params,#[],boot_drawn,boot_toks,os⟩:=by
  unfold fencedOpening
  rw[e,Option.bind_some]
  exact F2 _
 have f2:openEnds treeTable pw w 65030=some (SA w.params os):=by
  unfold openEnds
  rw[f1,Option.bind_some]
  exact Ov w os
 rw[f2]
 exact congrArg some (Prod.ext (KU w.params os) rfl)
end Mine
end
section
namespace Mine
theorem IJ (P:Params):nsIn (KF P) mainGlobals "law" = some (some (.ref 1524)):=by kernel_rfl
theorem IG (w:World):iW w (KF w.params) TT:=by
 obtain⟨h3,h⟩:=Prod.mk.inj (Mb w.params)
 obtain⟨h4,_⟩:=Prod.mk.inj h
 obtain⟨hs,hc⟩:=Prod.mk.inj (NB w.params)
 obtain⟨o,ho⟩:=Option.isSome_iff_exists.mp hs
 rw[ho]at hc
 have hc:o.map (·.1)=o.map (fun p=>PyData.keyHash w.params p.2):=Option.some.inj hc
 exact Eg (Ni _) ho (fun p hp=>Ci hc hp) (Mk w.params) (MP _) h3 h4
theorem rN:∀ (l:List Obj) (i:Nat) (as:List Nat) (a:Nat) (o:Obj),(sL i l as).lookup a=some o→i ≤ a∧l[a - i]? = some o
 | [],i,as,a,o,h=>by cases as<;>cases h
 | x::l,i,[],a,o,h=>by cases h
 | x::l,i,b::as,a,o,h=>by
  unfold sL at h
  cases e:Nat.beq b i with
  | true =>
   rw[e]at h
   have e':=Nat.eq_of_beq_eq_true e
   subst e'
   simp only[List.lookup]at h
   cases e2:a == b with
   | true =>
    rw[e2]at h
    have:a=b:=by simpa using e2
    subst this
    cases h
    exact⟨Nat.le_refl _,by simp⟩
   | false =>
    rw[e2]at h
    obtain⟨h1,h2⟩:=rN l _ as a o h
    refine⟨by omega,?_⟩
    have e3:a - b=(a - (b + 1)) + 1:=by have h1:b + 1 ≤ a:=h1;omega
    rw[e3]
    simpa using h2
  | false =>
   rw[e]at h
   obtain⟨h1,h2⟩:=rN l _ (b::as) a o h
   refine⟨by omega,?_⟩
   have e3:a - i=(a - (i + 1)) + 1:=by have h1:i + 1 ≤ a:=h1;omega
   rw[e3]
   simpa using h2
noncomputable def Mq (o:Obj):Bool:=match o with
 | ⟨_,_,.freed,_⟩=>false
 | _=>true
theorem Fe (P:Params):(KF P).all (fun p=>Mq p.2)=true:=by kernel_rfl
theorem yT {a:Addr}{o:Obj}:∀ {l:Frag},l.lookup a=some o→(a,o) ∈ l
 | [],h=>by cases h
 | (b,x)::l,h=>by
  simp only[List.lookup]at h
  cases e:a == b with
  | true =>
   rw[e]at h
   have:a=b:=by simpa using e
   subst this
   cases h
   exact .head _
  | false=>rw[e]at h;exact .tail _ (yT h)
theorem NU (P:Params) (life:Life):(KF P).In ⟨(nO P).toArray,life⟩:=fun a o h=>by
 have h1:=(rN _ _ _ _ _ h).2
 have h2:=List.all_eq_true.mp (Fe P) _ (yT h)
 unfold Heap.get?
 rw[show((⟨(nO P).toArray,life⟩:Heap).objs[a]?)=(nO P)[a - 0]? by simp]
 rw[h1]
 obtain⟨c,d,D,S⟩:=o
 cases D<;>first | rfl | (exact Bool.noConfusion (show false=true from h2))
theorem EA:(chainsOk qv&&opensWell lw.row.prog&&(frees lw.row.toRowW&&lw.row.within.isEmpty))=true:=by
 have e:opensWell lw.row.prog=true:=by
  show((opening pw).tameTopW&&!bearImports (behindTheImports pw))=true
  rw[Rk,QN];rfl
 rw[QY,e,RN];rfl
end Mine
end
section
namespace Mine
theorem EO:looksOpen lw.row.prog=true:=by
 have a:=P5;have b:=Pe;have c:=PO;have d:=QH;have e:=QE
 show(sreFenced pw.main&&((moduleNames pw.main.body).isEmpty||lookedIntoSs (moduleNames pw.main.body) pw.main.body) &&
 namesResolve pw&&pw.boundNames.all (fun n=>!worldNames.contains n)&&noRoadLSs { strict:=!(importedModules pw.main.body).all cThrough.contains,foot:=none,bare:=(["vars","dir","locals"]:List Str).filter (readsOut pw pw.main.body) } pw.main.body&&namesMeet pw pw.main.body fun _ n=>attrL n)=true
 rw[a,b,c,d,e];rfl
theorem wG:lw.row.wellSaid=true:=by
 unfold OpenRow.wellSaid OpenRow.partSaid
 exact b0 (b0 (b0 (b0 (b0 (b0 (b0 (b0 (b0 (b0 (b0 (b0 (b0 (b0 (b0 (EO) (by kernel_rfl)) (by kernel_rfl)) (by kernel_rfl)) (by kernel_rfl)) (by kernel_rfl)) (by kernel_rfl)) (by kernel_rfl)) (by kernel_rfl)) (by kernel_rfl)) (by kernel_rfl)) (by kernel_rfl)) (by kernel_rfl)) (by kernel_rfl)) (by kernel_rfl)) (by kernel_rfl)
theorem PQ:lw.wellSaid=true:=by
 unfold OpenLaw.wellSaid
 exact b0 (b0 (b0 (b0 (b0 (b0 (b0 (b0 (b0 (b0 (b0 (b0 (b0 (b0 (b0 (b0 (b0 (b0 (wG) (by kernel_rfl)) (by kernel_rfl)) (by kernel_rfl)) (by kernel_rfl)) (by kernel_rfl)) II) (by kernel_rfl)) (by kernel_rfl)) (by kernel_rfl)) (by simp only[PySem.W.Fast.named_eq];kernel_rfl)) (by kernel_rfl)) (by kernel_rfl)) Eo) (by kernel_rfl)) (by kernel_rfl)) (by simp only[PySem.W.Fast.named_eq];kernel_rfl)) FA) EU
theorem JJ (s:Shared):RecFacts [] s.heap:=by
 unfold RecFacts
 refine⟨fun x h=>?_,fun x h=>?_,fun c c' a h=>?_,fun c fs h=>?_⟩
 ·cases h
 ·cases h
 ·cases h
 ·cases h
theorem cw:lw.Holds:=⟨PQ,holds_open (r:=lw.row) I2 (YP:=HR) (fun w s e=>by
  have e:s.heap=(⟨(nO w.params).toArray,(boot_heap w.params).life⟩:Heap):=e
  rw[e]
  exact⟨KF w.params,NU w.params _,IG w,IJ w.params⟩) DM (XP:=fun _ _=>True) (fun _ _=>trivial) (fun _ _ _ h _=>h) Ji hp hk (fun s _=>JJ s) rfl wG EA Ir MF ES⟩
end Mine
end
end
set_option maxRecDepth 100000 in
set_option maxHeartbeats 8000000 in
theorem PySem.Challenge.cw_rg0187_01_holds : PySem.Challenge.rw_rg0187_01.Holds := by
  exact Mine.cw
